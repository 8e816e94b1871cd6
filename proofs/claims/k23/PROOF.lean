import PyProof.Rows.All
import Wide.All
import OpenK.AllK
import Wide.FinOn
import HandS.ForMost
import HandS.Wide
import HandS.IsInst
import HandS.Flow
import HandS.TupAny
import HandS.TupMul
import HandS.Deep
import HandS.Exc
import HandS.ExcOwn
import HandS.CallSlots
import HandS.TryOnly
import HandS.TryMany
import HandS.ExcIs
import HandS.ExcField
import HandS.ExcBuiltin
import HandS.WordsExc
import HandS.StrMore
import HandS.More
import HandS.Small
import HandS.TupLen
import HandS.WordsDict
import HandS.Conv
import HandS.RevRange
import HandS.Walk
import HandS.Zip
import HandS.Rev
import HandS.ExcValue
import KE.KIsAll
import PySem.Challenge.RW_leafsay_k23_trees_written
set_option Elab.async false
set_option linter.all false
set_option maxRecDepth 100000
namespace DI
open PySem PySem.Spec PyProof.Rows L2

/-! ## 1. plain values, the plain heap, results -/
inductive D where
  | non | bl (b : Bool) | int (i : Int) | str (x : List Nat)
  | tup (xs : List D) | lst (xs : List D) | scr (ns : List Int)
  | ref (n : Nat)
  deriving Inhabited

/-- a key of a dict: a number, a text -/
abbrev KD := Int ⊕ List Nat
/-- an object of the plain heap -/
inductive Ob where
  | lst (ds : List D)
  | ins (c : Nat) (fs : List (List Nat × D))
  /-- dicts: keys ints and texts; keys tuples of these; the same, walked by a loop -/
  | dk (kvs : List (KD × D))
  | dt (kvs : List (List KD × D))
  | fk (kvs : List (KD × D))
  | ft (kvs : List (List KD × D))
  | dead
abbrev AH := List Ob
/-- an exception: its class (by number), its payload -/
structure EV where
  cls : Nat
  pay : Option D := none

inductive R (α : Type) where
  | ok (x : α) (h : AH)
  | exc (e : EV) (h : AH)
  | bad
def R.bind {α β : Type} (r : R α) (f : α → AH → R β) : R β := match r with
  | .ok x h => f x h
  | .exc e h => .exc e h
  | .bad => .bad
@[simp] theorem R.bind_ok {α β : Type} (x : α) (h : AH) (f : α → AH → R β) : (R.ok x h).bind f = f x h := rfl
@[simp] theorem R.bind_exc {α β : Type} (e : EV) (h : AH) (f : α → AH → R β) : (R.exc e h : R α).bind f = .exc e h := rfl
@[simp] theorem R.bind_bad {α β : Type} (f : α → AH → R β) : (R.bad : R α).bind f = .bad := rfl
def R.opt {α : Type} (o : Option α) (h : AH) : R α := match o with
  | some x => .ok x h
  | none => .bad
@[simp] theorem R.opt_some {α : Type} (x : α) (h : AH) : R.opt (some x) h = .ok x h := rfl
@[simp] theorem R.opt_none {α : Type} (h : AH) : R.opt (none : Option α) h = .bad := rfl

/-! ## 2. how plain things lie in the layer's heap -/
structure Cf where
  M : Addr → Prop
  r : List Addr
  H : Hp

def mkS (x : List Nat) : Str := ⟨x.toArray⟩
def TupAt (K : PySem.W.Frag) (c : Cf) (a : Addr) (xs : List V) : Prop := ¬ c.M a ∧ c.H a = some (.tup xs)
def ScrAt (K : PySem.W.Frag) (c : Cf) (a : Addr) (xs : List V) : Prop :=
  (¬ c.M a ∧ ∃ o, c.H a = some (.frz o (.lst xs))) ∨
    ∃ (o : Obj) (its : Array Value) (n : Nat), K.lookup a = some o ∧ o.cls = .type "list" ∧ o.dict = none ∧ o.data = .seq its n ∧ its.size ≤ sizeLine ∧ Vals xs its.toList
theorem TupAt.sq {K : PySem.W.Frag} {c : Cf} {a : Addr} {xs : List V} (h : TupAt K c a xs) : SqT K c.H a xs := by
  exact .of h.2
theorem ScrAt.sq {K : PySem.W.Frag} {c : Cf} {a : Addr} {xs : List V} (h : ScrAt K c a xs) : SqL K c.H a xs := by
  rcases h with ⟨_, o, h⟩ | h
  · exact .inl (.inr ⟨o, h⟩)
  · exact .inr h

mutual
def Rep (K : PySem.W.Frag) (c : Cf) : D → V → Prop
  | .non, v => v = .non
  | .bl b, v => v = .bl b
  | .int i, v => v = .int i
  | .str x, v => PySem.PyData.strOk (mkS x) = true ∧ x.length ≤ sizeLine ∧ v = .str (mkS x)
  | .tup ds, v => ∃ a xs, v = .ref a ∧ TupAt K c a xs ∧ Reps K c ds xs
  | .lst ds, v => ∃ a xs, v = .ref a ∧ ¬ c.M a ∧ c.H a = some (.lst xs) ∧ Reps K c ds xs
  | .scr ns, v => ∃ a, v = .ref a ∧ ScrAt K c a (ns.map V.int)
  | .ref n, v => ∃ a, v = .ref a ∧ c.r[n]? = some a
def Reps (K : PySem.W.Frag) (c : Cf) : List D → List V → Prop
  | [], xs => xs = []
  | d :: ds, xs => ∃ x r, xs = x :: r ∧ Rep K c d x ∧ Reps K c ds r
end

structure Step (c c' : Cf) : Prop where
  pre : ∀ (n : Nat) a, c.r[n]? = some a → c'.r[n]? = some a
  mono : ∀ a, c.M a → c'.M a
  fresh : ∀ a, c'.M a → c.M a ∨ c.H a = none
  newr : ∀ (n : Nat) a, c'.r[n]? = some a → c.r.length ≤ n → c.H a = none
  keep : ∀ a o, c.H a = some o → a ∉ c.r → c'.H a = some o
  dom : ∀ a, c.H a ≠ none → c'.H a ≠ none

theorem Step.refl (c : Cf) : Step c c :=
  ⟨fun _ _ h => h, fun _ h => h, fun _ h => .inl h, fun n a h l => (by
    have := (List.getElem?_eq_some_iff.mp h).1
    omega), fun _ _ h _ => h, fun _ h => h⟩
theorem Step.mem {c c' : Cf} (s : Step c c') {a : Addr} (h : a ∈ c'.r) (hs : c.H a ≠ none) : a ∈ c.r := by
  obtain ⟨n, hn, e⟩ := List.mem_iff_getElem.mp h
  have e' : c'.r[n]? = some a := by rw [List.getElem?_eq_getElem hn, e]
  by_cases hl : c.r.length ≤ n
  · exact absurd (s.newr n a e' hl) hs
  · have hl' : n < c.r.length := by omega
    have q := s.pre n c.r[n] (List.getElem?_eq_getElem hl')
    rw [e'] at q
    cases q
    exact List.getElem_mem hl'
theorem Step.trans {c c1 c2 : Cf} (s : Step c c1) (t : Step c1 c2) : Step c c2 where
  pre := fun n a h => t.pre n a (s.pre n a h)
  mono := fun a h => t.mono a (s.mono a h)
  fresh := fun a h => by
    rcases t.fresh a h with h | h
    · exact s.fresh a h
    · by_cases q : c.H a = none
      · exact .inr q
      · exact absurd h (s.dom a q)
  newr := fun n a h l => by
    by_cases l1 : c1.r.length ≤ n
    · have h1 := t.newr n a h l1
      by_cases q : c.H a = none
      · exact q
      · exact absurd h1 (s.dom a q)
    · have l1' : n < c1.r.length := by omega
      have q := t.pre n c1.r[n] (List.getElem?_eq_getElem l1')
      rw [h] at q
      cases q
      exact s.newr n _ (List.getElem?_eq_getElem l1') l
  keep := fun a o h n => t.keep a o (s.keep a o h n) fun m => n (s.mem m (by rw [h]; simp))
  dom := fun a h => t.dom a (s.dom a h)

/-- the exception that an except suite holds: its name's slot, its place, its class by number, its dict, its payload -/
structure XA where
  j : Option Nat
  a : Addr
  cls : Nat
  dx : Option Addr
  pay : Option D
/-- where classes of the text's own stand: by number -/
structure CA where
  cls : Nat → Option Addr
  xa : Option XA := none
def CA.free (ca : CA) (i : Nat) : Prop := ∀ x, ca.xa = some x → x.j ≠ some i
abbrev payF : Str := Str.ofString "ring"
def RepFs (K : PySem.W.Frag) (c : Cf) (fs : List (List Nat × D)) (gs : List (Str × V)) : Prop :=
  Paired (fun (p : List Nat × D) (q : Str × V) => q.1 = mkS p.1 ∧ Rep K c p.2 q.2) fs gs
def kF : KD → Key
  | .inl i => .inl i
  | .inr x => .inr (mkS x)
def kOk : KD → Prop
  | .inl _ => True
  | .inr x => PySem.PyData.strOk (mkS x) = true ∧ x.length ≤ sizeLine
def RepK {κ κ' : Type} (f : κ → κ') (ok : κ → Prop) (K : PySem.W.Frag) (c : Cf) (ks : List (κ × D)) (xs : List (κ' × V)) : Prop := Paired (fun (p : κ × D) (q : κ' × V) => q.1 = f p.1 ∧ ok p.1 ∧ Rep K c p.2 q.2) ks xs
abbrev RepK1 := @RepK KD Key kF kOk
abbrev RepK2 := @RepK (List KD) (List Key) (List.map kF) (fun ks => ∀ k ∈ ks, kOk k)
def RepO (K : PySem.W.Frag) (cl : Nat → Option Addr) (c : Cf) (o : Ob) (a : Addr) : Prop := match o with
  | .lst ds => ∃ xs, c.H a = some (.lst xs) ∧ Reps K c ds xs
  | .ins n fs => ∃ C dx gs, cl n = some C ∧ c.H a = some (.ins C dx gs) ∧ RepFs K c fs gs
  | .dk ks => ∃ xs, c.H a = some (.dK xs) ∧ RepK1 K c ks xs
  | .dt ks => ∃ xs, c.H a = some (.dT xs) ∧ RepK2 K c ks xs
  | .fk ks => ∃ o xs, c.H a = some (.frz o (.dK xs)) ∧ RepK1 K c ks xs
  | .ft ks => ∃ o xs, c.H a = some (.frz o (.dT xs)) ∧ RepK2 K c ks xs
  | .dead => True

/-- no tuple -/
def nt (o : HO) : Prop := ∀ xs, o ≠ .tup xs
structure SR0 (K : PySem.W.Frag) (cl : Nat → Option Addr) (c : Cf) (hp : AH) : Prop where
  len : c.r.length = hp.length
  nd : c.r.Nodup
  inM : ∀ a ∈ c.r, c.M a
  ally : ∀ a, c.M a → ∃ o, c.H a = some o ∧ nt o
  objs : ∀ (i : Nat) a o, c.r[i]? = some a → hp[i]? = some o → RepO K cl c o a
theorem SR0.alloc {K : PySem.W.Frag} {cl : Nat → Option Addr} {c : Cf} {hp : AH} (h : SR0 K cl c hp) (a : Addr) (m : c.M a) : c.H a ≠ none := by
  obtain ⟨o, e, _⟩ := h.ally a m
  rw [e]; simp
abbrev SR (K : PySem.W.Frag) (ca : CA) (c : Cf) (hp : AH) : Prop := SR0 K ca.cls c hp

section
variable {K : PySem.W.Frag} {ca : CA} {c c' : Cf} {hp : AH}
theorem TupAt.step {a : Addr} {xs : List V} (inM : ∀ a ∈ c.r, c.M a) (s : Step c c') (h : TupAt K c a xs) : TupAt K c' a xs := by
  obtain ⟨n, h⟩ := h
  refine ⟨fun m => ?_, s.keep a _ h fun m => n (inM a m)⟩
  rcases s.fresh a m with q | q
  · exact n q
  · rw [h] at q; cases q
theorem ScrAt.step {a : Addr} {xs : List V} (inM : ∀ a ∈ c.r, c.M a) (s : Step c c') (h : ScrAt K c a xs) : ScrAt K c' a xs := by
  rcases h with ⟨n, o, h⟩ | h
  · refine .inl ⟨fun m => ?_, o, s.keep a _ h fun m => n (inM a m)⟩
    rcases s.fresh a m with q | q
    · exact n q
    · rw [h] at q; cases q
  · exact .inr h
mutual
theorem Rep.step (inM : ∀ a ∈ c.r, c.M a) (s : Step c c') : ∀ (d : D) (v : V), Rep K c d v → Rep K c' d v
  | .non, _, h => h
  | .bl _, _, h => h
  | .int _, _, h => h
  | .str _, _, h => h
  | .tup ds, v, h => by
    simp only [Rep] at h ⊢
    obtain ⟨a, xs, e, t, q⟩ := h
    exact ⟨a, xs, e, t.step inM s, Reps.step inM s ds xs q⟩
  | .lst ds, v, h => by
    simp only [Rep] at h ⊢
    obtain ⟨a, xs, e, n, t, q⟩ := h
    refine ⟨a, xs, e, fun m => ?_, s.keep a _ t fun m => n (inM a m), Reps.step inM s ds xs q⟩
    rcases s.fresh a m with z | z
    · exact n z
    · rw [t] at z; cases z
  | .scr ns, v, h => by
    simp only [Rep] at h ⊢
    obtain ⟨a, e, t⟩ := h
    exact ⟨a, e, t.step inM s⟩
  | .ref n, v, h => by
    simp only [Rep] at h ⊢
    obtain ⟨a, e, t⟩ := h
    exact ⟨a, e, s.pre n a t⟩
theorem Reps.step (inM : ∀ a ∈ c.r, c.M a) (s : Step c c') : ∀ (ds : List D) (xs : List V), Reps K c ds xs → Reps K c' ds xs
  | [], _, h => h
  | d :: ds, xs, h => by
    simp only [Reps] at h ⊢
    obtain ⟨x, r, e, h1, h2⟩ := h
    exact ⟨x, r, e, Rep.step inM s d x h1, Reps.step inM s ds r h2⟩
end
theorem Reps.mono (g : ∀ d v, Rep K c d v → Rep K c' d v) : ∀ (ds : List D) (xs : List V), Reps K c ds xs → Reps K c' ds xs
  | [], _, h => by simp only [Reps] at h ⊢; exact h
  | d :: ds, xs, h => by
    simp only [Reps] at h ⊢
    obtain ⟨x, r, e, h1, h2⟩ := h
    exact ⟨x, r, e, g d x h1, Reps.mono g ds r h2⟩
theorem RepK.mono {κ κ' : Type} {f : κ → κ'} {ok : κ → Prop} {ks : List (κ × D)} {xs : List (κ' × V)} (g : ∀ d v, Rep K c d v → Rep K c' d v) (h : RepK f ok K c ks xs) : RepK f ok K c' ks xs := Paired.mapP h fun a b z => ⟨z.1, z.2.1, g _ _ z.2.2⟩
theorem RepO.mono {cl : Nat → Option Addr} {o : Ob} {a : Addr} (hk : c'.H a = c.H a) (g : ∀ d v, Rep K c d v → Rep K c' d v) (h : RepO K cl c o a) : RepO K cl c' o a := by
  cases o with
  | lst ds =>
    obtain ⟨xs, e, rr⟩ := h
    exact ⟨xs, by rw [hk]; exact e, rr.mono g⟩
  | ins n fs =>
    obtain ⟨C, dx, gs, e0, e, rr⟩ := h
    exact ⟨C, dx, gs, e0, by rw [hk]; exact e, Paired.mapP rr fun a b z => ⟨z.1, g _ _ z.2⟩⟩
  | dk ks =>
    obtain ⟨xs, e, rr⟩ := h
    exact ⟨xs, by rw [hk]; exact e, rr.mono g⟩
  | dt ks =>
    obtain ⟨xs, e, rr⟩ := h
    exact ⟨xs, by rw [hk]; exact e, rr.mono g⟩
  | fk ks =>
    obtain ⟨o, xs, e, rr⟩ := h
    exact ⟨o, xs, by rw [hk]; exact e, rr.mono g⟩
  | ft ks =>
    obtain ⟨o, xs, e, rr⟩ := h
    exact ⟨o, xs, by rw [hk]; exact e, rr.mono g⟩
  | dead => trivial
theorem Reps.length : ∀ {ds : List D} {xs : List V}, Reps K c ds xs → xs.length = ds.length
  | [], _, h => by simp only [Reps] at h; subst h; rfl
  | d :: ds, xs, h => by
    simp only [Reps] at h
    obtain ⟨x, r, e, h1, h2⟩ := h
    subst e
    simp [Reps.length h2]
theorem Reps.append : ∀ {ds es : List D} {xs ys : List V}, Reps K c ds xs → Reps K c es ys → Reps K c (ds ++ es) (xs ++ ys)
  | [], _, _, _, h, g => by simp only [Reps] at h; subst h; exact g
  | d :: ds, es, xs, ys, h, g => by
    simp only [Reps] at h
    obtain ⟨x, r, e, h1, h2⟩ := h
    subst e
    simp only [List.cons_append, Reps]
    exact ⟨x, r ++ ys, rfl, h1, Reps.append h2 g⟩
theorem Reps.snoc {ds : List D} {d : D} {xs : List V} {x : V} (h : Reps K c ds xs) (g : Rep K c d x) : Reps K c (ds ++ [d]) (xs ++ [x]) :=
  h.append (by simp only [Reps]; exact ⟨x, [], rfl, g, rfl⟩)
theorem Reps.get : ∀ {ds : List D} {xs : List V} {i : Nat} {d : D}, Reps K c ds xs → ds[i]? = some d → ∃ x, xs[i]? = some x ∧ Rep K c d x
  | [], _, _, _, _, e => by simp at e
  | d :: ds, xs, i, d', h, e => by
    simp only [Reps] at h
    obtain ⟨x, r, q, h1, h2⟩ := h
    subst q
    cases i with
    | zero => simp at e; subst e; exact ⟨x, rfl, h1⟩
    | succ i => simp at e; obtain ⟨y, hy, r⟩ := Reps.get h2 e; exact ⟨y, by simpa using hy, r⟩
theorem Reps.get' : ∀ {ds : List D} {xs : List V} {i : Nat} {x : V}, Reps K c ds xs → xs[i]? = some x → ∃ d, ds[i]? = some d ∧ Rep K c d x := fun {ds xs i x} h e => by
  have hl := h.length
  have hi : i < ds.length := by have := (List.getElem?_eq_some_iff.mp e).1; omega
  obtain ⟨y, hy, r⟩ := h.get (List.getElem?_eq_getElem hi)
  rw [e] at hy; cases hy
  exact ⟨_, List.getElem?_eq_getElem hi, r⟩
theorem Reps.take : ∀ {ds : List D} {xs : List V} (n : Nat), Reps K c ds xs → Reps K c (ds.take n) (xs.take n)
  | [], _, n, h => by simp only [Reps] at h; subst h; simp [Reps]
  | d :: ds, xs, 0, h => by simp [Reps]
  | d :: ds, xs, n + 1, h => by
    simp only [Reps] at h
    obtain ⟨x, r, q, h1, h2⟩ := h
    subst q
    simp only [List.take_succ_cons, Reps]
    exact ⟨x, _, rfl, h1, Reps.take n h2⟩
theorem Reps.drop : ∀ {ds : List D} {xs : List V} (n : Nat), Reps K c ds xs → Reps K c (ds.drop n) (xs.drop n)
  | [], _, n, h => by simp only [Reps] at h; subst h; simp [Reps]
  | d :: ds, xs, 0, h => h
  | d :: ds, xs, n + 1, h => by
    simp only [Reps] at h
    obtain ⟨x, r, q, h1, h2⟩ := h
    subst q
    exact Reps.drop n h2
theorem Reps.one {d : D} {xs : List V} (h : Reps K c [d] xs) : ∃ x, xs = [x] ∧ Rep K c d x := by
  simp only [Reps] at h
  obtain ⟨x, r, q, h1, h2⟩ := h
  subst h2
  exact ⟨x, q, h1⟩
theorem Reps.two {d e : D} {xs : List V} (h : Reps K c [d, e] xs) : ∃ x y, xs = [x, y] ∧ Rep K c d x ∧ Rep K c e y := by
  simp only [Reps] at h
  obtain ⟨x, r, q, h1, y, r', q', h2, h3⟩ := h
  subst h3 q'
  exact ⟨x, y, q, h1, h2⟩

/-! slots -/
def PayOk (K : PySem.W.Frag) (c : Cf) (p : Option D) (dx : Option Addr) : Prop := match p with
  | none => dx = none
  | some d => ∃ a v, dx = some a ∧ c.H a = some (.xd [(payF, v)]) ∧ ¬ c.M a ∧ Rep K c d v
theorem PayOk.step {p : Option D} {dx : Option Addr} (inM : ∀ a ∈ c.r, c.M a) (s : Step c c') (h : PayOk K c p dx) : PayOk K c' p dx := by
  cases p with
  | none => exact h
  | some d =>
    obtain ⟨a, v, e1, e2, e3, e4⟩ := h
    refine ⟨a, v, e1, s.keep a _ e2 fun m => e3 (inM a m), fun m => ?_, e4.step inM s⟩
    rcases s.fresh a m with z | z
    · exact e3 z
    · rw [e2] at z; cases z
def XOk (K : PySem.W.Frag) (c : Cf) (xa : Option XA) (σ : L2.St) : Prop := match xa with
  | none => True
  | some x => (∀ j, x.j = some j → σ[j]? = some (some (.ref x.a))) ∧ PayOk K c x.pay x.dx
theorem XOk.step {xa : Option XA} {σ : L2.St} (inM : ∀ a ∈ c.r, c.M a) (s : Step c c') (h : XOk K c xa σ) : XOk K c' xa σ := by
  cases xa with
  | none => trivial
  | some x => exact ⟨h.1, h.2.step inM s⟩
def RepS (K : PySem.W.Frag) (ca : CA) (c : Cf) (sd : List (Option D)) (σ : L2.St) : Prop :=
  (sd.length = σ.length ∧ ∀ (i : Nat) d, sd[i]? = some (some d) → ∃ v, σ[i]? = some (some v) ∧ Rep K c d v) ∧ XOk K c ca.xa σ
theorem RepS.step {sd : List (Option D)} {σ : L2.St} (inM : ∀ a ∈ c.r, c.M a) (s : Step c c') (h : RepS K ca c sd σ) : RepS K ca c' sd σ :=
  ⟨⟨h.1.1, fun i d e => let ⟨v, q, r⟩ := h.1.2 i d e; ⟨v, q, r.step inM s⟩⟩, h.2.step inM s⟩
theorem XOk.set {xa : Option XA} {σ : L2.St} {i : Nat} {o : Option V} (h : XOk K c xa σ) (f : ∀ x, xa = some x → x.j ≠ some i) : XOk K c xa (σ.set i o) := by
  cases xa with
  | none => trivial
  | some x =>
    refine ⟨fun j e => ?_, h.2⟩
    rw [List.getElem?_set_ne (fun z => f x rfl (by rw [z]; exact e))]
    exact h.1 j e
theorem RepS.set {sd : List (Option D)} {σ : L2.St} {i : Nat} {d : D} {v : V} (h : RepS K ca c sd σ) (f : ca.free i) (r : Rep K c d v) : RepS K ca c (sd.set i (some d)) (σ.set i (some v)) := by
  refine ⟨⟨by simp [h.1.1], fun j d' e => ?_⟩, h.2.set f⟩
  by_cases hij : i = j
  · subst hij
    rw [List.getElem?_set] at e ⊢
    simp only [if_true] at e ⊢
    split at e
    · rename_i hl
      cases e
      rw [if_pos (by rw [← h.1.1]; exact hl)]
      exact ⟨v, rfl, r⟩
    · cases e
  · rw [List.getElem?_set_ne hij] at e ⊢
    exact h.1.2 j d' e
end
end DI
set_option Elab.async false
set_option linter.all false
set_option maxRecDepth 100000
namespace DI
open PySem PySem.Spec PyProof.Rows L2

/-! ## 3. the compact text -/
inductive Cl where
  | int | bool | str | tuple | list | dict | own (n : Nat)
  deriving DecidableEq, Inhabited, Repr
inductive Bi where
  | len | int | str | list | tuple | abs | min2 | max2 | sum | max | min
  deriving DecidableEq, Inhabited, Repr
inductive Me where
  | append | join | split | pop | insert | reverse | clear | index | startswith | partition | strip
  deriving DecidableEq, Inhabited, Repr
inductive Tg where
  | nm (i : Nat) | tp (is : List Nat)
  deriving Inhabited
mutual
inductive Ex where
  | bad
  | var (i : Nat)
  | cst (d : D)
  | bin (op : Operator) (mu : Bool) (a b : Ex)
  | neg (a : Ex)
  | cmp (op : CmpOp) (a b : Ex)
  | chn (o1 o2 : CmpOp) (a b c : Ex)
  | isN (a : Ex) | notN (a : Ex)
  | and_ (a b : Ex) | or_ (a b : Ex) | not_ (a : Ex)
  | tup (es : Exs) | lst (mu : Bool) (es : Exs)
  | idx (a i : Ex)
  | call (f : Nat) (es : Exs)
  | isi (e : Ex) (cs : List Cl)
  | bi (b : Bi) (mu : Bool) (es : Exs)
  | sli (mu : Bool) (a : Ex) (lo hi : Op)
  | me (m : Me) (mu : Bool) (o : Ex) (es : Exs)
  | lrng (mu two : Bool) (es : Exs)
  | lrev (mu tup : Bool) (e : Ex)
  | dnew (t : Bool)
  | inC (neg : Bool) (a : Ex) (ds : List D)
  | isE (subs : List Nat)
  | exf
  | comp (mu : Bool) (vs : List Nat) (g : Tg) (it : Ix) (c : Op) (e : Ex)
inductive Exs where
  | nil | cons (e : Ex) (es : Exs)
inductive Op where
  | no | yes (e : Ex)
inductive Ix where
  | bad | any (e : Ex) | rng (two : Bool) (es : Exs) | zip (es : Exs) | rev (e : Ex) | rrng (two : Bool) (es : Exs)
end
instance : Inhabited Ex := ⟨.bad⟩
instance : Inhabited Exs := ⟨.nil⟩
mutual
inductive Sx where
  | bad | pass
  | ret (e : Ex) | retN
  | expr (e : Ex)
  | set (i : Nat) (e : Ex)
  | ifs (c : Ex) (t e : Sxs)
  | for_ (g : Tg) (it : Ix) (b : Sxs)
  | forA (g : Tg) (e : Ex) (b : Sxs)
  | setI (o i e : Ex)
  | unp (is : List Nat) (e : Ex)
  | while_ (c : Ex) (b : Sxs)
  | aug (neg : Bool) (i : Nat) (e : Ex)
  | raise_ (n : Nat)
  | try_ (b : Sxs) (subs : List Nat) (j : Option Nat) (h : Sxs)
inductive Sxs where
  | nil | cons (e : Sx) (es : Sxs)
end
instance : Inhabited Sx := ⟨.bad⟩
instance : Inhabited Sxs := ⟨.nil⟩

structure Fn where
  ps : Nat
  n : Nat
  frz : Bool
  body : Sxs

/-! ## 4. what it means -/
noncomputable section
mutual
def D.noref : D → Bool
  | .ref _ => false
  | .tup ds => norefs ds
  | .lst ds => norefs ds
  | _ => true
def norefs : List D → Bool
  | [] => true
  | d :: ds => d.noref && norefs ds
end
mutual
def D.shift (n : Nat) : D → D
  | .ref m => .ref (n + m)
  | .tup ds => .tup (shifts n ds)
  | .lst ds => .lst (shifts n ds)
  | d => d
def shifts (n : Nat) : List D → List D
  | [] => []
  | d :: ds => d.shift n :: shifts n ds
end
def Ob.shift (n : Nat) : Ob → Ob
  | .lst ds => .lst (shifts n ds)
  | .ins c fs => .ins c (fs.map fun p => (p.1, p.2.shift n))
  | .dk ks => .dk (ks.map fun p => (p.1, p.2.shift n))
  | .dt ks => .dt (ks.map fun p => (p.1, p.2.shift n))
  | .fk ks => .fk (ks.map fun p => (p.1, p.2.shift n))
  | .ft ks => .ft (ks.map fun p => (p.1, p.2.shift n))
  | .dead => .dead
/-! data: no place of the heap, no script -/
mutual
def D.dat : D → Bool
  | .ref _ => false
  | .scr _ => false
  | .tup ds => dats ds
  | .lst ds => dats ds
  | _ => true
def dats : List D → Bool
  | [] => true
  | d :: ds => d.dat && dats ds
end
mutual
def D.dep : D → Nat
  | .tup ds => deps ds + 1
  | .lst ds => deps ds + 1
  | _ => 0
def deps : List D → Nat
  | [] => 0
  | d :: ds => max d.dep (deps ds)
end
/-! Python's == of data -/
mutual
def eqv : D → D → Bool
  | .non, y => match y with | .non => true | _ => false
  | .bl a, y => match y with | .bl b => a == b | .int j => (if a then 1 else 0) == j | _ => false
  | .int i, y => match y with | .bl b => i == (if b then 1 else 0) | .int j => i == j | _ => false
  | .str x, y => match y with | .str z => x == z | _ => false
  | .lst xs, y => match y with | .lst ys => eqvs xs ys | _ => false
  | .tup xs, y => match y with | .tup ys => eqvs xs ys | _ => false
  | .scr _, _ => false
  | .ref _, _ => false
def eqvs : List D → List D → Bool
  | [], ys => match ys with | [] => true | _ => false
  | x :: xs, ys => match ys with | [] => false | y :: ys => eqv x y && eqvs xs ys
end
/-- the items of a list -/
def asL (hp : AH) : D → Option (List D)
  | .lst ds => some ds
  | .ref n => match hp[n]? with
    | some (.lst ds) => some ds
    | _ => none
  | _ => none
/-- a list of the heap as the data that it is now -/
def now (hp : AH) (d : D) : D := match d with
  | .ref n => match hp[n]? with
    | some (.lst ds) => .lst ds
    | _ => d
  | _ => d
def D.isNon : D → Bool
  | .non => true
  | _ => false
def addD (hp : AH) (x y : D) : Option D := match x, y with
  | .int a, .int b => some (.int (a + b))
  | .str a, .str b => @ite _ (a.length + b.length ≤ 16777216) (Classical.propDecidable (a.length + b.length ≤ 16777216)) (some (.str (a ++ b))) (none)
  | .tup a, .tup b => @ite _ (a.length + b.length ≤ 16777216) (Classical.propDecidable (a.length + b.length ≤ 16777216)) (some (.tup (a ++ b))) (none)
  | x, y => match asL hp x, asL hp y with
    | some a, some b => @ite _ (a.length + b.length ≤ 16777216) (Classical.propDecidable (a.length + b.length ≤ 16777216)) (some (.lst (a ++ b))) (none)
    | _, _ => none
def subD (x y : D) : Option D := match x, y with
  | .int a, .int b => some (.int (a - b))
  | _, _ => none
def repL {α : Type} (k : Int) (xs : List α) : List α := (List.replicate k.toNat xs).flatten
def mulD (hp : AH) (x y : D) : Option D := match x, y with
  | .int a, .int b => @ite _ ((-18446744073709551616 < a ∧ a < 18446744073709551616) ∨ (-18446744073709551616 < b ∧ b < 18446744073709551616)) (Classical.propDecidable ((-18446744073709551616 < a ∧ a < 18446744073709551616) ∨ (-18446744073709551616 < b ∧ b < 18446744073709551616))) (some (.int (a * b))) (none)
  | .str a, .int k => @ite _ (-1000000 < k ∧ k < 1000000 ∧ a.length * k.toNat ≤ 16777216) (Classical.propDecidable (-1000000 < k ∧ k < 1000000 ∧ a.length * k.toNat ≤ 16777216)) (some (.str (repL k a))) (none)
  | .tup a, .int k => @ite _ (2 ≤ k ∧ k ≤ 1000 ∧ a.length ≤ 1000 ∧ a.isEmpty = false) (Classical.propDecidable (2 ≤ k ∧ k ≤ 1000 ∧ a.length ≤ 1000 ∧ a.isEmpty = false)) (some (.tup (repL k a))) (none)
  | x, .int k => (asL hp x).bind fun a => @ite _ (-1000000 < k ∧ k < 1000000 ∧ a.length * k.toNat ≤ 16777216) (Classical.propDecidable (-1000000 < k ∧ k < 1000000 ∧ a.length * k.toNat ≤ 16777216)) (some (.lst (repL k a))) (none)
  | _, _ => none
def divD (x y : D) : Option D := match x, y with
  | .int a, .int b => @ite _ (0 < b ∧ b < 18446744073709551616) (Classical.propDecidable (0 < b ∧ b < 18446744073709551616)) (some (.int (a / b))) (none)
  | _, _ => none
def modD (x y : D) : Option D := match x, y with
  | .int a, .int b => @ite _ (0 < b) (Classical.propDecidable (0 < b)) (some (.int (a % b))) (none)
  | _, _ => none
def powD (x y : D) : Option D := match x, y with
  | .int a, .int b => @ite _ (0 ≤ b ∧ b ≤ 1000000 ∧ a.natAbs < 2 ^ 64) (Classical.propDecidable (0 ≤ b ∧ b ≤ 1000000 ∧ a.natAbs < 2 ^ 64)) (some (.int (a ^ b.toNat))) (none)
  | _, _ => none
def binop (op : Operator) (hp : AH) (x y : D) : Option D := match op with
  | .Add => addD hp x y
  | .Sub => subD x y
  | .Mult => mulD hp x y
  | .FloorDiv => divD x y
  | .Mod => modD x y
  | .Pow => powD x y
  | _ => none
def ints2 (f : Int → Int → Bool) (x y : D) : Option D := match x, y with
  | .int a, .int b => some (.bl (f a b))
  | _, _ => none
def eqD (hp : AH) (x y : D) : Option Bool :=
  if (now hp x).dat && (now hp y).dat && (decide ((now hp x).dep ≤ 100) || decide ((now hp y).dep ≤ 100)) then some (eqv (now hp x) (now hp y)) else none
def D.flat : D → Bool
  | .non | .bl _ | .int _ | .str _ => true
  | _ => false
def inL (x : D) (ds : List D) : Option Bool := if x.flat && ds.all D.flat then some (ds.any fun d => eqv d x) else none
/-- in a list: flat things, or data of any depth -/
def inA (hp : AH) (x : D) (ds : List D) : Option Bool := match inL x ds with
  | some b => some b
  | none => if (now hp x).dat && dats ds && decide ((now hp x).dep ≤ 64) && decide (deps ds ≤ 63) then some (ds.any fun d => eqv d (now hp x)) else none
def inD (hp : AH) (x y : D) : Option Bool := match y with
  | .str z => match x with
    | .str [c] => some (decide (c ∈ z))
    | _ => none
  | .tup ds => inL x ds
  | y => (asL hp y).bind fun ds => inA hp x ds
def cmpop (op : CmpOp) (hp : AH) (x y : D) : Option D := match op with
  | .Eq => (eqD hp x y).map D.bl
  | .NotEq => (eqD hp x y).map fun b => D.bl (!b)
  | .Lt => ints2 (fun a b => decide (a < b)) x y
  | .LtE => ints2 (fun a b => decide (a ≤ b)) x y
  | .Gt => ints2 (fun a b => decide (b < a)) x y
  | .GtE => ints2 (fun a b => decide (b ≤ a)) x y
  | .In => (inD hp x y).map D.bl
  | .NotIn => (inD hp x y).map fun b => D.bl (!b)
  | _ => none
def truth (hp : AH) (x : D) : Option Bool := match x with
  | .non => some false
  | .bl b => some b
  | .int i => some (i != 0)
  | .str s => some (!s.isEmpty)
  | .tup ds => some (!ds.isEmpty)
  | x => (asL hp x).map fun ds => !ds.isEmpty
def isCl : Cl → D → Bool
  | .int, .int _ | .int, .bl _ | .bool, .bl _ | .str, .str _ | .tuple, .tup _ | .list, .lst _ | .list, .scr _ => true
  | _, _ => false
def isi1 (hp : AH) (cs : List Cl) (x : D) : Option Bool := match now hp x with
  | .ref _ => none
  | x => some (cs.any fun c => isCl c x)
def atL {α : Type} (xs : List α) (i : Int) : Option α := if 0 ≤ i then xs[i.toNat]? else if -(xs.length : Int) ≤ i then xs[(i + xs.length).toNat]? else none
def idxD (hp : AH) (x i : D) : Option D := match x, i with
  | .tup ds, .int i => atL ds i
  | .str s, .int i => (atL s i).map fun c => .str [c]
  | .scr ns, .int i => (atL ns i).map D.int
  | x, .int i => (asL hp x).bind fun ds => atL ds i
  | _, _ => none
def lenD (hp : AH) (x : D) : Option D := match x with
  | .str s => some (.int s.length)
  | .tup ds => some (.int ds.length)
  | .scr ns => some (.int ns.length)
  | x => (asL hp x).map fun ds => .int ds.length
def digs (i : Int) : List Nat := (toString i).toList.map Char.toNat
/-- the getInts of a list -/
def getInts : List D → Option (List Int)
  | [] => some []
  | .int i :: ds => (getInts ds).map (i :: ·)
  | _ => none
def maxI : List Int → Int
  | [] => 0
  | [i] => i
  | i :: is => max i (maxI is)
def minI : List Int → Int
  | [] => 0
  | [i] => i
  | i :: is => min i (minI is)
def intD (a : List Nat) : Option Int := if a.length ≤ 640 then PySem.intText? (mkS a) else none
def biD (b : Bi) (hp : AH) (xs : List D) : Option D := match b with
  | .len => match xs with
    | [x] => lenD hp x
    | _ => none
  | .int => match xs with
    | [.int i] => some (.int i)
    | [.bl b] => some (.int (if b then 1 else 0))
    | [.str a] => (intD a).map D.int
    | _ => none
  | .str => match xs with
    | [.int i] => @ite _ (i.natAbs < 1000000000000000000000000000000) (Classical.propDecidable (i.natAbs < 1000000000000000000000000000000)) (some (.str (digs i))) (none)
    | _ => none
  | .list => match xs with
    | [.tup ds] => some (.lst ds)
    | [.scr ns] => some (.lst (ns.map D.int))
    | [x] => (asL hp x).map D.lst
    | _ => none
  | .tuple => match xs with
    | [.tup ds] => some (.tup ds)
    | [x] => (asL hp x).map D.tup
    | _ => none
  | .min2 => match xs with
    | [.int i, .int j] => some (.int (if j < i then j else i))
    | _ => none
  | .max2 => match xs with
    | [.int i, .int j] => some (.int (if j > i then j else i))
    | _ => none
  | .sum => match xs with
    | [.scr ns] => some (.int ns.sum)
    | [x] => (asL hp x).bind fun ds => (getInts ds).map fun ns => .int ns.sum
    | _ => none
  | .max => match xs with
    | [x] => (asL hp x).bind fun ds => (getInts ds).bind fun ns => if ns.isEmpty then none else some (.int (maxI ns))
    | _ => none
  | .min => match xs with
    | [x] => (asL hp x).bind fun ds => (getInts ds).bind fun ns => if ns.isEmpty then none else some (.int (minI ns))
    | _ => none
  | .abs => none
/-- the part of a slice -/
def sIx (n d : Nat) (o : Option Int) : Nat := HT.sIx n d o
def cutL {α : Type} (xs : List α) (lo hi : Option Int) : List α := (xs.drop (HT.sIx xs.length 0 lo)).take (HT.sIx xs.length xs.length hi - HT.sIx xs.length 0 lo)
def sliD (hp : AH) (x : D) (lo hi : Option Int) : Option D := match x with
  | .str s => some (.str (cutL s lo hi))
  | .tup ds => some (.tup (cutL ds lo hi))
  | .scr ns => some (.lst (cutL (ns.map D.int) lo hi))
  | x => (asL hp x).map fun ds => .lst (cutL ds lo hi)
/-- texts -/
def getStrs : List D → Option (List (List Nat))
  | [] => some []
  | .str x :: ds => (getStrs ds).map (x :: ·)
  | _ => none
def joinL (sep : List Nat) : List (List Nat) → List Nat
  | [] => []
  | [x] => x
  | x :: xs => x ++ sep ++ joinL sep xs
def joinD (hp : AH) (sep x : D) : Option D := match sep, x with
  | .str a, .tup ds => (getStrs ds).bind fun xs => @ite _ ((xs.map (·.length)).sum + xs.length * a.length ≤ 16777216) (Classical.propDecidable ((xs.map (·.length)).sum + xs.length * a.length ≤ 16777216)) (some (.str (joinL a xs))) (none)
  | .str a, x => (asL hp x).bind fun ds => (getStrs ds).bind fun xs => @ite _ ((xs.map (·.length)).sum + xs.length * a.length ≤ 16777216) (Classical.propDecidable ((xs.map (·.length)).sum + xs.length * a.length ≤ 16777216)) (some (.str (joinL a xs))) (none)
  | _, _ => none
/-- whether the method makes a new list -/
def Me.fresh : Me → Bool
  | .split => true
  | _ => false
/-- what kind of thing has the method -/
def meT (m : Me) (hp : AH) (o : D) : Bool := match m with
  | .append | .pop | .insert | .reverse | .clear => (asL hp o).isSome
  | .join | .strip | .startswith | .split | .partition => match o with
    | .str _ => true
    | _ => false
  | _ => false
/-- a method of a built-in, what it makes and the heap behind it -/
def meD (m : Me) (hp : AH) (o : D) (xs : List D) : Option (D × AH) := match m with
  | .append => match o, xs with
    | .ref n, [x] => match hp[n]? with
      | some (.lst ds) => @ite _ (ds.length < 16777216) (Classical.propDecidable (ds.length < 16777216)) (some (.non, hp.set n (.lst (ds ++ [x])))) (none)
      | _ => none
    | _, _ => none
  | .join => match xs with
    | [x] => (joinD hp o x).map fun d => (d, hp)
    | _ => none
  | .pop => match o, xs with
    | .ref n, [] => match hp[n]? with
      | some (.lst ds) => match ds[ds.length - 1]? with
        | some d => some (d, hp.set n (.lst ds.dropLast))
        | none => none
      | _ => none
    | .ref n, [.int i] => match hp[n]? with
      | some (.lst ds) => if 0 ≤ i ∧ i < 1000000000 then match ds[i.toNat]? with
          | some d => some (d, hp.set n (.lst (ds.eraseIdx i.toNat)))
          | none => none
        else if i < 0 ∧ -(ds.length : Int) ≤ i then match ds[(i + ds.length).toNat]? with
          | some d => some (d, hp.set n (.lst (ds.eraseIdx (i + ds.length).toNat)))
          | none => none
        else none
      | _ => none
    | _, _ => none
  | .insert => match o, xs with
    | .ref n, [.int i, x] => match hp[n]? with
      | some (.lst ds) => if 0 ≤ i ∧ i < 1000000000 ∧ ds.length < 16777216 then some (.non, hp.set n (.lst (ds.take i.toNat ++ [x] ++ ds.drop i.toNat))) else none
      | _ => none
    | _, _ => none
  | .reverse => match o, xs with
    | .ref n, [] => match hp[n]? with
      | some (.lst ds) => some (.non, hp.set n (.lst ds.reverse))
      | _ => none
    | _, _ => none
  | .clear => match o, xs with
    | .ref n, [] => match hp[n]? with
      | some (.lst ds) => some (.non, hp.set n (.lst []))
      | _ => none
    | _, _ => none
  | .split => match o, xs with
    | .str a, [.str b] => if b.isEmpty = false ∧ a.length ≤ 1000000 then some (.lst ((Txt.split (mkS a) (mkS b)).map fun s => .str s.cps.toList), hp) else none
    | _, _ => none
  | .partition => match o, xs with
    | .str a, [.str b] => if b.isEmpty = false then some (.tup [.str (Txt.partition (mkS a) (mkS b)).1.cps.toList, .str (Txt.partition (mkS a) (mkS b)).2.1.cps.toList, .str (Txt.partition (mkS a) (mkS b)).2.2.cps.toList], hp) else none
    | _, _ => none
  | .strip => match o, xs with
    | .str a, [.str b] => some (.str (Txt.stripChars (mkS a) (mkS b)).cps.toList, hp)
    | _, _ => none
  | .startswith => match o, xs with
    | .str a, [.str b] => some (.bl (Txt.startswith (mkS a) (mkS b)), hp)
    | _, _ => none
  | _ => none
def setD (hp : AH) (o i x : D) : Option AH := match o, i with
  | .ref n, .int k => match hp[n]? with
    | some (.lst ds) => if 0 ≤ k ∧ k < ds.length then some (hp.set n (.lst (ds.set k.toNat x))) else if k < 0 ∧ -(ds.length : Int) ≤ k then some (hp.set n (.lst (ds.set (k + ds.length).toNat x))) else none
    | _ => none
  | _, _ => none
/-! dicts -/
def orD {α : Type} (o p : Option α) : Option α := match o with
  | some x => some x
  | none => p
@[simp] theorem orD_some {α : Type} (x : α) (p : Option α) : orD (some x) p = some x := rfl
@[simp] theorem orD_none {α : Type} (p : Option α) : orD none p = p := rfl
def kOf : D → Option KD
  | .int i => some (.inl i)
  | .str x => some (.inr x)
  | _ => none
def kD : KD → D
  | .inl i => .int i
  | .inr x => .str x
def kOfs : List D → Option (List KD)
  | [] => some []
  | d :: ds => match kOf d, kOfs ds with
    | some k, some ks => some (k :: ks)
    | _, _ => none
def tOf : D → Option (List KD)
  | .tup ds => kOfs ds
  | _ => none
section
variable {κ : Type} [DecidableEq κ]
def getKV (ks : List (κ × D)) (k : κ) : Option D := (ks.find? fun p => decide (p.1 = k)).map (·.2)
def putKV (ks : List (κ × D)) (k : κ) (d : D) : List (κ × D) :=
  if (ks.any fun p => decide (p.1 = k)) = true then ks.map (fun p => if p.1 = k then (p.1, d) else p) else ks ++ [(k, d)]
end
/-- what a dict has at a key -/
def dGet (hp : AH) (o i : D) : Option (Option D) := match o with
  | .ref n => match hp[n]? with
    | some (.dk ks) => (kOf i).map (getKV ks)
    | some (.fk ks) => (kOf i).map (getKV ks)
    | some (.dt ks) => (tOf i).map (getKV ks)
    | some (.ft ks) => (tOf i).map (getKV ks)
    | _ => none
  | _ => none
def dLook (hp : AH) (o i : D) : Option D := (dGet hp o i).bind id
def dPut (hp : AH) (o i x : D) : Option AH := match o with
  | .ref n => match hp[n]? with
    | some (.dk ks) => @ite _ (ks.length < 16777216) (Classical.propDecidable (ks.length < 16777216)) ((kOf i).map fun k => hp.set n (.dk (putKV ks k x))) none
    | some (.dt ks) => @ite _ (ks.length < 16777216) (Classical.propDecidable (ks.length < 16777216)) ((tOf i).map fun k => hp.set n (.dt (putKV ks k x))) none
    | _ => none
  | _ => none
def dCmp (op : CmpOp) (hp : AH) (x y : D) : Option D := match op with
  | .In => (dGet hp y x).map fun o => .bl o.isSome
  | .NotIn => (dGet hp y x).map fun o => .bl (!o.isSome)
  | _ => none
def dBi (b : Bi) (hp : AH) (xs : List D) : Option D := match b, xs with
  | .list, [.ref n] => match hp[n]? with
    | some (.dk ks) => some (.lst (ks.map fun p => kD p.1))
    | some (.dt ks) => some (.lst (ks.map fun p => .tup (p.1.map kD)))
    | _ => none
  | .len, [.ref n] => match hp[n]? with
    | some (.dk ks) => some (.int ks.length)
    | some (.dt ks) => some (.int ks.length)
    | _ => none
  | _, _ => none
def dIsi (hp : AH) (cs : List Cl) (x : D) : Option Bool := match x with
  | .ref n => match hp[n]? with
    | some (.dk _) => some (cs.contains .dict)
    | some (.dt _) => some (cs.contains .dict)
    | _ => none
  | _ => none
/-- what a range goes through -/
def rngD (two : Bool) (xs : List D) : Option (List D) := match two, xs with
  | false, [.int j] => @ite _ (j < 1000000000 ∧ -1000000000 < j) (Classical.propDecidable (j < 1000000000 ∧ -1000000000 < j)) (some ((List.range j.toNat).map fun n => .int (n : Nat))) (none)
  | true, [.int i, .int j] => @ite _ (j < 1000000000 ∧ -1000000000 < j ∧ i < 1000000000 ∧ -1000000000 < i) (Classical.propDecidable (j < 1000000000 ∧ -1000000000 < j ∧ i < 1000000000 ∧ -1000000000 < i)) (some ((List.range (j - i).toNat).map fun n => .int (i + (n : Nat)))) (none)
  | _, _ => none
/-- what a loop goes through, and the lists of the heap that must stay meanwhile -/
abbrev Src := List D × List (Nat × List D)
def Gd (gs : List (Nat × List D)) (h : AH) : Prop := ∀ p ∈ gs, h[p.1]? = some (.lst p.2)
/-- a list (of the heap, or data) with its guard -/
def asG (hp : AH) : D → Option Src
  | .lst ds => some (ds, [])
  | .ref n => match hp[n]? with
    | some (.lst ds) => some (ds, [(n, ds)])
    | _ => none
  | _ => none
/-- two by two -/
def zipD (hp : AH) (xs : List D) : Option Src := match xs with
  | [.tup a, .tup b] => some (List.zipWith (fun x y => D.tup [x, y]) a b, [])
  | [x, y] => match asG hp x, asG hp y with
    | some (a, g1), some (b, g2) => some (List.zipWith (fun x y => D.tup [x, y]) a b, g1 ++ g2)
    | _, _ => none
  | _ => none
def revD (hp : AH) (x : D) : Option Src := match x with
  | .tup a => some (a.reverse, [])
  | .scr ns => some ((ns.map D.int).reverse, [])
  | x => (asG hp x).map fun p => (p.1.reverse, p.2)
/-- list(reversed(x)), tuple(reversed(x)) -/
def lrevD (hp : AH) (x : D) : Option (List D) := match x with
  | .tup a => some a.reverse
  | .scr ns => some (ns.map D.int).reverse
  | x => (asL hp x).map List.reverse
/-- a fresh list, kept in the heap where it will be changed -/
def mkL (mu : Bool) (d : D) (hp : AH) : R D := match mu, d with
  | true, .lst ds => .ok (.ref hp.length) (hp ++ [.lst ds])
  | true, _ => .bad
  | false, d => .ok d hp

abbrev FC := Nat → List D → AH → R D
/-- where the exception stands that an except suite holds -/
def XI : Nat := 1000000
def withE (e : EV) (F : FC) : FC := fun f ds h => if f = XI then .exc e h else F f ds h
abbrev Sl := List (Option D)
abbrev EVl := Sl → AH → R D

def sets : Sl → List Nat → List D → Option Sl
  | s, [], [] => some s
  | s, i :: is, d :: ds => sets (s.set i (some d)) is ds
  | _, _, _ => none
def asg (g : Tg) (d : D) (s : Sl) : Option Sl := match g with
  | .nm i => some (s.set i (some d))
  | .tp is => match d with
    | .tup ds => sets s is ds
    | _ => none
/-- the items that a loop goes through -/
def items (hp : AH) (d : D) : Option Src := match d with
  | .tup ds => some (ds, [])
  | .scr ns => some (ns.map D.int, [])
  | .str x => some (x.map fun c => .str [c], [])
  | d => asG hp d
/-- a comprehension's turns -/
def compL (g : Tg) (cond : Sl → AH → R Bool) (elt : EVl) (s : Sl) : List D → AH → R (List D)
  | [], h => .ok [] h
  | d :: ds, h => match asg g d s with
    | none => .bad
    | some s1 => (cond s1 h).bind fun b h => match b with
      | true => (elt s1 h).bind fun y h => (compL g cond elt s ds h).bind fun ys h => .ok (y :: ys) h
      | false => compL g cond elt s ds h
/-- .. as long as the lists of the heap that it goes through stay -/
def compG (gs : List (Nat × List D)) (g : Tg) (cond : Sl → AH → R Bool) (elt : EVl) (s : Sl) : List D → AH → R (List D)
  | [], h => @ite _ (Gd gs h) (Classical.propDecidable (Gd gs h)) (.ok [] h) .bad
  | d :: ds, h => @ite _ (Gd gs h) (Classical.propDecidable (Gd gs h)) (match asg g d s with
    | none => .bad
    | some s1 => (cond s1 h).bind fun b h => match b with
      | true => (elt s1 h).bind fun y h => (compG gs g cond elt s ds h).bind fun ys h => .ok (y :: ys) h
      | false => compG gs g cond elt s ds h) .bad
def wipes (s : Sl) : List Nat → Sl
  | [] => s
  | v :: vs => (wipes s vs).set v none
def R.quiet {α : Type} (r : R α) : R α := match r with
  | .exc _ _ => .bad
  | r => r
@[simp] theorem R.quiet_ok {α : Type} (x : α) (h : AH) : (R.ok x h).quiet = .ok x h := rfl
@[simp] theorem R.quiet_bad {α : Type} : (R.bad : R α).quiet = .bad := rfl
mutual
def ev (F : FC) : Ex → Sl → AH → R D
  | .bad, _, _ => .bad
  | .var i, s, h => match s[i]? with
    | some (some d) => .ok d h
    | _ => .bad
  | .cst d, _, h => .ok d h
  | .bin op mu a b, s, h => (ev F a s h).bind fun x h => (ev F b s h).bind fun y h => (R.opt (binop op h x y) h).bind fun d h => mkL mu d h
  | .neg a, s, h => (ev F a s h).bind fun x h => match x with
    | .int i => .ok (.int (-i)) h
    | _ => .bad
  | .cmp op a b, s, h => (ev F a s h).bind fun x h => (ev F b s h).bind fun y h => R.opt (orD (cmpop op h x y) (dCmp op h x y)) h
  | .chn o1 o2 a b c, s, h => (ev F a s h).bind fun x h => (ev F b s h).bind fun y h => (R.opt (cmpop o1 h x y) h).bind fun t h => match t with
    | .bl true => (ev F c s h).bind fun z h => R.opt (cmpop o2 h y z) h
    | .bl false => .ok (.bl false) h
    | _ => .bad
  | .isN a, s, h => (ev F a s h).bind fun x h => .ok (.bl x.isNon) h
  | .notN a, s, h => (ev F a s h).bind fun x h => .ok (.bl (!x.isNon)) h
  | .and_ a b, s, h => (ev F a s h).bind fun x h => match truth h x with
    | some true => ev F b s h
    | some false => .ok x h
    | none => .bad
  | .or_ a b, s, h => (ev F a s h).bind fun x h => match truth h x with
    | some true => .ok x h
    | some false => ev F b s h
    | none => .bad
  | .not_ a, s, h => (ev F a s h).bind fun x h => (R.opt (truth h x) h).bind fun b h => .ok (.bl (!b)) h
  | .tup es, s, h => (evs F es s h).bind fun xs h => @ite _ (xs.length ≤ 16777216) (Classical.propDecidable (xs.length ≤ 16777216)) (.ok (.tup xs) h) (.bad)
  | .lst mu es, s, h => (evs F es s h).bind fun xs h => @ite _ (xs.length ≤ 16777216) (Classical.propDecidable (xs.length ≤ 16777216)) (mkL mu (.lst xs) h) (.bad)
  | .idx a i, s, h => (ev F a s h).bind fun x h => (ev F i s h).bind fun y h => R.opt (orD (idxD h x y) (dLook h x y)) h
  | .call f es, s, h => (evs F es s h).bind fun xs h => F f xs h
  | .isi e cs, s, h => (ev F e s h).bind fun x h => (R.opt (orD (isi1 h cs x) (dIsi h cs x)) h).bind fun b h => .ok (.bl b) h
  | .dnew t, _, h => .ok (.ref h.length) (h ++ [if t then .dt [] else .dk []])
  | .inC neg a ds, s, h => (ev F a s h).bind fun x h => R.opt ((inL x ds).map fun b => .bl (if neg then !b else b)) h
  | .bi b mu es, s, h => (evs F es s h).bind fun xs h => (R.opt (orD (biD b h xs) (dBi b h xs)) h).bind fun d h => mkL mu d h
  | .sli mu a lo hi, s, h => (ev F a s h).bind fun x h => (evO F lo s h).bind fun l h => (evO F hi s h).bind fun u h => (R.opt (sliD h x l u) h).bind fun d h => mkL mu d h
  | .me m mu o es, s, h => (ev F o s h).bind fun x h => if meT m h x then (evs F es s h).bind fun xs h => match meD m h x xs with
      | some (d, h) => mkL (mu && m.fresh) d h
      | none => .bad
    else .bad
  | .lrng mu two es, s, h => (evs F es s h).bind fun xs h => (R.opt (rngD two xs) h).bind fun ds h => @ite _ (ds.length ≤ 16777216) (Classical.propDecidable (ds.length ≤ 16777216)) (mkL mu (.lst ds) h) (.bad)
  | .lrev mu tup a, s, h => (ev F a s h).bind fun x h => (R.opt (lrevD h x) h).bind fun ds h => if tup then .ok (.tup ds) h else mkL mu (.lst ds) h
  | .isE subs, _, h => match F XI [] h with
    | .exc e _ => if e.pay.isNone then .ok (.bl (subs.contains e.cls)) h else .bad
    | _ => .bad
  | .exf, _, h => match F XI [] h with
    | .exc e _ => R.opt e.pay h
    | _ => .bad
  | .comp mu vs g it c e, s, h => (evI F it s h).bind fun ds h => (compG ds.2 g (evC F c) (ev F e) (wipes s vs) ds.1 h).quiet.bind fun ys h => @ite _ (ys.length ≤ 16777216) (Classical.propDecidable (ys.length ≤ 16777216)) (mkL mu (.lst ys) h) (.bad)
def evO (F : FC) : Op → Sl → AH → R (Option Int)
  | .no, _, h => .ok none h
  | .yes e, s, h => (ev F e s h).bind fun x h => match x with
    | .int i => .ok (some i) h
    | _ => .bad
def evC (F : FC) : Op → Sl → AH → R Bool
  | .no, _, h => .ok true h
  | .yes e, s, h => (ev F e s h).bind fun x h => R.opt (truth h x) h
def evI (F : FC) : Ix → Sl → AH → R Src
  | .bad, _, _ => .bad
  | .any e, s, h => (ev F e s h).bind fun x h => R.opt (items h x) h
  | .rng two es, s, h => (evs F es s h).bind fun xs h => R.opt ((rngD two xs).map fun ds => (ds, [])) h
  | .zip es, s, h => (evs F es s h).bind fun xs h => R.opt (zipD h xs) h
  | .rrng two es, s, h => (evs F es s h).bind fun xs h => R.opt ((rngD two xs).map fun ds => (ds.reverse, [])) h
  | .rev e, s, h => (ev F e s h).bind fun x h => R.opt (revD h x) h
def evs (F : FC) : Exs → Sl → AH → R (List D)
  | .nil, _, h => .ok [] h
  | .cons e es, s, h => (ev F e s h).bind fun x h => (evs F es s h).bind fun xs h => .ok (x :: xs) h
end

/-- how a statement ends -/
inductive O where
  | nx (s : Sl) (h : AH)
  | rt (d : D) (h : AH)
  | bk (s : Sl) (h : AH)
  | ct (s : Sl) (h : AH)
  | ex (e : EV) (s : Sl) (h : AH)
  | bad
def R.to {α : Type} (r : R α) (s : Sl) (f : α → AH → O) : O := match r with
  | .ok x h => f x h
  | .exc e h => .ex e s h
  | .bad => .bad
@[simp] theorem R.to_ok {α : Type} (x : α) (h : AH) (s : Sl) (f : α → AH → O) : (R.ok x h).to s f = f x h := rfl
@[simp] theorem R.to_exc {α : Type} (e : EV) (h : AH) (s : Sl) (f : α → AH → O) : (R.exc e h : R α).to s f = .ex e s h := rfl
@[simp] theorem R.to_bad {α : Type} (s : Sl) (f : α → AH → O) : (R.bad : R α).to s f = .bad := rfl
def O.seq (o : O) (f : Sl → AH → O) : O := match o with
  | .nx s h => f s h
  | o => o
@[simp] theorem O.seq_nx (s : Sl) (h : AH) (f : Sl → AH → O) : (O.nx s h).seq f = f s h := rfl
@[simp] theorem O.seq_rt (d : D) (h : AH) (f : Sl → AH → O) : (O.rt d h).seq f = .rt d h := rfl
@[simp] theorem O.seq_bk (s : Sl) (h : AH) (f : Sl → AH → O) : (O.bk s h).seq f = .bk s h := rfl
@[simp] theorem O.seq_ct (s : Sl) (h : AH) (f : Sl → AH → O) : (O.ct s h).seq f = .ct s h := rfl
@[simp] theorem O.seq_ex (e : EV) (s : Sl) (h : AH) (f : Sl → AH → O) : (O.ex e s h).seq f = .ex e s h := rfl
@[simp] theorem O.seq_bad (f : Sl → AH → O) : O.bad.seq f = .bad := rfl

/-- a turn's end, and what comes behind it -/
def O.turn (o : O) (f : Sl → AH → O) : O := match o with
  | .nx s h => f s h
  | .ct s h => f s h
  | .bk s h => .nx s h
  | o => o
@[simp] theorem O.turn_nx (s : Sl) (h : AH) (f : Sl → AH → O) : (O.nx s h).turn f = f s h := rfl
@[simp] theorem O.turn_rt (d : D) (h : AH) (f : Sl → AH → O) : (O.rt d h).turn f = .rt d h := rfl
@[simp] theorem O.turn_bk (s : Sl) (h : AH) (f : Sl → AH → O) : (O.bk s h).turn f = .nx s h := rfl
@[simp] theorem O.turn_ct (s : Sl) (h : AH) (f : Sl → AH → O) : (O.ct s h).turn f = f s h := rfl
@[simp] theorem O.turn_ex (e : EV) (s : Sl) (h : AH) (f : Sl → AH → O) : (O.ex e s h).turn f = .ex e s h := rfl
@[simp] theorem O.turn_bad (f : Sl → AH → O) : O.bad.turn f = .bad := rfl
def loop (body : Sl → AH → O) (g : Tg) : List D → Sl → AH → O
  | [], s, h => .nx s h
  | d :: ds, s, h => match asg g d s with
    | none => .bad
    | some s1 => (body s1 h).turn (loop body g ds)
/-- .. as long as the lists of the heap that it goes through stay -/
def loopG (gs : List (Nat × List D)) (body : Sl → AH → O) (g : Tg) : List D → Sl → AH → O
  | [], s, h => @ite _ (Gd gs h) (Classical.propDecidable (Gd gs h)) (.nx s h) .bad
  | d :: ds, s, h => @ite _ (Gd gs h) (Classical.propDecidable (Gd gs h)) (match asg g d s with
    | none => .bad
    | some s1 => (body s1 h).turn (loopG gs body g ds)) .bad
theorem gd_nil (h : AH) : Gd [] h := fun _ m => by cases m
theorem loopG_nil (body : Sl → AH → O) (g : Tg) : ∀ (ds : List D) (s : Sl) (h : AH), loopG [] body g ds s h = loop body g ds s h
  | [], s, h => by rw [loopG, loop, if_pos (gd_nil h)]
  | d :: ds, s, h => by
    rw [loopG, loop, if_pos (gd_nil h)]
    cases asg g d s with
    | none => rfl
    | some s1 =>
      have : loopG [] body g ds = loop body g ds := by funext s h; exact loopG_nil body g ds s h
      simp only [this]
theorem compG_nil (g : Tg) (cond : Sl → AH → R Bool) (elt : EVl) (s : Sl) : ∀ (ds : List D) (h : AH), compG [] g cond elt s ds h = compL g cond elt s ds h
  | [], h => by rw [compG, compL, if_pos (gd_nil h)]
  | d :: ds, h => by
    rw [compG, compL, if_pos (gd_nil h)]
    cases asg g d s with
    | none => rfl
    | some s1 => simp only [compG_nil g cond elt s ds]
/-- over a list of the heap, as it is at each turn -/
def loopR (body : Sl → AH → O) (g : Tg) (n : Nat) : Nat → Nat → Sl → AH → O
  | 0, _, _, _ => .bad
  | f + 1, i, s, h => match h[n]? with
    | some (.lst ds) => match ds[i]? with
      | none => .nx s h
      | some d => match asg g d s with
        | none => .bad
        | some s1 => (body s1 h).turn (loopR body g n f (i + 1))
    | _ => .bad
def tr (r : R D) : R Bool := r.bind fun d h => R.opt (truth h d) h
/-- behind an except suite: its name is gone; nothing may leave it -/
def O.gone (o : O) (j : Option Nat) : O := match o with
  | .ex _ _ _ => .bad
  | .nx s h => match j with
    | some j => .nx (s.set j none) h
    | none => .nx s h
  | .bk s h => match j with
    | some j => .bk (s.set j none) h
    | none => .bk s h
  | .ct s h => match j with
    | some j => .ct (s.set j none) h
    | none => .ct s h
  | o => o
/-- the suite's own slots: its name is nothing that is data -/
def hide (j : Option Nat) (s : Sl) : Sl := match j with
  | some j => s.set j none
  | none => s
def slotOk (j : Option Nat) (s : Sl) : Bool := match j with
  | some j => decide (j < s.length)
  | none => true
def O.caught (o : O) (subs : List Nat) (j : Option Nat) (f : EV → Sl → AH → O) : O := match o with
  | .ex e s h => if subs.contains e.cls then (if slotOk j s then (f e (hide j s) h).gone j else .bad) else .ex e s h
  | o => o
/-- a while, for at most so many turns -/
def whiles (c : Sl → AH → R Bool) (body : Sl → AH → O) : Nat → Sl → AH → O
  | 0, _, _ => .bad
  | n + 1, s, h => (c s h).to s fun b h => match b with
    | true => (body s h).turn (whiles c body n)
    | false => .nx s h
mutual
def evS (F : FC) : Sx → Sl → AH → O
  | .bad, _, _ => .bad
  | .pass, s, h => .nx s h
  | .ret e, s, h => (ev F e s h).to s fun d h => .rt d h
  | .retN, s, h => .rt .non h
  | .expr e, s, h => (ev F e s h).to s fun _ h => .nx s h
  | .set i e, s, h => (ev F e s h).to s fun d h => .nx (s.set i (some d)) h
  | .ifs c t e, s, h => (ev F c s h).to s fun d h => match truth h d with
    | some true => evSs F t s h
    | some false => evSs F e s h
    | none => .bad
  | .for_ g it b, s, h => (evI F it s h).to s fun ds h => loopG ds.2 (evSs F b) g ds.1 s h
  | .forA g e b, s, h => (ev F e s h).to s fun d h => match d with
    | .ref n => loopR (evSs F b) g n 100000 0 s h
    | d => match items h d with
      | some ds => loop (evSs F b) g ds.1 s h
      | none => .bad
  | .setI o i e, s, h => (ev F e s h).to s fun x h => (ev F o s h).to s fun o h => (ev F i s h).to s fun i h => match orD (setD h o i x) (dPut h o i x) with
    | some h => .nx s h
    | none => .bad
  | .unp is e, s, h => (ev F e s h).to s fun d h => match asg (.tp is) d s with
    | some s => .nx s h
    | none => .bad
  | .aug neg i e, s, h => match s[i]? with
    | some (some (.int a)) => (ev F e s h).to s fun d h => match d with
      | .int b => .nx (s.set i (some (.int (if neg then a - b else a + b)))) h
      | _ => .bad
    | _ => .bad
  | .while_ c b, s, h => whiles (fun s h => tr (ev F c s h)) (evSs F b) 100000 s h
  | .raise_ n, s, h => .ex ⟨n, none⟩ s h
  | .try_ b subs j hb, s, h => (evSs F b s h).caught subs j fun e s h => evSs (withE e F) hb s h
def evSs (F : FC) : Sxs → Sl → AH → O
  | .nil, s, h => .nx s h
  | .cons x xs, s, h => (evS F x s h).seq fun s h => evSs F xs s h
end

/-- what a call has made in a heap of its own, as data that nobody changes any more -/
def fzD : Nat → AH → D → Option D
  | 0, _, d => if d.noref then some d else none
  | n + 1, h, d => if d.noref then some d else match d with
    | .ref m => match h[m]? with
      | some (.lst es) => if norefs es then some (.lst es) else (es.mapM (fzD n h)).map D.lst
      | _ => none
    | .tup es => (es.mapM (fzD n h)).map D.tup
    | .lst es => (es.mapM (fzD n h)).map D.lst
    | _ => none
/-- a call whose arguments name nothing of the heap has a heap of its own -/
def apart (fz : Nat → Bool) (F : FC) : FC := fun f ds h =>
  if norefs ds then
    match F f ds [] with
    | .ok d h' => match (if fz f then fzD 5 h' d else if d.noref then some d else none) with
      | some d' => .ok d' h
      | none => .ok (d.shift h.length) (h ++ h'.map (Ob.shift h.length))
    | .exc e h' => match e.pay with
      | none => .exc e h
      | some d => match (if fz f then fzD 5 h' d else if d.noref then some d else none) with
        | some d' => .exc { e with pay := some d' } h
        | none => .exc { e with pay := some (d.shift h.length) } (h ++ h'.map (Ob.shift h.length))
    | .bad => .bad
  else F f ds h
def ran (o : O) : R D := match o with
  | .nx _ h => .ok .non h
  | .rt d h => .ok d h
  | .ex e _ h => .exc e h
  | _ => .bad
def fzs (P : List Fn) (i : Nat) : Bool := match P[i]? with
  | some f => f.frz
  | none => false
def call (P : List Fn) : Nat → FC
  | 0, _, _, _ => .bad
  | k + 1, f, ds, h => match P[f]? with
    | none => .bad
    | some fn => if ds.length = fn.ps then ran (evSs (apart (fzs P) (call P k)) fn.body (ds.map some ++ List.replicate (fn.n - ds.length) none) h) else .bad

end
/-! ## 5. from the row's text -/
structure CE where
  N : List Str
  sc : List (Str × NameKind)
  top : Option Scope
  fns : List Str
  consts : List (Str × D)
  mu : List (Nat × Nat)
  /-- the text's own classes of exceptions: the numbers of those under each -/
  cls : List (Str × List Nat)
  /-- in an except suite; the slot of its name -/
  hot : Bool
  exn : Option Nat
  /-- constants of the module: tuples of texts; empty dicts whose keys are tuples, by their places -/
  tups : List (Str × List Str)
  dts : List (Nat × Nat)
def CE.isMu (c : CE) (p : Pos) : Bool := c.mu.contains (p.line, p.col)
def strD (x : Str) : D := .str x.cps.toList
def ixOf (x : Str) : List Str → Nat → Option Nat
  | [], _ => none
  | y :: r, n => if x == y then some n else ixOf x r (n + 1)
theorem ixOf_get {x : Str} : ∀ {l : List Str} {n i : Nat}, ixOf x l n = some i → n ≤ i ∧ l[i - n]? = some x
  | [], _, _, h => by cases h
  | y :: r, n, i, h => by
    unfold ixOf at h
    split at h
    · rename_i e
      cases h
      exact ⟨Nat.le_refl _, by simp [beq_iff_eq.mp e]⟩
    · obtain ⟨h1, h2⟩ := ixOf_get h
      refine ⟨by omega, ?_⟩
      rw [show i - n = (i - (n + 1)) + 1 by omega]
      simpa using h2
theorem ixOf_get0 {x : Str} {l : List Str} {i : Nat} (h : ixOf x l 0 = some i) : l[i]? = some x := by
  simpa using (ixOf_get h).2
def noStar : Expr → Bool
  | .Starred .. => false
  | _ => true
def mkExs : List Ex → Exs
  | [] => .nil
  | e :: es => .cons e (mkExs es)
def nameOf : Expr → Option Str
  | .Name x _ => some x
  | _ => none
def clOf (c : CE) (x : Str) : Option Cl :=
  if c.sc.lookup x == some .globalImplicit then
    if x == "int" then some .int else if x == "bool" then some .bool else if x == "str" then some .str else if x == "tuple" then some .tuple
    else if x == "list" then some .list else if x == "dict" then some .dict else none
  else none
def biOf (x : Str) (n : Nat) : Option Bi :=
  if x == "len" then some .len else if x == "int" then some .int else if x == "str" then some .str else if x == "list" then some .list
  else if x == "tuple" then some .tuple else if x == "sum" then some .sum
  else if x == "min" then (if n == 1 then some .min else some .min2) else if x == "max" then (if n == 1 then some .max else some .max2) else none
def meOf (x : Str) : Option Me :=
  if x == "append" then some .append else if x == "join" then some .join else if x == "strip" then some .strip else if x == "startswith" then some .startswith else if x == "pop" then some .pop
  else if x == "insert" then some .insert else if x == "reverse" then some .reverse else if x == "clear" then some .clear else if x == "split" then some .split else if x == "partition" then some .partition else none
def isLoc (c : CE) (x : Str) : Bool := match c.sc.lookup x with
  | some .local | some .cell | some .free => true
  | _ => false
def cName (c : CE) (x : Str) : Ex :=
  if isLoc c x && !(x == "__debug__") && !(x == "__classdict__") then match (ixOf x c.N 0) with
    | some i => .var i
    | none => .bad
  else if c.sc.lookup x == some .globalImplicit && !(x == "__debug__") then match c.consts.lookup x with
    | some d => .cst d
    | none => .bad
  else .bad
def cConst : Const → Ex
  | .none => .cst .non
  | .bool b => .cst (.bl b)
  | .int i => .cst (.int i)
  | .str x => if PyData.strOk x && decide (x.cps.size ≤ 16777216) then .cst (strD x) else .bad
  | _ => .bad
def isNoneE : Expr → Bool
  | .Constant .none _ _ => true
  | _ => false
def noSet : Expr → Bool
  | .Set .. => false
  | _ => true
def isChn : CmpOp → Bool
  | .Is | .IsNot | .In | .NotIn => false
  | _ => true
/-- a constant tuple of texts, by its name -/
def tupOf (c : CE) (b : Expr) : Option (List Str) := match nameOf b with
  | some x => if c.sc.lookup x == some .globalImplicit && !(x == "__debug__") then c.tups.lookup x else none
  | none => none
def cCmp (c : CE) (op : CmpOp) (b : Expr) (x y : Ex) : Ex := match op with
  | .Is => if isNoneE b then .isN x else .bad
  | .IsNot => if isNoneE b then .notN x else .bad
  | .In => match tupOf c b with
    | some l => .inC false x (l.map strD)
    | none => if noSet b then .cmp op x y else .bad
  | .NotIn => match tupOf c b with
    | some l => .inC true x (l.map strD)
    | none => if noSet b then .cmp op x y else .bad
  | op => .cmp op x y
/-- and, or: of one, two .. -/
def cBool (op : BoolOp) : List Ex → Ex
  | [] => .bad
  | [a] => a
  | a :: b :: r => match op with
    | .And => .and_ a (cBool op (b :: r))
    | .Or => .or_ a (cBool op (b :: r))
def isSlice : Expr → Bool
  | .Slice .. => true
  | _ => false
def okBase : Expr → Bool
  | .Call (.Name _ _) [] [] _ => false
  | _ => true
def tgNm (c : CE) : Expr → Option Nat
  | .Name x _ => if (c.sc.lookup x == some .local || c.sc.lookup x == some .cell) && !c.hot then ixOf x c.N 0 else none
  | _ => none
def tgNms (c : CE) : List Expr → Option (List Nat)
  | [] => some []
  | e :: es => match tgNm c e, tgNms c es with
    | some i, some is => some (i :: is)
    | _, _ => none
def cTg (c : CE) (e : Expr) : Option Tg := match e with
  | .Tuple es _ _ => (tgNms c es).map Tg.tp
  | e => (tgNm c e).map Tg.nm
/-- what a loop goes through -/
def isRng (c : CE) : Expr → Option (List Expr)
  | .Call (.Name x _) es [] _ => if x == "range" && c.sc.lookup x == some .globalImplicit && es.all noStar && (es.length == 1 || es.length == 2) then some es else none
  | _ => none
def lrOf (c : CE) (x : Str) (es : List Expr) : Option (List Expr) := if x == "list" then match es with
  | [a] => isRng c a
  | _ => none
else none
def isRev (c : CE) : Expr → Option Expr
  | .Call (.Name x _) [a] [] _ => if x == "reversed" && c.sc.lookup x == some .globalImplicit && noStar a then some a else none
  | _ => none
/-- the numbers of the classes under one -/
def subsOf (c : CE) (x : Str) : Option (List Nat) :=
  if c.sc.lookup x == some .globalImplicit && !(x == "__debug__") then
    if x == "ValueError" then some (List.range c.cls.length) else c.cls.lookup x
  else none
def subsAll (c : CE) : List Expr → Option (List Nat)
  | [] => some []
  | e :: es => match nameOf e, subsAll c es with
    | some x, some r => if (c.cls.lookup x).isSome then (subsOf c x).map (· ++ r) else none
    | _, _ => none
/-- isinstance of the suite's exception -/
def isExn (c : CE) (e : Expr) : Bool := match nameOf e with
  | some x => c.exn.isSome && ixOf x c.N 0 == c.exn && isLoc c x && !(x == "__debug__") && !(x == "__classdict__")
  | none => false
def cIsE (c : CE) (t : Expr) : Ex := match t with
  | .Tuple es _ _ => match subsAll c es with
    | some r => if decide (es.length ≤ 1000) then .isE r else .bad
    | none => .bad
  | t => match nameOf t with
    | some y => match subsOf c y with
      | some r => .isE r
      | none => .bad
    | none => .bad
/-- list(reversed(x)), tuple(reversed(x)) -/
def lvOf (c : CE) (x : Str) (es : List Expr) : Option (Bool × Expr) := match es with
  | [a] => if x == "list" then (isRev c a).map fun e => (false, e) else if x == "tuple" then (isRev c a).map fun e => (true, e) else none
  | _ => none
def cCall (c : CE) (rec : Expr → Ex) (f : Expr) (es : List Expr) (ks : List Keyword) (p : Pos) : Ex := match f, ks with
  | .Name x _, [] =>
    if c.sc.lookup x == some .globalImplicit && es.all noStar && !es.isEmpty && !(x == "__debug__") && !(x == "__name__") then
      match (ixOf x c.fns 0) with
      | some i => if c.hot then .bad else .call i (mkExs (es.map rec))
      | none => match lrOf c x es with
       | some es' => if c.hot then .bad else .lrng (c.isMu p) (es'.length == 2) (mkExs (es'.map rec))
       | none => match lvOf c x es with
       | some (tup, e) => if c.hot then .bad else .lrev (c.isMu p) tup (rec e)
       | none =>
        if x == "isinstance" then match es with
          | [e, t] => if isExn c e then cIsE c t else match nameOf t with
            | some y => match clOf c y with
              | some k => .isi (rec e) [k]
              | none => .bad
            | none => .bad
          | _ => .bad
        else match biOf x es.length with
          | some b => if c.hot && !(b == .int) then .bad else .bi b (c.isMu p) (mkExs (es.map rec))
          | none => .bad
    else .bad
  | .Attribute o m apos, [] =>
    if es.all noStar && okBase o && apos.endLine == p.line && decide (es.length ≤ 3) then match meOf m with
      | some k => .me k (c.isMu p) (rec o) (mkExs (es.map rec))
      | none => .bad
    else .bad
  | _, _ => .bad
def cOp (rec : Expr → Ex) : Option Expr → Op
  | none => .no
  | some e => .yes (rec e)
def cIf (rec : Expr → Ex) : List Expr → Option Op
  | [] => some .no
  | [e] => some (.yes (rec e))
  | _ => none
def isTupE : Expr → Bool
  | .Tuple .. => true
  | _ => false
def isZip (c : CE) : Expr → Option (Expr × Expr)
  | .Call (.Name x _) [a, b] [] _ => if x == "zip" && c.sc.lookup x == some .globalImplicit && noStar a && noStar b then some (a, b) else none
  | _ => none
def cIx (c : CE) (rec : Expr → Ex) (tg e : Expr) : Ix := match isRng c e with
  | some es => .rng (es.length == 2) (mkExs (es.map rec))
  | none => match isZip c e with
    | some (a, b) => if isTupE tg then .zip (mkExs ([a, b].map rec)) else .bad
    | none => match isRev c e with
      | some a => match isRng c a with
        | some es => .rrng (es.length == 2) (mkExs (es.map rec))
        | none => .rev (rec a)
      | none => .any (rec e)
/-- a comprehension's own names, by their slots -/
def ownIx (c : CE) (scope : Scope) : List (Str × Nat) := scope.names.filterMap fun y => match y.2 with
  | .local | .cell => (ixOf y.1 c.N 0).map fun i => (y.1, i)
  | _ => none
def Tg.ixs : Tg → List Nat
  | .nm i => [i]
  | .tp is => is
def cLc (c : CE) (rec recI : Expr → Ex) (elt : Expr) (gs : List Comprehension) (scope : Scope) (p : Pos) : Ex := match gs, c.top with
  | [⟨tg, iter, ifs, 0⟩], some sc => if blkC c.N sc scope (ownIx c scope) && noSet iter then
      match cTg { c with sc := scope.names, top := none } tg, cIf recI ifs with
      | some g, some o => if g.ixs.all ((ownIx c scope).map (·.2)).contains then .comp (c.isMu p) ((ownIx c scope).map (·.2)) g (cIx c rec tg iter) o (recI elt) else .bad
      | _, _ => .bad
    else .bad
  | _, _ => .bad
def cE (c : CE) : Nat → Expr → Ex
  | 0, _ => .bad
  | n + 1, e => match e with
    | .Name x _ => cName c x
    | .Constant k _ _ => cConst k
    | .BinOp a op b p => .bin op (c.isMu p) (cE c n a) (cE c n b)
    | .UnaryOp .Not a _ => .not_ (cE c n a)
    | .UnaryOp .USub a _ => .neg (cE c n a)
    | .BoolOp op es _ => cBool op (es.map (cE c n))
    | .Compare a [op] [b] _ => cCmp c op b (cE c n a) (cE c n b)
    | .Dict [] [] p => .dnew (c.dts.contains (p.line, p.col))
    | .Compare a [o1, o2] [b, d] _ => if isChn o1 && isChn o2 then .chn o1 o2 (cE c n a) (cE c n b) (cE c n d) else .bad
    | .Tuple es _ _ => if es.all noStar then .tup (mkExs (es.map (cE c n))) else .bad
    | .List es p => if es.all noStar then .lst (c.isMu p) (mkExs (es.map (cE c n))) else .bad
    | .Subscript a (.Slice lo hi none _) p => .sli (c.isMu p) (cE c n a) (cOp (cE c n) lo) (cOp (cE c n) hi)
    | .Subscript a i _ => if isSlice i then .bad else .idx (cE c n a) (cE c n i)
    | .ListComp elt gs scope p => if c.hot then .bad else cLc c (cE c n) (cE { c with sc := scope.names, top := none } n) elt gs scope p
    | .Call f es ks p => cCall c (cE c n) f es ks p
    | .Attribute o f _ => if isExn c o && f == payF then .exf else .bad
    | _ => .bad
/-- a statement that is no comprehension given to a name -/
def noLc : Expr → Bool
  | .ListComp .. | .SetComp .. | .DictComp .. => false
  | _ => true
/-- a comprehension given to a name of its line -/
def swaps (c : CE) (x : Str) (px : Pos) (e : Expr) : Bool := match e with
  | .ListComp _ _ scope p => c.top.isSome && c.sc.lookup x == some .local && px.line == p.line && !(scope.names.any fun (n, k) => n == x && (k == .local || k == .cell))
  | _ => false
def noTup : Expr → Bool
  | .Tuple .. => false
  | _ => true
def mkSxs (f : Stmt → Sx) : List Stmt → Sxs
  | [] => .nil
  | s :: r => .cons (f s) (mkSxs f r)
/-- what raise makes -/
def cRaise (c : CE) : Expr → Sx
  | .Call (.Name x _) [.Constant (.str _) _ _] [] _ => if c.sc.lookup x == some .globalImplicit && !c.hot && !(x == "__debug__") && !(x == "Ring") then match ixOf x (c.cls.map (·.1)) 0 with
      | some n => .raise_ n
      | none => .bad
    else .bad
  | _ => .bad
/-- the slot of a clause's name -/
def hdSlot (c : CE) : Option Str → Option (Option Nat)
  | none => some none
  | some n => if c.sc.lookup n == some .local then (ixOf n c.N 0).map some else none
def cS (c : CE) : Nat → Stmt → Sx
  | 0, _ => .bad
  | n + 1, st => match st with
    | .Return (some e) _ => .ret (cE c 100 e)
    | .Return none _ => .retN
    | .Pass _ => .pass
    | .Expr e _ => if noLc e then .expr (cE c 100 e) else .bad
    | .Assign [.Name x px] e _ => if (noLc e || (swaps c x px e && !c.hot)) && (c.sc.lookup x == some .local || c.sc.lookup x == some .cell) then match ixOf x c.N 0 with
          | some i => if c.exn == some i then .bad else .set i (cE c 100 e)
          | none => .bad
        else .bad
    | .Assign [.Subscript o i _] e _ => if isSlice i || !noLc e then .bad else .setI (cE c 100 o) (cE c 100 i) (cE c 100 e)
    | .Assign [.Tuple es k p] e _ => if noTup e && noLc e && !c.hot then match cTg c (.Tuple es k p) with
        | some (.tp is) => .unp is (cE c 100 e)
        | _ => .bad
      else .bad
    | .If t a b _ => .ifs (cE c 100 t) (mkSxs (cS c n) a) (mkSxs (cS c n) b)
    | .For t it b [] _ => if c.hot then .bad else match cTg c t with
      | some g => if noSet it then match cIx c (cE c 100) t it with
          | .any e => .forA g e (mkSxs (cS c n) b)
          | ix => .for_ g ix (mkSxs (cS c n) b)
        else .bad
      | none => .bad
    | .AugAssign (.Name x _) .Add e _ => if (c.sc.lookup x == some .local || c.sc.lookup x == some .cell) && !c.hot then match ixOf x c.N 0 with
          | some i => .aug false i (cE c 100 e)
          | none => .bad
        else .bad
    | .AugAssign (.Name x _) .Sub e _ => if (c.sc.lookup x == some .local || c.sc.lookup x == some .cell) && !c.hot then match ixOf x c.N 0 with
          | some i => .aug true i (cE c 100 e)
          | none => .bad
        else .bad
    | .While t b [] _ => if c.hot then .bad else .while_ (cE c 100 t) (mkSxs (cS c n) b)
    | .Raise (some e) none _ => cRaise c e
    | .Try b [.ExceptHandler (some (.Name x _)) nm (b0 :: hb) _] [] [] _ => if c.hot || !c.top.isSome || (x == "__debug__") || !(c.sc.lookup x == some .globalImplicit) then .bad else match hdSlot c nm, c.cls.lookup x with
      | some j, some subs => .try_ (mkSxs (cS c n) b) subs j (mkSxs (cS { c with hot := true, exn := j } n) (b0 :: hb))
      | _, _ => .bad
    | _ => .bad
def cFn (c : CE) (ps : Nat) (frz : Bool) (body : List Stmt) : Fn := ⟨ps, c.N.length, frz, mkSxs (cS c 50) body⟩
end DI
set_option Elab.async false
set_option linter.all false
set_option maxRecDepth 100000
namespace DI
open PySem PySem.Spec PyProof.Rows L2

/-! ## 6. readings of plain meanings -/
def RepX (K : PySem.W.Frag) (ca : CA) (c : Cf) (e : EV) (cls : Value) (dx : Option Addr) : Prop :=
  (∃ C, ca.cls e.cls = some C ∧ cls = .ref C) ∧ PayOk K c e.pay dx
theorem RepX.step {K : PySem.W.Frag} {ca : CA} {c c' : Cf} {e : EV} {cls : Value} {dx : Option Addr} (inM : ∀ a ∈ c.r, c.M a) (s : Step c c') (h : RepX K ca c e cls dx) : RepX K ca c' e cls dx := by
  exact ⟨h.1, h.2.step inM s⟩

section
variable (K : PySem.W.Frag) (ca : CA) (W : WX)
def Post {α β : Type} (Rel : Cf → α → β → Prop) (σ : L2.St) (c : Cf) (r : R α) (Q : β → Hp → Prop) : Prop := match r with
  | .ok x h => ∀ c' y, Step c c' → SR K ca c' h → Rel c' x y → Q y c'.H
  | .exc e h => ∀ c' cls dx, Step c c' → SR K ca c' h → RepX K ca c' e cls dx → W cls dx σ c'.H
  | .bad => False
/-- a reading behind values xs that stand for ds -/
def tes {β α : Type} (Rel : Cf → α → β → Prop) (f : List D → Sl → AH → R α) (xs : List V) : L2.St → Hp → (β → Hp → Prop) → Prop := fun σ H Q =>
  ∃ M r hp sd ds, SR K ca ⟨M, r, H⟩ hp ∧ RepS K ca ⟨M, r, H⟩ sd σ ∧ Reps K ⟨M, r, H⟩ ds xs ∧ Post K ca W Rel σ ⟨M, r, H⟩ (f ds sd hp) Q
abbrev te (m : EVl) : TE := tes K ca W (Rep K) (fun _ => m) []
abbrev tas (m : Sl → AH → R (List D)) : TA := tes K ca W (Reps K) (fun _ => m) []
def beq' : Cf → Bool → Bool → Prop := fun _ a b => a = b
abbrev tt (m : EVl) : TT := tes K ca W beq' (fun _ s h => tr (m s h)) []
def PostO (c : Cf) (o : O) (Dn : Ends) : Prop := match o with
  | .nx s h => ∀ c' σ', Step c c' → SR K ca c' h → RepS K ca c' s σ' → Dn.nx σ' c'.H
  | .rt d h => ∀ c' v, Step c c' → SR K ca c' h → Rep K c' d v → Dn.rt v c'.H
  | .bk s h => ∀ c' σ', Step c c' → SR K ca c' h → RepS K ca c' s σ' → Dn.bk σ' c'.H
  | .ct s h => ∀ c' σ', Step c c' → SR K ca c' h → RepS K ca c' s σ' → Dn.ct σ' c'.H
  | .ex e s h => ∀ c' σ' cls dx, Step c c' → SR K ca c' h → RepS K ca c' s σ' → RepX K ca c' e cls dx → W cls dx σ' c'.H
  | .bad => False
def tst (m : Sl → AH → O) : TS := fun Dn σ H => ∃ M r hp sd, SR K ca ⟨M, r, H⟩ hp ∧ RepS K ca ⟨M, r, H⟩ sd σ ∧ PostO K ca W ⟨M, r, H⟩ (m sd hp) Dn
end

section
variable {K : PySem.W.Frag} {ca : CA} {W : WX} {α β : Type} {Rel : Cf → α → β → Prop} {σ : L2.St} {c c' : Cf} {H : Hp}
theorem Post.step {r : R α} {Q : β → Hp → Prop} (s : Step c c') (h : Post K ca W Rel σ c r Q) : Post K ca W Rel σ c' r Q := by
  cases r with
  | ok x h' => exact fun c2 y s2 => h c2 y (s.trans s2)
  | exc e h' => exact fun c2 y d s2 => h c2 y d (s.trans s2)
  | bad => exact h
theorem Post.mono {r : R α} {Q Q' : β → Hp → Prop} (h : Post K ca W Rel σ c r Q) (q : ∀ y H, Q y H → Q' y H) : Post K ca W Rel σ c r Q' := by
  cases r with
  | ok x h' => exact fun c2 y s2 a b => q _ _ (h c2 y s2 a b)
  | exc e h' => exact h
  | bad => exact h
theorem PostO.step {o : O} {Dn : Ends} (s : Step c c') (h : PostO K ca W c o Dn) : PostO K ca W c' o Dn := by
  cases o with
  | nx _ _ => exact fun c2 y s2 => h c2 y (s.trans s2)
  | rt _ _ => exact fun c2 y s2 => h c2 y (s.trans s2)
  | bk _ _ => exact fun c2 y s2 => h c2 y (s.trans s2)
  | ct _ _ => exact fun c2 y s2 => h c2 y (s.trans s2)
  | ex _ _ _ => exact fun c2 y d e s2 => h c2 y d e (s.trans s2)
  | bad => exact h
/-- the values so far, then one more expression -/
theorem tes_seq {f : List D → Sl → AH → R α} {m : EVl} {g : List D → Sl → AH → R α} {xs : List V} {Q : β → Hp → Prop}
    (e : ∀ ds s h, ds.length = xs.length → f ds s h = (m s h).bind fun d h => g (ds ++ [d]) s h)
    (q : tes K ca W Rel f xs σ H Q) : te K ca W m σ H fun x H1 => tes K ca W Rel g (xs ++ [x]) σ H1 Q := by
  obtain ⟨M, r, hp, sd, ds, h1, h2, h3, h4⟩ := q
  refine ⟨M, r, hp, sd, [], h1, h2, (by simp only [Reps]), ?_⟩
  rw [e _ _ _ h3.length.symm] at h4
  show Post K ca W (Rep K) σ _ (m sd hp) _
  cases q : m sd hp with
  | ok d h =>
    rw [q] at h4
    intro c' x s sr rx
    exact ⟨c'.M, c'.r, h, sd, ds ++ [d], sr, h2.step h1.inM s, (h3.step h1.inM s).snoc rx, Post.step s h4⟩
  | exc e h =>
    rw [q] at h4
    exact h4
  | bad =>
    rw [q] at h4
    exact h4
/-- .. and what stands behind is asked of the same plain state -/
theorem tes_seqs {f : List D → Sl → AH → R α} {m : Sl → AH → R (List D)} {g : List D → Sl → AH → R α} {xs : List V} {Q : β → Hp → Prop}
    (e : ∀ ds s h, ds.length = xs.length → f ds s h = (m s h).bind fun d h => g (ds ++ d) s h)
    (q : tes K ca W Rel f xs σ H Q) : tas K ca W m σ H fun x H1 => tes K ca W Rel g (xs ++ x) σ H1 Q := by
  obtain ⟨M, r, hp, sd, ds, h1, h2, h3, h4⟩ := q
  refine ⟨M, r, hp, sd, [], h1, h2, (by simp only [Reps]), ?_⟩
  rw [e _ _ _ h3.length.symm] at h4
  show Post K ca W (Reps K) σ _ (m sd hp) _
  cases q : m sd hp with
  | ok d h =>
    rw [q] at h4
    intro c' x s sr rx
    exact ⟨c'.M, c'.r, h, sd, ds ++ d, sr, h2.step h1.inM s, (h3.step h1.inM s).append rx, Post.step s h4⟩
  | exc e h =>
    rw [q] at h4
    exact h4
  | bad =>
    rw [q] at h4
    exact h4
theorem tes_mono {f : List D → Sl → AH → R α} {xs : List V} {Q Q' : β → Hp → Prop} (q : tes K ca W Rel f xs σ H Q) (h : ∀ y H, Q y H → Q' y H) : tes K ca W Rel f xs σ H Q' := by
  obtain ⟨M, r, hp, sd, ds, h1, h2, h3, h4⟩ := q
  exact ⟨M, r, hp, sd, ds, h1, h2, h3, h4.mono h⟩
end

theorem PE.imp {X : Cx} {e : Expr} {t t' : TE} (h : PE X e t) (i : ∀ σ H Q, t' σ H Q → t σ H Q) : PE X e t' := ⟨fun pins s σ H Q I q => h.run pins s σ H Q I (i _ _ _ q)⟩
theorem PT.imp {X : Cx} {e : Expr} {t t' : TT} (h : PT X e t) (i : ∀ σ H Q, t' σ H Q → t σ H Q) : PT X e t' := ⟨fun pins s σ H Q I q => h.run pins s σ H Q I (i _ _ _ q)⟩
theorem PA.imp {X : Cx} {e : List Expr} {t t' : TA} (h : PA X e t) (i : ∀ σ H Q, t' σ H Q → t σ H Q) : PA X e t' := ⟨fun pos pins s σ H Q I q => h.run pos pins s σ H Q I (i _ _ _ q)⟩
theorem PS.imp {X : Cx} {e : Stmt} {t t' : TS} (h : PS X e t) (i : ∀ D σ H, t' D σ H → t D σ H) : PS X e t' := ⟨fun pins s σ H D I q => h.run pins s σ H D I (i _ _ _ q)⟩
theorem PSs.imp {X : Cx} {e : List Stmt} {t t' : TS} (h : PSs X e t) (i : ∀ D σ H, t' D σ H → t D σ H) : PSs X e t' := ⟨fun pins s σ H D I q => h.run pins s σ H D I (i _ _ _ q)⟩
theorem PE.no {X : Cx} {e : Expr} {t' : TE} (i : ∀ σ H Q, ¬ t' σ H Q) : PE X e t' := ⟨fun pins s σ H Q I q => (i _ _ _ q).elim⟩
theorem PT.no {X : Cx} {e : Expr} {t' : TT} (i : ∀ σ H Q, ¬ t' σ H Q) : PT X e t' := ⟨fun pins s σ H Q I q => (i _ _ _ q).elim⟩
theorem PS.no {X : Cx} {e : Stmt} {t' : TS} (i : ∀ D σ H, ¬ t' D σ H) : PS X e t' := ⟨fun pins s σ H D I q => (i _ _ _ q).elim⟩

section
variable {K : PySem.W.Frag} {ca : CA} {W : WX} {σ : L2.St} {H : Hp}
theorem te_bad {F : FC} {Q : VK} : ¬ te K ca W (ev F .bad) σ H Q := fun ⟨_, _, _, _, _, _, _, _, h⟩ => h
theorem tt_bad {F : FC} {Q : Bool → Hp → Prop} : ¬ tt K ca W (ev F .bad) σ H Q := fun ⟨_, _, _, _, _, _, _, _, h⟩ => h
theorem tst_bad {F : FC} {Dn : Ends} : ¬ tst K ca W (evS F .bad) Dn σ H := fun ⟨_, _, _, _, _, _, h⟩ => h
end

/-! ## 7. how new things come: a tuple, a frozen list, a list that will be changed -/
section
variable {K : PySem.W.Frag} {ca : CA} {M : Addr → Prop} {r : List Addr} {H : Hp} {hp : AH}
theorem not_new {p : Addr} (h : SR K ca ⟨M, r, H⟩ hp) (hn : H p = none) : ¬ M p := fun m => h.alloc p m hn
theorem step_new {p : Addr} {o : HO} (hn : H p = none) : Step ⟨M, r, H⟩ ⟨M, r, upd H p o⟩ where
  pre := fun _ _ h => h
  mono := fun _ h => h
  fresh := fun _ h => .inl h
  newr := fun n a h l => by
    have z : n < r.length := (List.getElem?_eq_some_iff.mp h).1
    exact absurd z (Nat.not_lt.mpr l)
  keep := fun a u h _ => by
    show upd H p o a = some u
    rw [upd_ne (ne_of_none h hn)]; exact h
  dom := fun a h => by
    show upd H p o a ≠ none
    unfold upd
    split
    · simp
    · exact h
theorem sr_of {c c' : Cf} (h : SR K ca c hp) (s : Step c c') (hr : c'.r = c.r) (hM : ∀ a, c'.M a → c.M a) (hk : ∀ a ∈ c.r, c'.H a = c.H a) : SR K ca c' hp where
  len := by rw [hr]; exact h.len
  nd := by rw [hr]; exact h.nd
  inM := fun a m => s.mono a (h.inM a (by rw [← hr]; exact m))
  ally := fun a m => by
    obtain ⟨o, e, n⟩ := h.ally a (hM a m)
    by_cases z : a ∈ c.r
    · exact ⟨o, (hk a z).trans e, n⟩
    · exact ⟨o, s.keep a o e z, n⟩
  objs := fun i a o e1 e2 => by
    rw [hr] at e1
    have q := h.objs i a o e1 e2
    have hk := hk a (List.mem_of_getElem? e1)
    exact q.mono hk fun d v z => z.step h.inM s
theorem sr_new {p : Addr} {o : HO} (h : SR K ca ⟨M, r, H⟩ hp) (hn : H p = none) : SR K ca ⟨M, r, upd H p o⟩ hp :=
  sr_of h (step_new hn) rfl (fun _ m => m) fun a m => upd_ne fun z => by
    subst z
    exact h.alloc a (h.inM a m) hn
/-- a new list that will be changed -/
theorem step_mu {p : Addr} {o : HO} (hn : H p = none) : Step ⟨M, r, H⟩ ⟨fun a => M a ∨ a = p, r ++ [p], upd H p o⟩ where
  pre := fun n a h => by
    show (r ++ [p])[n]? = some a
    have := (List.getElem?_eq_some_iff.mp h).1
    rw [List.getElem?_append_left this]; exact h
  mono := fun _ h => .inl h
  fresh := fun a h => by
    rcases h with h | h
    · exact .inl h
    · subst h; exact .inr hn
  newr := fun n a h l => by
    have h' : (r ++ [p])[n]? = some a := h
    rw [List.getElem?_append_right l] at h'
    have := (List.getElem?_eq_some_iff.mp h').1
    have e : n - r.length = 0 := by simp at this; omega
    rw [e] at h'
    simp at h'
    subst h'; exact hn
  keep := fun a u h _ => by
    show upd H p o a = some u
    rw [upd_ne (ne_of_none h hn)]; exact h
  dom := fun a h => by
    show upd H p o a ≠ none
    unfold upd
    split
    · simp
    · exact h
theorem sr_muO {p : Addr} {ob : Ob} {ho : HO} (h : SR K ca ⟨M, r, H⟩ hp) (hn : H p = none) (hx : RepO K ca.cls ⟨fun a => M a ∨ a = p, r ++ [p], upd H p ho⟩ ob p) (hnt : nt ho := by intro _ h; cases h) : SR K ca ⟨fun a => M a ∨ a = p, r ++ [p], upd H p ho⟩ (hp ++ [ob]) := by
  have st := step_mu (M := M) (r := r) (o := ho) hn
  have pnr : p ∉ r := fun m => h.alloc p (h.inM p m) hn
  refine ⟨by simp [h.len], ?_, ?_, ?_, ?_⟩
  · show (r ++ [p]).Nodup
    rw [List.nodup_append]
    refine ⟨h.nd, by simp, ?_⟩
    intro a ha b hb
    simp at hb
    subst hb
    intro z; subst z; exact pnr ha
  · intro a m
    rcases List.mem_append.mp m with m | m
    · exact .inl (h.inM a m)
    · simp at m; exact .inr m
  · intro a m
    rcases m with m | m
    · obtain ⟨o, e, n⟩ := h.ally a m
      have hne : a ≠ p := ne_of_none e hn
      exact ⟨o, (upd_ne hne).trans e, n⟩
    · subst m
      exact ⟨_, upd_same, hnt⟩
  · intro i a o e1 e2
    have e1' : (r ++ [p])[i]? = some a := e1
    have hl := h.len
    have hl' : r.length = hp.length := hl
    by_cases hi : i < r.length
    · rw [List.getElem?_append_left hi] at e1'
      rw [List.getElem?_append_left (by omega)] at e2
      have q := h.objs i a o e1' e2
      have hk : upd H p ho a = H a := upd_ne fun z => by subst z; exact pnr (List.mem_of_getElem? e1')
      exact q.mono hk fun d v z => z.step h.inM st
    · rw [List.getElem?_append_right (by omega)] at e1'
      rw [List.getElem?_append_right (by omega)] at e2
      have hi0 := (List.getElem?_eq_some_iff.mp e2).1
      have z : i - hp.length = 0 := by simp at hi0; omega
      have z' : i - r.length = 0 := by omega
      rw [z] at e2; rw [z'] at e1'
      simp at e1' e2
      subst e1' e2
      exact hx
theorem sr_mu {p : Addr} {ds : List D} {xs : List V} (h : SR K ca ⟨M, r, H⟩ hp) (hn : H p = none) (hx : Reps K ⟨M, r, H⟩ ds xs) : SR K ca ⟨fun a => M a ∨ a = p, r ++ [p], upd H p (.lst xs)⟩ (hp ++ [.lst ds]) :=
  sr_muO h hn ⟨xs, upd_same, hx.step h.inM (step_mu hn)⟩
end
/-- a frozen or a changing list, just made at any free place -/
theorem mk_list {K : PySem.W.Frag} {ca : CA} {W : WX} {σ : L2.St} {M : Addr → Prop} {r : List Addr} {H : Hp} {hp : AH} {mu : Bool} {ds : List D} {xs : List V} {Q : VK}
    (h : SR K ca ⟨M, r, H⟩ hp) (hx : Reps K ⟨M, r, H⟩ ds xs) (q : Post K ca W (Rep K) σ ⟨M, r, H⟩ (mkL mu (.lst ds) hp) Q) (p : Addr) (hn : H p = none) : Q (.ref p) (upd H p (.lst xs)) := by
  cases mu with
  | false =>
    refine q ⟨M, r, upd H p (.lst xs)⟩ (.ref p) (step_new hn) (sr_new h hn) ?_
    simp only [Rep]
    exact ⟨p, xs, rfl, not_new h hn, upd_same, hx.step h.inM (step_new hn)⟩
  | true =>
    refine q ⟨fun a => M a ∨ a = p, r ++ [p], upd H p (.lst xs)⟩ (.ref p) (step_mu hn) (sr_mu h hn hx) ?_
    simp only [Rep]
    have hl : r.length = hp.length := h.len
    exact ⟨p, rfl, by rw [← hl]; simp⟩
theorem mk_tup {K : PySem.W.Frag} {ca : CA} {W : WX} {σ : L2.St} {M : Addr → Prop} {r : List Addr} {H : Hp} {hp : AH} {ds : List D} {xs : List V} {Q : VK}
    (h : SR K ca ⟨M, r, H⟩ hp) (hx : Reps K ⟨M, r, H⟩ ds xs) (q : Post K ca W (Rep K) σ ⟨M, r, H⟩ (.ok (.tup ds) hp) Q) (p : Addr) (hn : H p = none) : Q (.ref p) (upd H p (.tup xs)) := by
  refine q ⟨M, r, upd H p (.tup xs)⟩ (.ref p) (step_new hn) (sr_new h hn) ?_
  simp only [Rep]
  exact ⟨p, xs, rfl, ⟨not_new h hn, upd_same⟩, hx.step h.inM (step_new hn)⟩
end DI
set_option Elab.async false
set_option linter.all false
set_option maxRecDepth 100000
namespace DI
open PySem PySem.Spec PyProof.Rows L2
noncomputable section

/-! ## 8. operations -/
section
variable {K : PySem.W.Frag} {ca : CA} {c : Cf} {hp : AH}
theorem asL_rep {d : D} {v : V} {ds : List D} (h : SR K ca c hp) (r : Rep K c d v) (e : asL hp d = some ds) : ∃ a xs, v = .ref a ∧ c.H a = some (.lst xs) ∧ Reps K c ds xs := by
  cases d with
  | lst es =>
    simp only [asL, Option.some.injEq] at e
    subst e
    simp only [Rep] at r
    obtain ⟨a, xs, e, n, q, r⟩ := r
    exact ⟨a, xs, e, q, r⟩
  | ref n =>
    simp only [asL] at e
    simp only [Rep] at r
    obtain ⟨a, ev, ra⟩ := r
    cases q : hp[n]? with
    | none => rw [q] at e; cases e
    | some o =>
      rw [q] at e
      cases o with
      | lst es =>
        cases e
        obtain ⟨xs, e1, e2⟩ := h.objs n a _ ra q
        exact ⟨a, xs, ev, e1, e2⟩
      | _ => cases e
  | _ => simp only [asL] at e; cases e
theorem SqL.of' {K : PySem.W.Frag} {H : Hp} {a : Addr} {xs : List V} (h : H a = some (.lst xs)) : SqL K H a xs := .inl (.inl h)

/-! data -/
mutual
def toP : D → PyData
  | .non => .none
  | .bl b => .bool b
  | .int i => .int i
  | .str x => .str (mkS x)
  | .tup ds => .tuple (toPs ds)
  | .lst ds => .list (toPs ds)
  | .scr _ => .none
  | .ref _ => .none
def toPs : List D → List PyData
  | [] => []
  | d :: ds => toP d :: toPs ds
end
mutual
theorem Rep.dp : ∀ (d : D) (v : V), d.dat = true → Rep K c d v → Dp K c.H v (toP d) ∧ (toP d).canLay0 = true
  | .non, v, _, h => by simp only [Rep] at h; subst h; exact ⟨.non, rfl⟩
  | .bl b, v, _, h => by simp only [Rep] at h; subst h; exact ⟨.bl b, rfl⟩
  | .int i, v, _, h => by simp only [Rep] at h; subst h; exact ⟨.int i, rfl⟩
  | .str x, v, _, h => by
    simp only [Rep] at h
    obtain ⟨h1, _, rfl⟩ := h
    exact ⟨.str _, by simp only [toP, PyData.canLay0]; exact h1⟩
  | .tup ds, v, hd, h => by
    simp only [Rep] at h
    obtain ⟨a, xs, rfl, t, q⟩ := h
    simp only [D.dat] at hd
    have z := Reps.dp ds xs hd q
    exact ⟨.tup t.sq z.1, by simp only [toP, PyData.canLay0]; exact z.2⟩
  | .lst ds, v, hd, h => by
    simp only [Rep] at h
    obtain ⟨a, xs, rfl, _, t, q⟩ := h
    simp only [D.dat] at hd
    have z := Reps.dp ds xs hd q
    exact ⟨.lst (.of t) z.1, by simp only [toP, PyData.canLay0]; exact z.2⟩
  | .scr _, _, hd, _ => by simp [D.dat] at hd
  | .ref _, _, hd, _ => by simp [D.dat] at hd
theorem Reps.dp : ∀ (ds : List D) (xs : List V), dats ds = true → Reps K c ds xs → DpAll K c.H xs (toPs ds) ∧ PyData.canLayAll0 (toPs ds) = true
  | [], xs, _, h => by simp only [Reps] at h; subst h; exact ⟨.nil, rfl⟩
  | d :: ds, xs, hd, h => by
    simp only [Reps] at h
    obtain ⟨x, r, rfl, h1, h2⟩ := h
    simp only [dats, Bool.and_eq_true] at hd
    have z1 := Rep.dp d x hd.1 h1
    have z2 := Reps.dp ds r hd.2 h2
    exact ⟨.cons z1.1 z2.1, by simp only [toPs, PyData.canLayAll0, z1.2, z2.2, Bool.and_self]⟩
end
theorem mkS_inj {x y : List Nat} : (mkS x == mkS y) = (x == y) := by
  by_cases h : x = y
  · subst h; simp
  · have : mkS x ≠ mkS y := fun z => h (by
      have := congrArg (fun s : Str => s.cps.toList) z
      simpa [mkS] using this)
    rw [beq_eq_false_iff_ne.mpr h, beq_eq_false_iff_ne.mpr this]
mutual
theorem eqv_toP : ∀ (d e : D), d.dat = true → e.dat = true → PyData.eqv (toP d) (toP e) = eqv d e
  | .non, e, _, h => by cases e <;> simp_all [toP, PyData.eqv, eqv, D.dat]
  | .bl b, e, _, h => by cases e <;> simp_all [toP, PyData.eqv, eqv, D.dat]
  | .int i, e, _, h => by cases e <;> simp_all [toP, PyData.eqv, eqv, D.dat]
  | .str x, e, _, h => by cases e <;> simp_all [toP, PyData.eqv, eqv, D.dat, mkS_inj]
  | .lst ds, e, h1, h2 => by
    cases e with
    | lst es =>
      simp only [D.dat] at h1 h2
      simp only [toP, PyData.eqv, eqv]
      exact eqvs_toP ds es h1 h2
    | _ => simp_all [toP, PyData.eqv, eqv, D.dat]
  | .tup ds, e, h1, h2 => by
    cases e with
    | tup es =>
      simp only [D.dat] at h1 h2
      simp only [toP, PyData.eqv, eqv]
      exact eqvs_toP ds es h1 h2
    | _ => simp_all [toP, PyData.eqv, eqv, D.dat]
  | .scr _, _, h, _ => by simp [D.dat] at h
  | .ref _, _, h, _ => by simp [D.dat] at h
theorem eqvs_toP : ∀ (ds es : List D), dats ds = true → dats es = true → PyData.eqvAll (toPs ds) (toPs es) = eqvs ds es
  | [], es, _, _ => by cases es <;> simp [toPs, PyData.eqvAll, eqvs]
  | d :: ds, es, h1, h2 => by
    cases es with
    | nil => simp [toPs, PyData.eqvAll, eqvs]
    | cons e es =>
      simp only [dats, Bool.and_eq_true] at h1 h2
      simp only [toPs, PyData.eqvAll, eqvs, eqv_toP d e h1.1 h2.1, eqvs_toP ds es h1.2 h2.2]
end
mutual
theorem dep_toP : ∀ d : D, (toP d).depth = d.dep
  | .non | .bl _ | .int _ | .str _ | .scr _ | .ref _ => by simp only [toP, PyData.depth, D.dep]
  | .tup ds => by simp only [toP, PyData.depth, D.dep, deps_toPs ds]
  | .lst ds => by simp only [toP, PyData.depth, D.dep, deps_toPs ds]
theorem deps_toPs : ∀ ds : List D, PyData.depthAll (toPs ds) = deps ds
  | [] => rfl
  | d :: ds => by simp only [toPs, PyData.depthAll, deps, dep_toP d, deps_toPs ds]
end
/-- what a value is now, as a value that stands as it is for the moment -/
theorem now_dp {d : D} {v : V} (h : SR K ca c hp) (r : Rep K c d v) (hd : (now hp d).dat = true) : Dp K c.H v (toP (now hp d)) ∧ (toP (now hp d)).canLay0 = true := by
  unfold now at hd ⊢
  cases d with
  | ref n =>
    simp only at hd ⊢
    cases q : hp[n]? with
    | none => rw [q] at hd; simp [D.dat] at hd
    | some o =>
      rw [q] at hd
      cases o with
      | lst es =>
        simp only at hd ⊢
        simp only [Rep] at r
        obtain ⟨a, rfl, ra⟩ := r
        obtain ⟨xs, e1, e2⟩ := h.objs n a _ ra q
        simp only [D.dat] at hd
        have z := Reps.dp es xs hd e2
        exact ⟨.lst (.of e1) z.1, by simp only [toP, PyData.canLay0]; exact z.2⟩
      | _ => simp [D.dat] at hd
  | _ => exact Rep.dp _ _ hd r
end

section
variable {X : Cx} {ca : CA}
theorem op_eqP (hu : X.A.units + 200 < cLine) : OpR X (compareOp .Eq) (fun x y H Q => ∃ d e, Dp X.K H x d ∧ Dp X.K H y e ∧ d.canLay0 = true ∧ e.canLay0 = true ∧ min d.depth e.depth ≤ 100 ∧ Q (.bl (PyData.eqv d e)) H) := by
  intro pins s σ H x y v u Q I rx ry h
  obtain ⟨d, e, hd, he, sd, se, l, q⟩ := h
  obtain ⟨as, r1⟩ := Dp.reads I d x v hd rx
  obtain ⟨bs, r2⟩ := Dp.reads I e y u he ry
  exact SeqAt.compareEq_reads r1 r2 sd se (by omega) ⟨.bl _, H, I, rfl, q⟩
theorem op_neP (hu : X.A.units + 200 < cLine) : OpR X (compareOp .NotEq) (fun x y H Q => ∃ d e, Dp X.K H x d ∧ Dp X.K H y e ∧ d.canLay0 = true ∧ e.canLay0 = true ∧ min d.depth e.depth ≤ 100 ∧ Q (.bl (!PyData.eqv d e)) H) := by
  intro pins s σ H x y v u Q I rx ry h
  obtain ⟨d, e, hd, he, sd, se, l, q⟩ := h
  obtain ⟨as, r1⟩ := Dp.reads I d x v hd rx
  obtain ⟨bs, r2⟩ := Dp.reads I e y u he ry
  exact SeqAt.compareNe_reads r1 r2 sd se (by omega) ⟨.bl _, H, I, rfl, q⟩

/-- two plain values, an operation that raises nothing -/
def r2 (K : PySem.W.Frag) (ca : CA) (f : AH → D → D → R D) : R2 := fun x y H Q =>
  ∃ (W : WX) (σ : L2.St) (M : Addr → Prop) (r : List Addr) (hp : AH) (a b : D), SR K ca ⟨M, r, H⟩ hp ∧ Rep K ⟨M, r, H⟩ a x ∧ Rep K ⟨M, r, H⟩ b y ∧ Post K ca W (Rep K) σ ⟨M, r, H⟩ (f hp a b) Q
def r1 (K : PySem.W.Frag) (ca : CA) (f : AH → D → R D) : V → Hp → VK → Prop := fun x H Q =>
  ∃ (W : WX) (σ : L2.St) (M : Addr → Prop) (r : List Addr) (hp : AH) (a : D), SR K ca ⟨M, r, H⟩ hp ∧ Rep K ⟨M, r, H⟩ a x ∧ Post K ca W (Rep K) σ ⟨M, r, H⟩ (f hp a) Q
def rn (K : PySem.W.Frag) (ca : CA) (f : AH → List D → R D) : List V → Hp → VK → Prop := fun xs H Q =>
  ∃ (W : WX) (σ : L2.St) (M : Addr → Prop) (r : List Addr) (hp : AH) (ds : List D), SR K ca ⟨M, r, H⟩ hp ∧ Reps K ⟨M, r, H⟩ ds xs ∧ Post K ca W (Rep K) σ ⟨M, r, H⟩ (f hp ds) Q

theorem Post.now {K : PySem.W.Frag} {W : WX} {σ : L2.St} {M : Addr → Prop} {r : List Addr} {H : Hp} {hp : AH} {d : D} {v : V} {Q : VK} (h : SR K ca ⟨M, r, H⟩ hp) (q : Post K ca W (Rep K) σ ⟨M, r, H⟩ (.ok d hp) Q) (rv : Rep K ⟨M, r, H⟩ d v) : Q v H :=
  q ⟨M, r, H⟩ v (Step.refl _) h rv
theorem Post.opt {K : PySem.W.Frag} {W : WX} {α β : Type} {Rel : Cf → α → β → Prop} {σ : L2.St} {c : Cf} {o : Option α} {h : AH} {Q : β → Hp → Prop} (q : Post K ca W Rel σ c (R.opt o h) Q) : ∃ x, o = some x ∧ Post K ca W Rel σ c (.ok x h) Q := by
  cases o with
  | none => exact q.elim
  | some x => exact ⟨x, rfl, q⟩
theorem Post.optb {K : PySem.W.Frag} {W : WX} {α β γ : Type} {Rel : Cf → γ → β → Prop} {σ : L2.St} {c : Cf} {o : Option α} {h : AH} {f : α → AH → R γ} {Q : β → Hp → Prop} (q : Post K ca W Rel σ c ((R.opt o h).bind f) Q) : ∃ x, o = some x ∧ Post K ca W Rel σ c (f x h) Q := by
  cases o with
  | none => exact q.elim
  | some x => exact ⟨x, rfl, q⟩
theorem rep_int {K : PySem.W.Frag} {c : Cf} {i : Int} : Rep K c (.int i) (.int i) := by simp only [Rep]
theorem rep_bl {K : PySem.W.Frag} {c : Cf} {i : Bool} : Rep K c (.bl i) (.bl i) := by simp only [Rep]
theorem rep_non {K : PySem.W.Frag} {c : Cf} : Rep K c .non .non := by simp only [Rep]
theorem int_of {K : PySem.W.Frag} {c : Cf} {i : Int} {v : V} (h : Rep K c (.int i) v) : v = .int i := by simpa only [Rep] using h
theorem bl_of {K : PySem.W.Frag} {c : Cf} {i : Bool} {v : V} (h : Rep K c (.bl i) v) : v = .bl i := by simpa only [Rep] using h
theorem str_of {K : PySem.W.Frag} {c : Cf} {x : List Nat} {v : V} (h : Rep K c (.str x) v) : PyData.strOk (mkS x) = true ∧ x.length ≤ sizeLine ∧ v = .str (mkS x) := by simpa only [Rep] using h
theorem sz_eq : sizeLine = 16777216 := sizeLine_eq
theorem mkS_append {x y : List Nat} : mkS x ++ mkS y = mkS (x ++ y) := by
  show Str.append _ _ = _
  simp [Str.append, mkS]
theorem strOk_append {x y : List Nat} (h1 : PyData.strOk (mkS x) = true) (h2 : PyData.strOk (mkS y) = true) : PyData.strOk (mkS (x ++ y)) = true := by
  simp only [PyData.strOk, mkS] at h1 h2 ⊢
  simp at h1 h2 ⊢
  exact ⟨h1, h2⟩
theorem mkS_length {x : List Nat} : (mkS x).length = x.length := by simp [Str.length, mkS]

/-- f as it stands, then a list frozen or not -/
def thenMk (mu : Bool) (f : AH → D → D → Option D) : AH → D → D → R D := fun h a b => (R.opt (f h a b) h).bind fun d h => mkL mu d h
theorem mkL_plain {K : PySem.W.Frag} {W : WX} {σ : L2.St} {M : Addr → Prop} {r : List Addr} {H : Hp} {hp : AH} {mu : Bool} {d : D} {v : V} {Q : VK} (h : SR K ca ⟨M, r, H⟩ hp) (q : Post K ca W (Rep K) σ ⟨M, r, H⟩ (mkL mu d hp) Q) (nl : ∀ ds, d ≠ .lst ds) (rv : Rep K ⟨M, r, H⟩ d v) : Q v H := by
  cases mu with
  | false => exact Post.now h q rv
  | true => cases d <;> first | exact q.elim | exact absurd rfl (nl _)

theorem opAdd {mu : Bool} : OpR X (binaryOp .Add) (r2 X.K ca (thenMk mu addD)) := by
  intro pins s σ H x y v u Q I rx ry h
  obtain ⟨W, σ', M, r, hp, a, b, sr, ra, rb, q⟩ := h
  obtain ⟨d, e, q⟩ := q.optb
  unfold addD at e
  split at e
  · cases e
    rw [int_of ra] at rx; rw [int_of rb] at ry
    exact op_add pins s σ H _ _ v u Q I rx ry ⟨_, _, rfl, rfl, mkL_plain sr q (fun _ z => by cases z) rep_int⟩
  · rename_i x y
    split at e
    · rename_i hl
      cases e
      obtain ⟨a1, a2, a3⟩ := str_of ra
      obtain ⟨b1, b2, b3⟩ := str_of rb
      subst a3 b3
      refine op_add_str pins s σ H _ _ v u Q I rx ry ⟨_, _, rfl, rfl, ?_, ?_⟩
      · rw [mkS_length, mkS_length, sz_eq]; exact hl
      · rw [mkS_append]
        refine mkL_plain sr q (fun _ z => by cases z) ?_
        simp only [Rep]
        exact ⟨strOk_append a1 b1, by rw [List.length_append, sz_eq]; exact hl, trivial⟩
    · cases e
  · rename_i x y
    split at e
    · rename_i hl
      cases e
      simp only [Rep] at ra rb
      obtain ⟨p, xs, rfl, t1, r1⟩ := ra
      obtain ⟨p', ys, rfl, t2, r2⟩ := rb
      have l1 := r1.length
      have l2 := r2.length
      have fin : ∀ p'', H p'' = none → Q (.ref p'') (upd H p'' (.tup (xs ++ ys))) := fun p'' hn => by
        refine mk_tup (W := W) (σ := σ') (r := r) sr (r1.append r2) ?_ p'' hn
        cases mu with
        | false => exact q
        | true => exact q.elim
      have nomu : Post X.K ca W (Rep X.K) σ' ⟨M, r, H⟩ (.ok (.tup (x ++ y)) hp) Q := by
        cases mu with
        | false => exact q
        | true => exact q.elim
      refine op_catA pins s σ H _ _ v u Q I rx ry ⟨p, p', xs, ys, rfl, rfl, t1.sq, t2.sq, by rw [l1, l2, sz_eq]; exact hl, ?_, ?_, fun _ _ => fin⟩
      · intro z
        subst z
        refine Post.now sr nomu ?_
        simp only [Rep]
        exact ⟨p', ys, rfl, t2, by simpa using r1.append r2⟩
      · intro _ z
        subst z
        refine Post.now sr nomu ?_
        simp only [Rep]
        exact ⟨p, xs, rfl, t1, by simpa using r1.append r2⟩
    · cases e
  · split at e
    · rename_i a' b' e1 e2
      split at e
      · rename_i hl
        cases e
        obtain ⟨p, xs, rfl, t1, r1⟩ := asL_rep sr ra e1
        obtain ⟨p', ys, rfl, t2, r2⟩ := asL_rep sr rb e2
        have l1 := r1.length
        have l2 := r2.length
        exact op_cat pins s σ H _ _ v u Q I rx ry ⟨p, p', xs, ys, rfl, rfl, t1, t2, by rw [l1, l2, sz_eq]; exact hl, fun p'' hn => mk_list (W := W) (σ := σ') (r := r) sr (r1.append r2) q p'' hn⟩
      · cases e
    · cases e

theorem opInt {op : Operator} {g : D → D → Option D} {mu : Bool} {C : Int → Int → Prop} {gi : Int → Int → Int} (rule : OpR X (binaryOp op) (rI C fun i j => .int (gi i j)))
    (hg : ∀ a b d, g a b = some d → ∃ i j, a = .int i ∧ b = .int j ∧ C i j ∧ d = .int (gi i j)) : OpR X (binaryOp op) (r2 X.K ca (thenMk mu fun _ => g)) := by
  intro pins s σ H x y v u Q I rx ry h
  obtain ⟨W, σ', M, r, hp, a, b, sr, ra, rb, q⟩ := h
  obtain ⟨d, e, q⟩ := q.optb
  obtain ⟨i, j, rfl, rfl, hc, rfl⟩ := hg _ _ _ e
  rw [int_of ra] at rx; rw [int_of rb] at ry
  exact rule pins s σ H _ _ v u Q I rx ry ⟨_, _, rfl, rfl, hc, mkL_plain sr q (fun _ z => by cases z) rep_int⟩
theorem op_sub' : OpR X (binaryOp .Sub) (rI (fun _ _ => True) fun i j => .int (i - j)) := by
  intro pins s σ H x y v u Q I rx ry h
  obtain ⟨i, j, e1, e2, _, q⟩ := h
  exact op_sub pins s σ H x y v u Q I rx ry ⟨i, j, e1, e2, q⟩
theorem repL_rep {K : PySem.W.Frag} {c : Cf} {ds : List D} {xs : List V} (r : Reps K c ds xs) (k : Int) : Reps K c (repL k ds) (List.replicate k.toNat xs).flatten := by
  unfold repL
  generalize k.toNat = n
  induction n with
  | zero => simp [Reps]
  | succ n ih =>
    rw [List.replicate_succ, List.replicate_succ, List.flatten_cons, List.flatten_cons]
    exact r.append ih
theorem mul_txt {x : List Nat} {k : Int} : Txt.mul (mkS x) k = mkS (repL k x) := by
  have key : ∀ (n : Nat) (acc : List Nat), (List.replicate n x.toArray).foldl (· ++ ·) acc.toArray = (acc ++ (List.replicate n x).flatten).toArray := by
    intro n
    induction n with
    | zero => intro acc; simp
    | succ n ih =>
      intro acc
      rw [List.replicate_succ, List.replicate_succ, List.foldl_cons, List.flatten_cons]
      have e : acc.toArray ++ x.toArray = (acc ++ x).toArray := by simp
      rw [e, ih, List.append_assoc]
  unfold Txt.mul repL
  by_cases h1 : k < 1
  · rw [if_pos h1, show k.toNat = 0 by omega]
    rfl
  · rw [if_neg h1]
    split
    · rename_i h
      simp only [Bool.or_eq_true, beq_iff_eq] at h
      rcases h with h | h
      · rw [h]; simp
      · rw [mkS_length] at h
        have : x = [] := List.eq_nil_of_length_eq_zero h
        subst this
        simp [mkS]
    · have := key k.toNat []
      simp only [List.nil_append] at this
      show (⟨_⟩ : Str) = ⟨_⟩
      congr 1
theorem op_mulS : OpR X (binaryOp .Mult) (fun x y H Q => ∃ a k, x = .str a ∧ y = .int k ∧ MulOk a k ∧ Q (.str (Txt.mul a k)) H) := by
  intro pins s σ H x y v u Q I rx ry h
  obtain ⟨a, k, rfl, rfl, hok, q⟩ := h
  obtain ⟨t, rfl⟩ := rx
  obtain ⟨t', rfl⟩ := ry
  exact PySem.SB.mul hok fun t'' kk => ⟨.str _, H, I.tok _, ⟨_, rfl⟩, q⟩
theorem rep_len {α : Type} (k : Int) (xs : List α) : (repL k xs).length = xs.length * k.toNat := by
  unfold repL
  rw [Nat.mul_comm]
  generalize k.toNat = n
  induction n with
  | zero => simp
  | succ n ih => rw [List.replicate_succ, List.flatten_cons, List.length_append, ih, Nat.add_mul]; omega
theorem rep_mem {α : Type} {k : Int} {xs : List α} {a : α} (h : a ∈ repL k xs) : a ∈ xs := by
  unfold repL at h
  obtain ⟨l, h1, h2⟩ := List.mem_flatten.mp h
  rw [(List.mem_replicate.mp h1).2] at h2
  exact h2
theorem mulOk_of {x : List Nat} {k : Int} (h1 : -1000000 < k) (h2 : k < 1000000) (h3 : x.length * k.toNat ≤ 16777216) : MulOk (mkS x) k := by
  refine ⟨?_, fun h4 h5 => ?_, fun h4 h5 => ?_⟩
  · simp
    omega
  · rw [mkS_length]
    have hk : 0 < k := by omega
    have hx : (x.length : Int) ≤ 16777216 := by
      have : x.length * 1 ≤ x.length * k.toNat := Nat.mul_le_mul_left _ (by omega)
      omega
    have : (2 ^ 63 - 1) / 1000000 ≤ (2 ^ 63 - 1) / k := by
      rw [Int.le_ediv_iff_mul_le hk]
      have : (2 ^ 63 - 1 : Int) / 1000000 * k ≤ (2 ^ 63 - 1 : Int) / 1000000 * 1000000 := Int.mul_le_mul_of_nonneg_left (by omega) (by decide)
      omega
    omega
  · rw [mkS_length]
    simp only [Builtin.Str.tooLong, decide_eq_false_iff_not, sz_eq]
    omega
theorem opMul {mu : Bool} : OpR X (binaryOp .Mult) (r2 X.K ca (thenMk mu mulD)) := by
  intro pins s σ H x y v u Q I rx ry h
  obtain ⟨W, σ', M, r, hp, a, b, sr, ra, rb, q⟩ := h
  obtain ⟨d, e, q⟩ := Post.optb q
  unfold mulD at e
  split at e
  · split at e
    · rename_i h
      cases e
      exact op_mul pins s σ H _ _ v u Q I rx ry ⟨_, _, int_of ra, int_of rb, h, mkL_plain sr q (fun _ z => by cases z) rep_int⟩
    · cases e
  · split at e
    · rename_i h
      cases e
      obtain ⟨k1, k2, rfl⟩ := str_of ra
      rw [int_of rb] at ry
      refine op_mulS pins s σ H _ _ v u Q I rx ry ⟨_, _, rfl, rfl, mulOk_of h.1 h.2.1 h.2.2, ?_⟩
      rw [mul_txt]
      refine mkL_plain sr q (fun _ z => by cases z) ?_
      simp only [Rep]
      refine ⟨?_, by rw [rep_len, sz_eq]; exact h.2.2, trivial⟩
      simp only [PyData.strOk, mkS, List.all_toArray, List.all_eq_true] at k1 ⊢
      exact fun n hn => k1 n (rep_mem hn)
    · cases e
  · rename_i a k
    split at e
    · rename_i h
      cases e
      simp only [Rep] at ra
      obtain ⟨p, xs, rfl, t, rr⟩ := ra
      rw [int_of rb] at ry
      have hl := rr.length
      refine op_repT pins s σ H _ _ v u Q I rx ry ⟨p, _, xs, rfl, rfl, t.sq, ?_, h.1, h.2.1, by rw [hl]; exact h.2.2.1, fun q' hq => ?_⟩
      · intro z
        subst z
        have := h.2.2.2
        have hz := List.eq_nil_of_length_eq_zero hl.symm
        rw [hz] at this
        simp at this
      · have q2 : Post X.K ca W (Rep X.K) σ' ⟨M, r, H⟩ (.ok (.tup (repL k a)) hp) Q := by
          cases mu with
          | false => exact q
          | true => exact q.elim
        exact mk_tup sr (repL_rep rr _) q2 q' hq
    · cases e
  · obtain ⟨es, e1, e2⟩ := Option.bind_eq_some_iff.mp e
    split at e2
    · rename_i h
      cases e2
      obtain ⟨p, xs, rfl, ha, rr⟩ := asL_rep sr ra e1
      rw [int_of rb] at ry
      exact op_rep pins s σ H _ _ v u Q I rx ry ⟨p, _, xs, rfl, rfl, ha, by omega, by omega, by rw [rr.length, sz_eq]; exact h.2.2, fun q' hq => mk_list sr (repL_rep rr _) q q' hq⟩
    · cases e2
  · cases e
theorem opBin {op : Operator} {mu : Bool} : OpR X (binaryOp op) (r2 X.K ca (thenMk mu (binop op))) := by
  cases op
  case Add => exact opAdd
  case Sub =>
    refine opInt (g := subD) op_sub' fun a b d e => ?_
    unfold subD at e; split at e
    · cases e; exact ⟨_, _, rfl, rfl, trivial, rfl⟩
    · cases e
  case Mult => exact opMul
  case FloorDiv =>
    refine opInt (g := divD) op_fdivW fun a b d e => ?_
    unfold divD at e; split at e
    · split at e
      · rename_i h; cases e; exact ⟨_, _, rfl, rfl, wide_div (b := 64) h.1 (by omega) (by decide) (by decide), rfl⟩
      · cases e
    · cases e
  case Mod =>
    refine opInt (g := modD) op_mod fun a b d e => ?_
    unfold modD at e; split at e
    · split at e
      · rename_i h; cases e; exact ⟨_, _, rfl, rfl, h, rfl⟩
      · cases e
    · cases e
  case Pow =>
    refine opInt (g := powD) op_pow fun a b d e => ?_
    unfold powD at e; split at e
    · split at e
      · rename_i h; cases e; exact ⟨_, _, rfl, rfl, h, rfl⟩
      · cases e
    · cases e
  all_goals
    intro pins s σ H x y v u Q I rx ry h
    obtain ⟨W, σ', M, r, hp, a, b, sr, ra, rb, q⟩ := h
    exact q.elim

theorem opOrd {op : CmpOp} {f : Int → Int → Bool} (rule : OpR X (compareOp op) (rI0 fun i j => .bl (f i j))) : OpR X (compareOp op) (r2 X.K ca fun h a b => R.opt (ints2 f a b) h) := by
  intro pins s σ H x y v u Q I rx ry h
  obtain ⟨W, σ', M, r, hp, a, b, sr, ra, rb, q⟩ := h
  obtain ⟨d, e, q⟩ := q.opt
  unfold ints2 at e
  split at e
  · cases e
    rw [int_of ra] at rx; rw [int_of rb] at ry
    exact rule pins s σ H _ _ v u Q I rx ry ⟨_, _, rfl, rfl, Post.now sr q rep_bl⟩
  · cases e
theorem eqD_out {K : PySem.W.Frag} {c : Cf} {hp : AH} {a b : D} {x y : V} {t : Bool} (sr : SR K ca c hp) (ra : Rep K c a x) (rb : Rep K c b y) (e : eqD hp a b = some t) :
    ∃ d e, Dp K c.H x d ∧ Dp K c.H y e ∧ d.canLay0 = true ∧ e.canLay0 = true ∧ min d.depth e.depth ≤ 100 ∧ PyData.eqv d e = t := by
  unfold eqD at e
  split at e
  · rename_i h
    cases e
    simp only [Bool.and_eq_true, Bool.or_eq_true, decide_eq_true_eq] at h
    obtain ⟨⟨h1, h2⟩, h3⟩ := h
    have z1 := now_dp sr ra h1
    have z2 := now_dp sr rb h2
    refine ⟨_, _, z1.1, z2.1, z1.2, z2.2, ?_, eqv_toP _ _ h1 h2⟩
    rw [dep_toP, dep_toP]
    omega
  · cases e
/-! in -/
theorem flat_rep {K : PySem.W.Frag} {c : Cf} {d : D} {v : V} (r : Rep K c d v) (h : d.flat = true) : flatV v = true := by
  cases d with
  | non => simp only [Rep] at r; subst r; rfl
  | bl b => simp only [Rep] at r; subst r; rfl
  | int i => simp only [Rep] at r; subst r; rfl
  | str x => obtain ⟨_, _, rfl⟩ := str_of r; rfl
  | _ => simp [D.flat] at h
theorem flat_eqv {K : PySem.W.Frag} {c : Cf} {d e : D} {v w : V} (r : Rep K c d v) (r' : Rep K c e w) (h : d.flat = true) (h' : e.flat = true) : eqV v w = eqv d e := by
  cases d with
  | non => simp only [Rep] at r; subst r; cases e <;> simp_all [D.flat, Rep, eqV, eqv] <;> (try (obtain ⟨_, _, rfl⟩ := r'; rfl))
  | bl b => simp only [Rep] at r; subst r; cases e <;> simp_all [D.flat, Rep, eqV, eqv] <;> (try (obtain ⟨_, _, rfl⟩ := r'; rfl))
  | int i => simp only [Rep] at r; subst r; cases e <;> simp_all [D.flat, Rep, eqV, eqv] <;> (try (obtain ⟨_, _, rfl⟩ := r'; rfl))
  | str x =>
    obtain ⟨_, _, rfl⟩ := str_of r
    cases e with
    | str y =>
      obtain ⟨_, _, rfl⟩ := str_of r'
      simp only [eqV, eqv, mkS_inj]
    | _ => simp_all [D.flat, Rep, eqV, eqv]
  | _ => simp [D.flat] at h
theorem flats_rep {K : PySem.W.Frag} {c : Cf} {d : D} {v : V} (rv : Rep K c d v) (hf : d.flat = true) : ∀ {ds : List D} {xs : List V}, Reps K c ds xs → ds.all D.flat = true → xs.all flatV = true ∧ inV v xs = ds.any fun e => eqv e d
  | [], _, r, _ => by simp only [Reps] at r; subst r; exact ⟨rfl, rfl⟩
  | e :: ds, _, r, h => by
    simp only [Reps] at r
    obtain ⟨x, xs, rfl, r1, r2⟩ := r
    simp only [List.all_cons, Bool.and_eq_true] at h
    obtain ⟨h1, h2⟩ := flats_rep rv hf r2 h.2
    refine ⟨by simp only [List.all_cons, flat_rep r1 h.1, h1, Bool.and_self], ?_⟩
    show (eqV x v || inV v xs) = _
    rw [flat_eqv r1 rv h.1 hf, h2]
    rfl
theorem any_toP {x : D} (hx : x.dat = true) : ∀ {ds : List D}, dats ds = true → ((toPs ds).any fun z => PyData.eqv z (toP x)) = ds.any fun d => eqv d x
  | [], _ => rfl
  | d :: ds, h => by
    simp only [dats, Bool.and_eq_true] at h
    simp only [toPs, List.any_cons, eqv_toP d x h.1 hx, any_toP hx h.2]
theorem inA_out {K : PySem.W.Frag} {c : Cf} {hp : AH} {a : D} {ds : List D} {x : V} {p : Addr} {xs : List V} {t : Bool} (sr : SR K ca c hp) (ra : Rep K c a x) (hl : c.H p = some (.lst xs)) (rr : Reps K c ds xs) (e : inA hp a ds = some t) :
    inL a ds = some t ∨ ∃ d es, Dp K c.H x d ∧ Dp K c.H (.ref p) (.list es) ∧ SeqAt.shaped d = true ∧ SeqAt.shaped (.list es) = true ∧ t = es.any fun z => PyData.eqv z d := by
  unfold inA at e
  split at e
  · rename_i b hb
    cases e
    exact .inl hb
  · split at e
    · rename_i h
      simp only [Bool.and_eq_true, decide_eq_true_eq] at h
      obtain ⟨⟨⟨h1, h2⟩, h3⟩, h4⟩ := h
      cases e
      obtain ⟨d1, d2⟩ := now_dp sr ra h1
      obtain ⟨e1, e2⟩ := Reps.dp ds xs h2 rr
      refine .inr ⟨_, _, d1, .lst (.of hl) e1, ?_, ?_, (any_toP h1 h2).symm⟩
      · simp only [SeqAt.shaped, d2, dep_toP, h3, decide_true, Bool.and_self]
      · simp only [SeqAt.shaped, PyData.canLay0, e2, PyData.depth, deps_toPs, Bool.true_and, decide_eq_true_eq]
        omega
    · cases e
theorem inD_out {K : PySem.W.Frag} {c : Cf} {hp : AH} {a b : D} {x y : V} {t : Bool} (sr : SR K ca c hp) (ra : Rep K c a x) (rb : Rep K c b y) (e : inD hp a b = some t) :
    (∃ k z, x = .str ⟨#[k]⟩ ∧ y = .str z ∧ t = decide (k ∈ z.cps.toList)) ∨ ∃ p xs, y = .ref p ∧ (SqL K c.H p xs ∨ SqT K c.H p xs) ∧ ((flatV x = true ∧ xs.all flatV = true ∧ t = inV x xs) ∨ ∃ d es, Dp K c.H x d ∧ Dp K c.H y (.list es) ∧ SeqAt.shaped d = true ∧ SeqAt.shaped (.list es) = true ∧ t = es.any fun z => PyData.eqv z d) := by
  have go : ∀ {ds : List D} {p : Addr} {xs : List V}, y = .ref p → (SqL K c.H p xs ∨ SqT K c.H p xs) → Reps K c ds xs → inL a ds = some t → ∃ p xs, y = .ref p ∧ (SqL K c.H p xs ∨ SqT K c.H p xs) ∧ flatV x = true ∧ xs.all flatV = true ∧ t = inV x xs := fun {ds p xs} ey hs rr e => by
    unfold inL at e
    split at e
    · rename_i h
      simp only [Bool.and_eq_true] at h
      cases e
      obtain ⟨h1, h2⟩ := flats_rep ra h.1 rr h.2
      exact ⟨p, xs, ey, hs, flat_rep ra h.1, h1, h2.symm⟩
    · cases e
  unfold inD at e
  split at e
  · split at e
    · rename_i z _ k
      cases e
      obtain ⟨_, _, rfl⟩ := str_of ra
      obtain ⟨_, _, rfl⟩ := str_of rb
      exact .inl ⟨k, mkS z, rfl, rfl, decide_eq_decide.mpr (by simp [mkS])⟩
    · cases e
  · rename_i ds
    simp only [Rep] at rb
    obtain ⟨p, xs, rfl, t', rr⟩ := rb
    obtain ⟨p, xs, e1, e2, e3⟩ := go rfl (.inr t'.sq) rr e
    exact .inr ⟨p, xs, e1, e2, .inl e3⟩
  · obtain ⟨ds, e1, e2⟩ := Option.bind_eq_some_iff.mp e
    obtain ⟨p, xs, rfl, h, rr⟩ := asL_rep sr rb e1
    rcases inA_out sr ra h rr e2 with e3 | e3
    · obtain ⟨p, xs, e1, e2, e3⟩ := go rfl (.inl (.of h)) rr e3
      exact .inr ⟨p, xs, e1, e2, .inl e3⟩
    · exact .inr ⟨p, xs, rfl, .inl (.of h), .inr e3⟩
theorem opIn (hu : X.A.units + 200 < cLine) : OpR X (compareOp .In) (r2 X.K ca fun h a b => R.opt (cmpop .In h a b) h) := by
  intro pins s σ H x y v u Q I rx ry h
  obtain ⟨W, σ', M, r, hp, a, b, sr, ra, rb, q⟩ := h
  obtain ⟨d, e, q⟩ := q.opt
  obtain ⟨t, e', rfl⟩ := Option.map_eq_some_iff.mp e
  rcases inD_out sr ra rb e' with ⟨k, z, rfl, rfl, rfl⟩ | ⟨p, xs, rfl, hs, ⟨h1, h2, rfl⟩ | ⟨d, es, g1, g2, g3, g4, rfl⟩⟩
  · exact op_in_sign pins s σ H _ _ v u Q I rx ry ⟨k, z, rfl, rfl, Post.now sr q rep_bl⟩
  rotate_left
  · exact op_inD (by omega) pins s σ H _ _ v u Q I rx ry ⟨d, es, g1, g2, g3, g4, Post.now sr q rep_bl⟩
  · exact op_in_seq pins s σ H _ _ v u Q I rx ry ⟨p, xs, rfl, hs, h1, h2, Post.now sr q rep_bl⟩
theorem opNotIn (hu : X.A.units + 200 < cLine) : OpR X (compareOp .NotIn) (r2 X.K ca fun h a b => R.opt (cmpop .NotIn h a b) h) := by
  intro pins s σ H x y v u Q I rx ry h
  obtain ⟨W, σ', M, r, hp, a, b, sr, ra, rb, q⟩ := h
  obtain ⟨d, e, q⟩ := q.opt
  obtain ⟨t, e', rfl⟩ := Option.map_eq_some_iff.mp e
  rcases inD_out sr ra rb e' with ⟨k, z, rfl, rfl, rfl⟩ | ⟨p, xs, rfl, hs, ⟨h1, h2, rfl⟩ | ⟨d, es, g1, g2, g3, g4, rfl⟩⟩
  · exact op_notIn_sign pins s σ H _ _ v u Q I rx ry ⟨k, z, rfl, rfl, Post.now sr q rep_bl⟩
  rotate_left
  · exact op_notInD (by omega) pins s σ H _ _ v u Q I rx ry ⟨d, es, g1, g2, g3, g4, Post.now sr q rep_bl⟩
  · exact op_notIn_seq pins s σ H _ _ v u Q I rx ry ⟨p, xs, rfl, hs, h1, h2, Post.now sr q rep_bl⟩
theorem opCmp (hu : X.A.units + 200 < cLine) {op : CmpOp} : OpR X (compareOp op) (r2 X.K ca fun h a b => R.opt (cmpop op h a b) h) := by
  cases op
  case Lt => exact opOrd op_lt
  case LtE => exact opOrd op_le
  case Gt => exact opOrd op_gt
  case GtE => exact opOrd op_ge
  case Eq =>
    intro pins s σ H x y v u Q I rx ry h
    obtain ⟨W, σ', M, r, hp, a, b, sr, ra, rb, q⟩ := h
    obtain ⟨d, e, q⟩ := q.opt
    obtain ⟨t, e', rfl⟩ := Option.map_eq_some_iff.mp e
    obtain ⟨p1, p2, h1, h2, h3, h4, h5, rfl⟩ := eqD_out sr ra rb e'
    exact op_eqP hu pins s σ H _ _ v u Q I rx ry ⟨p1, p2, h1, h2, h3, h4, h5, Post.now sr q rep_bl⟩
  case NotEq =>
    intro pins s σ H x y v u Q I rx ry h
    obtain ⟨W, σ', M, r, hp, a, b, sr, ra, rb, q⟩ := h
    obtain ⟨d, e, q⟩ := q.opt
    obtain ⟨t, e', rfl⟩ := Option.map_eq_some_iff.mp e
    obtain ⟨p1, p2, h1, h2, h3, h4, h5, rfl⟩ := eqD_out sr ra rb e'
    exact op_neP hu pins s σ H _ _ v u Q I rx ry ⟨p1, p2, h1, h2, h3, h4, h5, Post.now sr q rep_bl⟩
  case In => exact opIn hu
  case NotIn => exact opNotIn hu
  all_goals
    intro pins s σ H x y v u Q I rx ry h
    obtain ⟨W, σ', M, r, hp, a, b, sr, ra, rb, q⟩ := h
    exact q.elim
end
end
end DI
set_option Elab.async false
set_option linter.all false
set_option maxRecDepth 100000
namespace DI
open PySem PySem.Spec PyProof.Rows L2
noncomputable section
section
variable {X : Cx} {ca : CA}
/-! truth -/
theorem TupAt.nonempty {K : PySem.W.Frag} {c : Cf} {ds : List D} {xs : List V} (r : Reps K c ds xs) : (!ds.isEmpty) = !xs.isEmpty := by
  have := r.length
  cases ds <;> cases xs <;> simp_all
theorem truth_out {K : PySem.W.Frag} {c : Cf} {hp : AH} {d : D} {v : V} {k : Bool} (sr : SR K ca c hp) (r : Rep K c d v) (e : truth hp d = some k) : TruV K v c.H k := by
  have lst : ∀ d, Rep K c d v → (asL hp d).map (fun ds => !ds.isEmpty) = some k → TruV K v c.H k := fun d r e => by
    obtain ⟨ds, e1, rfl⟩ := Option.map_eq_some_iff.mp e
    obtain ⟨a, xs, rfl, h, rr⟩ := asL_rep sr r e1
    exact .inl ⟨xs, .of h, TupAt.nonempty rr⟩
  cases d with
  | non => simp only [Rep] at r; subst r; cases e; rfl
  | bl b => simp only [Rep] at r; subst r; cases e; rfl
  | int i => simp only [Rep] at r; subst r; cases e; rfl
  | str x =>
    obtain ⟨h1, h2, rfl⟩ := str_of r
    cases e
    refine ⟨by rw [mkS_length]; exact h2, ?_⟩
    rw [mkS_length]
    cases x <;> simp
    omega
  | tup ds =>
    simp only [Rep] at r
    obtain ⟨a, xs, rfl, t, rr⟩ := r
    cases e
    exact .inr (.inl ⟨xs, t.sq, TupAt.nonempty rr⟩)
  | lst ds => exact lst _ r e
  | scr ns => exact lst _ r e
  | ref n => exact lst _ r e
/-- what a test's own reading wants -/
theorem tru_te {K : PySem.W.Frag} {W : WX} {σ : L2.St} {M : Addr → Prop} {r : List Addr} {H : Hp} {hp : AH} {d : D} {v : V} {Q : Bool → Hp → Prop}
    (sr : SR K ca ⟨M, r, H⟩ hp) (rv : Rep K ⟨M, r, H⟩ d v) (q : Post K ca W beq' σ ⟨M, r, H⟩ (R.opt (truth hp d) hp) Q) : ∃ k, TruV K v H k ∧ Q k H := by
  obtain ⟨k, e, q⟩ := q.opt
  exact ⟨k, truth_out sr rv e, q ⟨M, r, H⟩ k (Step.refl _) sr rfl⟩

/-! isinstance -/
def clT : Cl → Value
  | .int => .type "int" | .bool => .type "bool" | .str => .type "str" | .tuple => .type "tuple" | .list => .type "list" | .dict => .type "dict"
  | .own _ => .none
def clV : Cl → V
  | .int => .ty "int" | .bool => .ty "bool" | .str => .ty "str" | .tuple => .ty "tuple" | .list => .ty "list" | .dict => .ty "dict"
  | .own _ => .non
def isOwn : Cl → Bool
  | .own _ => true
  | _ => false
theorem isi_one {K : PySem.W.Frag} {c : Cf} {d : D} {v : V} (r : Rep K c d v) (nr : ∀ n, d ≠ .ref n) (k : Cl) (hk : isOwn k = false) : ∃ t, TyX K c.H v t ∧ PySem.W.kitOne K t (clT k) = some (isCl k d) := by
  cases d with
  | non =>
    simp only [Rep] at r; subst r
    refine ⟨_, .base .non, ?_⟩
    cases k <;> first | (simp [isOwn] at hk; done) | exact kit_ty (by decide +kernel)
  | bl b =>
    simp only [Rep] at r; subst r
    refine ⟨_, .base (.bl _), ?_⟩
    cases k <;> first | (simp [isOwn] at hk; done) | exact kit_ty (by simp only [isCl]; decide +kernel)
  | int i =>
    simp only [Rep] at r; subst r
    refine ⟨_, .base (.int _), ?_⟩
    cases k <;> first | (simp [isOwn] at hk; done) | exact kit_ty (by simp only [isCl]; decide +kernel)
  | str x =>
    obtain ⟨_, _, rfl⟩ := str_of r
    refine ⟨_, .base (.str _), ?_⟩
    cases k <;> first | (simp [isOwn] at hk; done) | exact kit_ty (by simp only [isCl]; decide +kernel)
  | tup ds =>
    simp only [Rep] at r
    obtain ⟨a, xs, rfl, t, rr⟩ := r
    refine ⟨.type "tuple", ?_, ?_⟩
    · exact .base (.tup t.2)
    · cases k <;> first | (simp [isOwn] at hk; done) | exact kit_ty (by simp only [isCl]; decide +kernel)
  | lst ds =>
    simp only [Rep] at r
    obtain ⟨a, xs, rfl, _, h, rr⟩ := r
    refine ⟨.type "list", .base (.lst h), ?_⟩
    cases k <;> first | (simp [isOwn] at hk; done) | exact kit_ty (by simp only [isCl]; decide +kernel)
  | scr ns =>
    simp only [Rep] at r
    obtain ⟨a, rfl, t⟩ := r
    refine ⟨.type "list", ?_, ?_⟩
    · rcases t with ⟨_, o, h⟩ | ⟨o, its, n, h, hc, _⟩
      · exact .base (.frz h)
      · exact .kList h hc
    · cases k <;> first | (simp [isOwn] at hk; done) | exact kit_ty (by simp only [isCl]; decide +kernel)
  | ref n => exact absurd rfl (nr n)
/-- the list that stands there, as if frozen -/
theorem now_rep {K : PySem.W.Frag} {c : Cf} {hp : AH} {d : D} {v : V} (sr : SR K ca c hp) (r : Rep K c d v) (nr : ∀ n, now hp d ≠ .ref n) :
    Rep K c (now hp d) v ∨ ∃ ds a xs, now hp d = .lst ds ∧ v = .ref a ∧ c.H a = some (.lst xs) ∧ Reps K c ds xs := by
  cases d with
  | ref n =>
    simp only [now] at nr ⊢
    cases q : hp[n]? with
    | none => rw [q] at nr; exact absurd rfl (nr n)
    | some o =>
      rw [q] at nr
      cases o with
      | lst es =>
        obtain ⟨a, xs, e, h, rr⟩ := asL_rep (d := .ref n) (ds := es) sr r (by simp only [asL, q])
        exact .inr ⟨es, a, xs, rfl, e, h, rr⟩
      | _ => exact absurd rfl (nr n)
  | _ => exact .inl r
theorem isi_now {K : PySem.W.Frag} {c : Cf} {hp : AH} {d : D} {v : V} (sr : SR K ca c hp) (r : Rep K c d v) (nr : ∀ n, now hp d ≠ .ref n) (k : Cl) (hk : isOwn k = false) : ∃ t, TyX K c.H v t ∧ PySem.W.kitOne K t (clT k) = some (isCl k (now hp d)) := by
  rcases now_rep sr r nr with r | ⟨ds, a, xs, e, rfl, h, rr⟩
  · exact isi_one r nr k hk
  · refine ⟨.type "list", .base (.lst h), ?_⟩
    rw [e]
    cases k <;> first | (simp [isOwn] at hk; done) | exact kit_ty (by simp only [isCl]; decide +kernel)

/-! subscripts -/
theorem atL_atI {α : Type} {xs : List α} {i : Int} {x : α} (h : atL xs i = some x) : atI xs i = some x := by
  unfold atL at h
  unfold atI ixN
  split at h
  · rename_i h0
    rw [if_pos h0]
    have := (List.getElem?_eq_some_iff.mp h).1
    rw [if_pos (by omega)]
    exact h
  · rename_i h0
    rw [if_neg h0]
    split at h
    · rename_i h1
      rw [if_pos h1]
      exact h
    · cases h
theorem atL_rep {K : PySem.W.Frag} {c : Cf} {ds : List D} {xs : List V} {i : Int} {d : D} (r : Reps K c ds xs) (h : atL ds i = some d) : ∃ x, atI xs i = some x ∧ Rep K c d x := by
  have hl := r.length
  unfold atL at h
  split at h
  · rename_i h0
    obtain ⟨x, e, rr⟩ := r.get h
    exact ⟨x, atL_atI (by unfold atL; rw [if_pos h0]; exact e), rr⟩
  · rename_i h0
    split at h
    · rename_i h1
      obtain ⟨x, e, rr⟩ := r.get h
      exact ⟨x, atL_atI (by unfold atL; rw [if_neg h0, if_pos (by rw [hl]; exact h1), hl]; exact e), rr⟩
    · cases h
theorem opIdx : IxR X (r2 X.K ca fun h a b => R.opt (idxD h a b) h) := by
  intro value slice pins s σ H x y v u Q I rx ry h hs
  obtain ⟨W, σ', M, r, hp, a, b, sr, ra, rb, q⟩ := h
  obtain ⟨d, e, qd⟩ := Post.opt q
  have lst : ∀ (ds : List D) (i : Int), asL hp a = some ds → b = .int i → atL ds i = some d → wpAny (model X.prog X.w) X.A (subscriptTail value slice v u) (EP X pins σ Q) X.xe s := fun ds i e1 e2 e3 => by
    subst e2
    rw [int_of rb] at ry
    obtain ⟨p, xs, rfl, h, rr⟩ := asL_rep sr ra e1
    obtain ⟨z, ez, rz⟩ := atL_rep rr e3
    exact ix_list value slice pins s σ H _ _ v u Q I rx ry ⟨p, xs, i, z, rfl, rfl, .of h, ez, Post.now sr qd rz⟩ hs
  unfold idxD at e
  split at e
  · rename_i ds i
    rw [int_of rb] at ry
    simp only [Rep] at ra
    obtain ⟨p, xs, rfl, t, rr⟩ := ra
    obtain ⟨z, ez, rz⟩ := atL_rep rr e
    exact ix_tup value slice pins s σ H _ _ v u Q I rx ry ⟨p, xs, i, z, rfl, rfl, t.sq, ez, Post.now sr qd rz⟩ hs
  · rename_i x i
    rw [int_of rb] at ry
    obtain ⟨h1, h2, rfl⟩ := str_of ra
    obtain ⟨k, ek, rfl⟩ := Option.map_eq_some_iff.mp e
    refine ix_str value slice pins s σ H _ _ v u Q I rx ry ⟨mkS x, i, k, rfl, rfl, by rw [mkS_length]; exact h2, atL_atI (by simpa [mkS] using ek), ?_⟩ hs
    refine Post.now sr qd ?_
    simp only [Rep]
    refine ⟨?_, by rw [sz_eq]; simp, rfl⟩
    have hm : k ∈ x := by
      unfold atL at ek
      split at ek
      · exact List.mem_of_getElem? ek
      · split at ek
        · exact List.mem_of_getElem? ek
        · cases ek
    simp only [PyData.strOk, mkS] at h1 ⊢
    simp at h1 ⊢
    exact h1 k hm
  · rename_i ns i
    rw [int_of rb] at ry
    simp only [Rep] at ra
    obtain ⟨p, rfl, t⟩ := ra
    obtain ⟨k, ek, rfl⟩ := Option.map_eq_some_iff.mp e
    have : atL (ns.map V.int) i = some (V.int k) := by
      unfold atL at ek ⊢
      split at ek
      · rename_i h0
        rw [if_pos h0, List.getElem?_map, ek]; rfl
      · rename_i h0
        rw [if_neg h0]
        split at ek
        · rename_i h1
          rw [if_pos (by rw [List.length_map]; exact h1), List.length_map, List.getElem?_map, ek]; rfl
        · cases ek
    exact ix_list value slice pins s σ H _ _ v u Q I rx ry ⟨p, _, i, .int k, rfl, rfl, t.sq, atL_atI this, Post.now sr qd rep_int⟩ hs
  · rename_i i _ _ _ _ _
    obtain ⟨ds, e1, e2⟩ := Option.bind_eq_some_iff.mp e
    exact lst ds _ e1 rfl e2
  · cases e

/-! built-in functions -/
theorem lenD_out {K : PySem.W.Frag} {c : Cf} {hp : AH} {a d : D} {v : V} (sr : SR K ca c hp) (r : Rep K c a v) (e : lenD hp a = some d) : ∃ n : Nat, d = .int n ∧ LenV K v c.H n := by
  have lst : ∀ a, Rep K c a v → (asL hp a).map (fun ds => D.int ds.length) = some d → ∃ n : Nat, d = .int n ∧ LenV K v c.H n := fun a r e => by
    obtain ⟨ds, e1, rfl⟩ := Option.map_eq_some_iff.mp e
    obtain ⟨p, xs, rfl, h, rr⟩ := asL_rep sr r e1
    exact ⟨_, rfl, .inl ⟨xs, .of h, rr.length.symm⟩⟩
  cases a with
  | str x =>
    obtain ⟨h1, h2, rfl⟩ := str_of r
    cases e
    exact ⟨_, rfl, by rw [mkS_length]; exact h2, mkS_length.symm⟩
  | tup ds =>
    simp only [Rep] at r
    obtain ⟨p, xs, rfl, t, rr⟩ := r
    cases e
    exact ⟨_, rfl, .inr ⟨xs, t.sq, rr.length.symm⟩⟩
  | scr ns =>
    simp only [Rep] at r
    obtain ⟨p, rfl, t⟩ := r
    cases e
    exact ⟨_, rfl, .inl ⟨_, t.sq, by rw [List.length_map]⟩⟩
  | lst ds => exact lst _ r e
  | ref n => exact lst _ r e
  | non => simp [lenD, asL] at e
  | bl _ => simp [lenD, asL] at e
  | int _ => simp [lenD, asL] at e
def biFn : Bi → Value
  | .len => .builtin "len"
  | .int => .type "int"
  | .str => .type "str"
  | .list => .type "list"
  | .tuple => .type "tuple"
  | .abs => .builtin "abs"
  | .min2 => .builtin "min"
  | .max2 => .builtin "max"
  | .min => .builtin "min"
  | .max => .builtin "max"
  | .sum => .builtin "sum"
theorem mkL_np {K : PySem.W.Frag} {W : WX} {σ : L2.St} {c : Cf} {hp : AH} {mu : Bool} {d : D} {Q : VK} (q : Post K ca W (Rep K) σ c (mkL mu d hp) Q) (nl : ∀ ds, d ≠ .lst ds) : Post K ca W (Rep K) σ c (.ok d hp) Q := by
  cases mu with
  | false => exact q
  | true =>
    cases d with
    | lst ds => exact absurd rfl (nl ds)
    | _ => exact q.elim
theorem getInts_rep {K : PySem.W.Frag} {c : Cf} : ∀ {ds : List D} {ns : List Int} {xs : List V}, getInts ds = some ns → Reps K c ds xs → xs = ns.map V.int
  | [], ns, xs, e, r => by
    simp only [getInts, Option.some.injEq] at e
    subst e
    simp only [Reps] at r
    subst r
    rfl
  | .int i :: ds, ns, xs, e, r => by
    simp only [getInts] at e
    obtain ⟨ms, e1, rfl⟩ := Option.map_eq_some_iff.mp e
    simp only [Reps] at r
    obtain ⟨x, q, rfl, h1, h2⟩ := r
    rw [int_of h1, getInts_rep e1 h2]
    rfl
  | .non :: _, _, _, e, _ => by simp [getInts] at e
  | .bl _ :: _, _, _, e, _ => by simp [getInts] at e
  | .str _ :: _, _, _, e, _ => by simp [getInts] at e
  | .tup _ :: _, _, _, e, _ => by simp [getInts] at e
  | .lst _ :: _, _, _, e, _ => by simp [getInts] at e
  | .scr _ :: _, _, _, e, _ => by simp [getInts] at e
  | .ref _ :: _, _, _, e, _ => by simp [getInts] at e
theorem maxI_out : ∀ {ns : List Int} {m : Int}, m ∈ ns → (∀ y ∈ ns, y ≤ m) → m = maxI ns := by
  have key : ∀ ns : List Int, ns ≠ [] → maxI ns ∈ ns ∧ ∀ y ∈ ns, y ≤ maxI ns := by
    intro ns
    induction ns with
    | nil => intro h; exact absurd rfl h
    | cons i is ih =>
      intro _
      cases is with
      | nil => simp [maxI]
      | cons j js =>
        obtain ⟨h1, h2⟩ := ih (by simp)
        simp only [maxI] at h1 h2 ⊢
        refine ⟨?_, fun y hy => ?_⟩
        · rcases Int.le_total i (maxI (j :: js)) with z | z
          · rw [Int.max_eq_right z]; exact List.mem_cons_of_mem _ h1
          · rw [Int.max_eq_left z]; exact List.mem_cons_self
        · rcases List.mem_cons.mp hy with rfl | hy
          · exact Int.le_max_left ..
          · exact Int.le_trans (h2 y hy) (Int.le_max_right ..)
  intro ns m h1 h2
  have := key ns (List.ne_nil_of_mem h1)
  exact Int.le_antisymm (this.2 m h1) (h2 _ this.1)
theorem minI_out : ∀ {ns : List Int} {m : Int}, m ∈ ns → (∀ y ∈ ns, m ≤ y) → m = minI ns := by
  have key : ∀ ns : List Int, ns ≠ [] → minI ns ∈ ns ∧ ∀ y ∈ ns, minI ns ≤ y := by
    intro ns
    induction ns with
    | nil => intro h; exact absurd rfl h
    | cons i is ih =>
      intro _
      cases is with
      | nil => simp [minI]
      | cons j js =>
        obtain ⟨h1, h2⟩ := ih (by simp)
        simp only [minI] at h1 h2 ⊢
        refine ⟨?_, fun y hy => ?_⟩
        · rcases Int.le_total i (minI (j :: js)) with z | z
          · rw [Int.min_eq_left z]; exact List.mem_cons_self
          · rw [Int.min_eq_right z]; exact List.mem_cons_of_mem _ h1
        · rcases List.mem_cons.mp hy with rfl | hy
          · exact Int.min_le_left ..
          · exact Int.le_trans (Int.min_le_right ..) (h2 y hy)
  intro ns m h1 h2
  have := key ns (List.ne_nil_of_mem h1)
  exact Int.le_antisymm (h2 _ this.1) (this.2 m h1)
theorem scr_reps {K : PySem.W.Frag} {c : Cf} (ns : List Int) : Reps K c (ns.map D.int) (ns.map V.int) := by
  induction ns with
  | nil => simp only [List.map_nil, Reps]
  | cons n ns ih => simp only [List.map_cons, Reps]; exact ⟨_, _, rfl, rep_int, ih⟩
theorem digs_str (i : Int) : Str.ofString (toString i) = mkS (digs i) := by
  have h := signs_ofString (toString i)
  unfold digs mkS
  rw [← h]
theorem chr_lt (c : Char) : c.toNat < 0x110000 := by
  have := c.valid
  simp only [UInt32.isValidChar, Nat.isValidChar] at this
  show c.val.toNat < _
  omega
theorem digs_ok {i : Int} (h : i.natAbs < 1000000000000000000000000000000) : PyData.strOk (mkS (digs i)) = true ∧ (digs i).length ≤ sizeLine := by
  have dg : ∀ n : Nat, n < 10000000000000000000000000000000 → (toString n).toList.length ≤ 31 := fun n h => by
    have e : (toString n).toList = Nat.toDigits 10 n := by simp
    rw [e]
    exact (Nat.length_toDigits_le_iff (b := 10) (n := n) (k := 31) (by decide) (by decide)).mpr (by omega)
  refine ⟨?_, ?_⟩
  · simp only [PyData.strOk, mkS, digs, List.all_toArray, List.all_map, List.all_eq_true]
    intro c _
    exact decide_eq_true (chr_lt c)
  · rw [sz_eq]
    simp only [digs, List.length_map]
    cases i with
    | ofNat n => exact Nat.le_trans (dg n (by simp at h; omega)) (by decide)
    | negSucc n =>
      have e : toString (Int.negSucc n) = "-" ++ toString (n+1) := rfl
      rw [e, String.toList_append, List.length_append]
      have := dg (n + 1) (by simp at h; omega)
      have e2 : ("-" : String).toList.length = 1 := by decide
      omega
theorem opBi {b : Bi} (hc : b ≠ .int → X.calm = true) {mu : Bool} : CallR X (biFn b) (rn X.K ca fun h ds => (R.opt (biD b h ds) h).bind fun d h => mkL mu d h) := by
  intro pins s σ H xs us Q I rx h
  obtain ⟨W, σ', M, r, hp, ds, sr, ra, q⟩ := h
  obtain ⟨d, e, q⟩ := q.optb
  have intsR : ∀ {x : D} {v : V} {es : List D} {ns : List Int}, Rep X.K ⟨M, r, H⟩ x v → asL hp x = some es → getInts es = some ns → ∃ a, v = .ref a ∧ SqL X.K H a (ns.map V.int) := fun {x v es ns} rv e1 e2 => by
    obtain ⟨p, ys, rfl, h, rr⟩ := asL_rep sr rv e1
    rw [getInts_rep e2 rr] at h
    exact ⟨p, rfl, .of h⟩
  cases b with
  | len =>
    simp only [biD] at e
    split at e
    · obtain ⟨x, rfl, rx'⟩ := ra.one
      obtain ⟨n, rfl, hn⟩ := lenD_out sr rx' e
      exact call_len pins s σ H _ us Q I rx ⟨x, n, rfl, hn, mkL_plain sr q (fun _ z => by cases z) rep_int⟩
    · cases e
  | int =>
    simp only [biD] at e
    split at e
    · cases e
      obtain ⟨x, rfl, rx'⟩ := ra.one
      rw [int_of rx'] at rx
      exact call_int1 pins s σ H _ us Q I rx (.inl ⟨_, rfl, mkL_plain sr q (fun _ z => by cases z) rep_int⟩)
    · cases e
      obtain ⟨x, rfl, rx'⟩ := ra.one
      rw [bl_of rx'] at rx
      exact call_int1 pins s σ H _ us Q I rx (.inr ⟨_, rfl, mkL_plain sr q (fun _ z => by cases z) rep_int⟩)
    · obtain ⟨n, e1, rfl⟩ := Option.map_eq_some_iff.mp e
      obtain ⟨x, rfl, rx'⟩ := ra.one
      obtain ⟨k1, k2, rfl⟩ := str_of rx'
      unfold intD at e1
      split at e1
      · rename_i hl
        exact call_int_str pins s σ H _ us Q I rx ⟨_, n, rfl, e1, by rw [mkS_length]; exact hl, mkL_plain sr q (fun _ z => by cases z) rep_int⟩
      · cases e1
    · cases e
  | str =>
    simp only [biD] at e
    split at e
    · rename_i i
      split at e
      · rename_i hi
        cases e
        obtain ⟨x, rfl, rx'⟩ := ra.one
        rw [int_of rx'] at rx
        obtain ⟨h1, h2⟩ := digs_ok hi
        refine call_str_int pins s σ H _ us Q I rx ⟨i, rfl, ?_, ?_⟩
        · by_cases h0 : i.natAbs = 0
          · rw [h0]; decide
          · exact (Nat.log2_lt h0).mpr (Nat.lt_of_lt_of_le hi (by decide +kernel))
        · rw [digs_str]
          exact mkL_plain sr q (fun _ z => by cases z) (by simp only [Rep]; exact ⟨h1, h2, trivial⟩)
      · cases e
    · cases e
  | list =>
    simp only [biD] at e
    split at e
    · cases e
      obtain ⟨x, rfl, rx'⟩ := ra.one
      simp only [Rep] at rx'
      obtain ⟨a, ys, rfl, t, rr⟩ := rx'
      exact call_list_of pins s σ H _ us Q I rx ⟨a, ys, rfl, .inr t.sq, fun p hn => mk_list sr rr q p hn⟩
    · cases e
      obtain ⟨x, rfl, rx'⟩ := ra.one
      simp only [Rep] at rx'
      obtain ⟨a, rfl, t⟩ := rx'
      exact call_list_of pins s σ H _ us Q I rx ⟨a, _, rfl, .inl t.sq, fun p hn => mk_list sr (scr_reps _) q p hn⟩
    · obtain ⟨es, e1, rfl⟩ := Option.map_eq_some_iff.mp e
      obtain ⟨x, rfl, rx'⟩ := ra.one
      obtain ⟨p, ys, rfl, h, rr⟩ := asL_rep sr rx' e1
      exact call_list_of pins s σ H _ us Q I rx ⟨p, ys, rfl, .inl (.of h), fun p hn => mk_list sr rr q p hn⟩
    · cases e
  | tuple =>
    simp only [biD] at e
    split at e
    · cases e
      obtain ⟨x, rfl, rx'⟩ := ra.one
      have rx2 := rx'
      simp only [Rep] at rx'
      obtain ⟨a, ys, rfl, t, rr⟩ := rx'
      exact call_tuple_of pins s σ H _ us Q I rx ⟨a, ys, rfl, .inr ⟨t.sq, Post.now sr (mkL_np q (fun _ z => by cases z)) rx2⟩⟩
    · obtain ⟨es, e1, rfl⟩ := Option.map_eq_some_iff.mp e
      obtain ⟨x, rfl, rx'⟩ := ra.one
      obtain ⟨p, ys, rfl, h, rr⟩ := asL_rep sr rx' e1
      exact call_tuple_of pins s σ H _ us Q I rx ⟨p, ys, rfl, .inl ⟨.of h, fun p hn => mk_tup sr rr (mkL_np q (fun _ z => by cases z)) p hn⟩⟩
    · cases e
  | abs => cases e
  | min2 =>
    simp only [biD] at e
    split at e
    · cases e
      obtain ⟨x, y, rfl, r1, r2⟩ := ra.two
      rw [int_of r1, int_of r2] at rx
      exact call_min2 (hc (by decide)) pins s σ H _ us Q I rx ⟨_, _, rfl, mkL_plain sr q (fun _ z => by cases z) rep_int⟩
    · cases e
  | max2 =>
    simp only [biD] at e
    split at e
    · cases e
      obtain ⟨x, y, rfl, r1, r2⟩ := ra.two
      rw [int_of r1, int_of r2] at rx
      exact call_max2 (hc (by decide)) pins s σ H _ us Q I rx ⟨_, _, rfl, mkL_plain sr q (fun _ z => by cases z) rep_int⟩
    · cases e
  | sum =>
    simp only [biD] at e
    split at e
    · cases e
      obtain ⟨x, rfl, rx'⟩ := ra.one
      simp only [Rep] at rx'
      obtain ⟨a, rfl, t⟩ := rx'
      exact cr_sum (hc (by decide)) pins s σ H _ us Q I rx ⟨a, _, rfl, t.sq, mkL_plain sr q (fun _ z => by cases z) rep_int⟩
    · obtain ⟨es, e1, e2⟩ := Option.bind_eq_some_iff.mp e
      obtain ⟨ns, e3, rfl⟩ := Option.map_eq_some_iff.mp e2
      obtain ⟨x, rfl, rx'⟩ := ra.one
      obtain ⟨a, rfl, h⟩ := intsR rx' e1 e3
      exact cr_sum (hc (by decide)) pins s σ H _ us Q I rx ⟨a, _, rfl, h, mkL_plain sr q (fun _ z => by cases z) rep_int⟩
    · cases e
  | max =>
    simp only [biD] at e
    split at e
    · obtain ⟨es, e1, e2⟩ := Option.bind_eq_some_iff.mp e
      obtain ⟨ns, e3, e4⟩ := Option.bind_eq_some_iff.mp e2
      obtain ⟨x, rfl, rx'⟩ := ra.one
      obtain ⟨a, rfl, h⟩ := intsR rx' e1 e3
      split at e4
      · cases e4
      · rename_i hne
        cases e4
        refine cr_max (hc (by decide)) pins s σ H _ us Q I rx ⟨a, _, rfl, h, ?_, fun m h1 h2 => ?_⟩
        · cases ns
          · simp at hne
          · simp
        · rw [maxI_out h1 h2]
          exact mkL_plain sr q (fun _ z => by cases z) rep_int
    · cases e
  | min =>
    simp only [biD] at e
    split at e
    · obtain ⟨es, e1, e2⟩ := Option.bind_eq_some_iff.mp e
      obtain ⟨ns, e3, e4⟩ := Option.bind_eq_some_iff.mp e2
      obtain ⟨x, rfl, rx'⟩ := ra.one
      obtain ⟨a, rfl, h⟩ := intsR rx' e1 e3
      split at e4
      · cases e4
      · rename_i hne
        cases e4
        refine cr_min (hc (by decide)) pins s σ H _ us Q I rx ⟨a, _, rfl, h, ?_, fun m h1 h2 => ?_⟩
        · cases ns
          · simp at hne
          · simp
        · rw [minI_out h1 h2]
          exact mkL_plain sr q (fun _ z => by cases z) rep_int
    · cases e
end
end
end DI
set_option Elab.async false
set_option linter.all false
set_option maxRecDepth 100000
namespace DI
open PySem PySem.Spec PyProof.Rows L2
noncomputable section
section
variable {K : PySem.W.Frag} {ca : CA} {M : Addr → Prop} {r : List Addr} {H : Hp} {hp : AH}
/-- a list of the heap is changed -/
theorem step_upd {a : Addr} {o : HO} (ha : a ∈ r) : Step ⟨M, r, H⟩ ⟨M, r, upd H a o⟩ where
  pre := fun _ _ h => h
  mono := fun _ h => h
  fresh := fun _ h => .inl h
  newr := fun n b h l => by
    have z : n < r.length := (List.getElem?_eq_some_iff.mp h).1
    exact absurd z (Nat.not_lt.mpr l)
  keep := fun b u h hn => by
    show upd H a o b = some u
    rw [upd_ne fun z => hn (by subst z; exact ha)]; exact h
  dom := fun b h => by
    show upd H a o b ≠ none
    unfold upd
    split
    · simp
    · exact h
theorem sr_updO {n : Nat} {a : Addr} {ob : Ob} {ho : HO} (h : SR K ca ⟨M, r, H⟩ hp) (ra : r[n]? = some a) (hx : RepO K ca.cls ⟨M, r, upd H a ho⟩ ob a) (hnt : nt ho := by intro _ h; cases h) : SR K ca ⟨M, r, upd H a ho⟩ (hp.set n ob) := by
  have ha : a ∈ r := List.mem_of_getElem? ra
  have st := step_upd (M := M) (H := H) (o := ho) ha
  refine ⟨by rw [List.length_set]; exact h.len, h.nd, h.inM, fun b m => (by
    by_cases z : b = a
    · subst z
      exact ⟨_, upd_same, hnt⟩
    · obtain ⟨o, e, n⟩ := h.ally b m
      exact ⟨o, (upd_ne z).trans e, n⟩), fun i b o e1 e2 => ?_⟩
  have e1' : r[i]? = some b := e1
  by_cases hi : n = i
  · subst hi
    rw [ra] at e1'
    cases e1'
    rw [List.getElem?_set] at e2
    simp only [if_true] at e2
    split at e2
    · cases e2
      exact hx
    · cases e2
  · rw [List.getElem?_set_ne hi] at e2
    have q := h.objs i b o e1 e2
    have hb : b ≠ a := fun z => by
      subst z
      have l1 := (List.getElem?_eq_some_iff.mp ra)
      have l2 := (List.getElem?_eq_some_iff.mp e1')
      obtain ⟨p1, q1⟩ := l1
      obtain ⟨p2, q2⟩ := l2
      exact hi ((List.getElem_inj h.nd).mp (q1.trans q2.symm))
    have hk : upd H a ho b = H b := upd_ne hb
    exact q.mono hk fun d v z => z.step h.inM st
theorem sr_upd {n : Nat} {a : Addr} {ds' : List D} {xs' : List V} (h : SR K ca ⟨M, r, H⟩ hp) (ra : r[n]? = some a) (hx : Reps K ⟨M, r, H⟩ ds' xs') : SR K ca ⟨M, r, upd H a (.lst xs')⟩ (hp.set n (.lst ds')) :=
  sr_updO h ra ⟨xs', upd_same, hx.step h.inM (step_upd (List.mem_of_getElem? ra))⟩
/-- the list of the heap at n -/
theorem ref_lst {n : Nat} {v : V} {ds : List D} (h : SR K ca ⟨M, r, H⟩ hp) (rv : Rep K ⟨M, r, H⟩ (.ref n) v) (e : hp[n]? = some (.lst ds)) : ∃ a xs, v = .ref a ∧ r[n]? = some a ∧ H a = some (.lst xs) ∧ Reps K ⟨M, r, H⟩ ds xs := by
  simp only [Rep] at rv
  obtain ⟨a, rfl, ra⟩ := rv
  obtain ⟨xs, e1, e2⟩ := h.objs n a _ ra e
  exact ⟨a, xs, rfl, ra, e1, e2⟩
theorem Reps.set : ∀ {ds : List D} {xs : List V} {i : Nat} {d : D} {x : V} {c : Cf}, Reps K c ds xs → Rep K c d x → Reps K c (ds.set i d) (xs.set i x)
  | [], _, _, _, _, _, h, _ => by simp only [Reps] at h; subst h; simp [Reps]
  | d :: ds, xs, 0, _, _, _, h, g => by
    simp only [Reps] at h
    obtain ⟨x, r, rfl, h1, h2⟩ := h
    simp only [List.set_cons_zero, Reps]
    exact ⟨_, r, rfl, g, h2⟩
  | d :: ds, xs, i + 1, _, _, _, h, g => by
    simp only [Reps] at h
    obtain ⟨x, r, rfl, h1, h2⟩ := h
    simp only [List.set_cons_succ, Reps]
    exact ⟨_, _, rfl, h1, Reps.set h2 g⟩
end
section
variable {X : Cx} {ca : CA}
/-! slices -/
def rsl (K : PySem.W.Frag) (ca : CA) (f : AH → D → Option Int → Option Int → R D) : V → Option Int → Option Int → Hp → VK → Prop := fun x lo hi H Q =>
  ∃ W σ M r hp d, SR K ca ⟨M, r, H⟩ hp ∧ Rep K ⟨M, r, H⟩ d x ∧ Post K ca W (Rep K) σ ⟨M, r, H⟩ (f hp d lo hi) Q
theorem cut_rep {K : PySem.W.Frag} {c : Cf} {ds : List D} {xs : List V} {lo hi : Option Int} (h : Reps K c ds xs) : Reps K c (cutL ds lo hi) (cutV xs lo hi) := by
  unfold cutL cutV
  rw [h.length]
  exact (h.drop _).take _
theorem cut_str {x : List Nat} {lo hi : Option Int} : cutS (mkS x) lo hi = mkS (cutL x lo hi) := by
  unfold cutS cutL mkS
  simp [Str.length]
theorem strOk_sub {x y : List Nat} (h : ∀ n ∈ y, n ∈ x) (h1 : PyData.strOk (mkS x) = true) : PyData.strOk (mkS y) = true := by
  simp only [PyData.strOk, mkS, List.all_toArray, List.all_eq_true] at h1 ⊢
  exact fun n hn => h1 n (h n hn)
theorem opSli {mu : Bool} : SlR X (rsl X.K ca fun h d l u => (R.opt (sliD h d l u) h).bind fun d h => mkL mu d h) := by
  intro pins s σ H x v vl vu lo hi sl Q I rx hs pl pu h
  obtain ⟨W, σ', M, r, hp, a, sr, ra, q⟩ := h
  obtain ⟨d, e, q⟩ := q.optb
  have lst : ∀ es, asL hp a = some es → d = .lst (cutL es lo hi) → ∃ T id, typeLookup (.type T) "__getitem__" = pure (some (.builtin id)) ∧ s.TypeIs v T ∧ wpAny (model X.prog X.w) X.A (getItem v (.ref sl)) (EP X pins σ Q) X.xe s := fun es e1 e2 => by
    subst e2
    obtain ⟨p, xs, rfl, h, rr⟩ := asL_rep sr ra e1
    exact sl_list pins s σ H _ v vl vu lo hi sl Q I rx hs pl pu ⟨p, xs, rfl, .of h, fun p hn => mk_list sr (cut_rep rr) q p hn⟩
  unfold sliD at e
  split at e
  · rename_i x
    cases e
    obtain ⟨h1, h2, rfl⟩ := str_of ra
    refine sl_str pins s σ H _ v vl vu lo hi sl Q I rx hs pl pu ⟨_, rfl, by rw [mkS_length]; exact h2, ?_⟩
    rw [cut_str]
    refine mkL_plain sr q (fun _ z => by cases z) ?_
    simp only [Rep]
    refine ⟨strOk_sub (fun n hn => ?_) h1, ?_, trivial⟩
    · exact List.mem_of_mem_drop (List.mem_of_mem_take hn)
    · refine Nat.le_trans ?_ h2
      simp only [cutL, List.length_take, List.length_drop]
      omega
  · rename_i ds
    cases e
    have ra' := ra
    simp only [Rep] at ra
    obtain ⟨p, xs, rfl, t, rr⟩ := ra
    have q' := mkL_np q (fun _ z => by cases z)
    refine sl_tupA pins s σ H _ v vl vu lo hi sl Q I rx hs pl pu ⟨p, xs, rfl, t.sq, fun hw => ?_, fun hw p hn => mk_tup sr (cut_rep rr) q' p hn⟩
    refine Post.now sr q' ?_
    have e : cutL ds lo hi = ds := by
      unfold cutL
      rw [← rr.length, hw.1, hw.2, rr.length]
      simp
    rw [e]
    exact ra'
  · rename_i ns
    cases e
    simp only [Rep] at ra
    obtain ⟨p, rfl, t⟩ := ra
    exact sl_list pins s σ H _ v vl vu lo hi sl Q I rx hs pl pu ⟨p, _, rfl, t.sq, fun p hn => mk_list sr (cut_rep (scr_reps ns)) q p hn⟩
  · obtain ⟨es, e1, e2⟩ := Option.map_eq_some_iff.mp e
    exact lst es e1 e2.symm
/-! methods -/
def rme (K : PySem.W.Frag) (ca : CA) (f : AH → D → List D → R D) : V → List V → Hp → VK → Prop := fun x xs H Q =>
  ∃ W σ M r hp d ds, SR K ca ⟨M, r, H⟩ hp ∧ Rep K ⟨M, r, H⟩ d x ∧ Reps K ⟨M, r, H⟩ ds xs ∧ Post K ca W (Rep K) σ ⟨M, r, H⟩ (f hp d ds) Q
def thenMe (m : Me) (mu : Bool) : AH → D → List D → R D := fun h x xs => match meD m h x xs with
  | some (d, h) => mkL (mu && m.fresh) d h
  | none => .bad
theorem getStrs_rep {K : PySem.W.Frag} {c : Cf} : ∀ {ds : List D} {ns : List (List Nat)} {xs : List V}, getStrs ds = some ns → Reps K c ds xs → xs = (ns.map mkS).map V.str ∧ ∀ n ∈ ns, PyData.strOk (mkS n) = true
  | [], ns, xs, e, r => by
    simp only [getStrs, Option.some.injEq] at e
    subst e
    simp only [Reps] at r
    subst r
    exact ⟨rfl, fun n h => by cases h⟩
  | .str i :: ds, ns, xs, e, r => by
    simp only [getStrs] at e
    obtain ⟨ms, e1, rfl⟩ := Option.map_eq_some_iff.mp e
    simp only [Reps] at r
    obtain ⟨x, q, rfl, h1, h2⟩ := r
    obtain ⟨k1, k2, k3⟩ := str_of h1
    obtain ⟨r1, r2⟩ := getStrs_rep e1 h2
    rw [k3, r1]
    refine ⟨rfl, fun n hn => ?_⟩
    rcases List.mem_cons.mp hn with rfl | hn
    · exact k1
    · exact r2 n hn
  | .non :: _, _, _, e, _ => by simp [getStrs] at e
  | .bl _ :: _, _, _, e, _ => by simp [getStrs] at e
  | .int _ :: _, _, _, e, _ => by simp [getStrs] at e
  | .tup _ :: _, _, _, e, _ => by simp [getStrs] at e
  | .lst _ :: _, _, _, e, _ => by simp [getStrs] at e
  | .scr _ :: _, _, _, e, _ => by simp [getStrs] at e
  | .ref _ :: _, _, _, e, _ => by simp [getStrs] at e
theorem joinL_len (a : List Nat) : ∀ xs : List (List Nat), (joinL a xs).length ≤ (xs.map (·.length)).sum + xs.length * a.length
  | [] => by simp [joinL]
  | [x] => by simp [joinL]
  | x :: y :: xs => by
    have := joinL_len a (y :: xs)
    simp only [joinL, List.length_append, List.map_cons, List.sum_cons, List.length_cons] at this ⊢
    have e1 : (xs.length + 1 + 1) * a.length = (xs.length + 1) * a.length + a.length := by rw [Nat.add_mul]; omega
    omega
theorem joinL_mem {a : List Nat} {n : Nat} : ∀ {xs : List (List Nat)}, n ∈ joinL a xs → n ∈ a ∨ ∃ x ∈ xs, n ∈ x
  | [], h => by simp [joinL] at h
  | [x], h => .inr ⟨x, by simp, by simpa [joinL] using h⟩
  | x :: y :: xs, h => by
    simp only [joinL, List.mem_append] at h
    rcases h with (h | h) | h
    · exact .inr ⟨x, by simp, h⟩
    · exact .inl h
    · rcases joinL_mem (xs := y :: xs) h with h | ⟨z, h1, h2⟩
      · exact .inl h
      · exact .inr ⟨z, List.mem_cons_of_mem _ h1, h2⟩
theorem join_mkS' (a : List Nat) : ∀ xs : List (List Nat), Str.join (mkS a) (xs.map mkS) = mkS (joinL a xs)
  | [] => rfl
  | [x] => rfl
  | x :: y :: xs => by
    have ih := join_mkS' a (y :: xs)
    simp only [List.map_cons, joinL] at ih ⊢
    show mkS x ++ mkS a ++ Str.join (mkS a) (mkS y :: List.map mkS xs) = _
    rw [ih, mkS_append, mkS_append]
theorem join_mkS (a : List Nat) (xs : List (List Nat)) : Txt.join (mkS a) (xs.map mkS) = mkS (joinL a xs) := (StrLaws.glued_eq_join _ _).trans (join_mkS' a xs)
def meTy : Me → String
  | .append | .pop | .insert | .reverse | .clear => "list"
  | _ => "str"
def meId : Me → String
  | .append => "list.append"
  | .join => "str.join"
  | .pop => "list.pop"
  | .insert => "list.insert"
  | .reverse => "list.reverse"
  | .clear => "list.clear"
  | .split => "str.split"
  | .partition => "str.partition"
  | .strip => "str.strip"
  | .startswith => "str.startswith"
  | _ => ""
theorem meT_ty {K : PySem.W.Frag} {c : Cf} {hp : AH} {m : Me} {o : D} {v : V} (sr : SR K ca c hp) (ro : Rep K c o v) (h : meT m hp o = true) : tyV K (meTy m) v c.H := by
  cases m with
  | append =>
    simp only [meT] at h
    obtain ⟨ds, e⟩ := Option.isSome_iff_exists.mp h
    obtain ⟨a, xs, rfl, h1, _⟩ := asL_rep sr ro e
    exact .inl ⟨rfl, xs, .of h1⟩
  | pop =>
    simp only [meT] at h
    obtain ⟨ds, e⟩ := Option.isSome_iff_exists.mp h
    obtain ⟨a, xs, rfl, h1, _⟩ := asL_rep sr ro e
    exact .inl ⟨rfl, xs, .of h1⟩
  | insert =>
    simp only [meT] at h
    obtain ⟨ds, e⟩ := Option.isSome_iff_exists.mp h
    obtain ⟨a, xs, rfl, h1, _⟩ := asL_rep sr ro e
    exact .inl ⟨rfl, xs, .of h1⟩
  | reverse =>
    simp only [meT] at h
    obtain ⟨ds, e⟩ := Option.isSome_iff_exists.mp h
    obtain ⟨a, xs, rfl, h1, _⟩ := asL_rep sr ro e
    exact .inl ⟨rfl, xs, .of h1⟩
  | clear =>
    simp only [meT] at h
    obtain ⟨ds, e⟩ := Option.isSome_iff_exists.mp h
    obtain ⟨a, xs, rfl, h1, _⟩ := asL_rep sr ro e
    exact .inl ⟨rfl, xs, .of h1⟩
  | join =>
    simp only [meT] at h
    split at h
    · obtain ⟨_, _, rfl⟩ := str_of ro
      rfl
    · cases h
  | split =>
    simp only [meT] at h
    split at h
    · obtain ⟨_, _, rfl⟩ := str_of ro
      rfl
    · cases h
  | partition =>
    simp only [meT] at h
    split at h
    · obtain ⟨_, _, rfl⟩ := str_of ro
      rfl
    · cases h
  | strip =>
    simp only [meT] at h
    split at h
    · obtain ⟨_, _, rfl⟩ := str_of ro
      rfl
    · cases h
  | startswith =>
    simp only [meT] at h
    split at h
    · obtain ⟨_, _, rfl⟩ := str_of ro
      rfl
    · cases h
  | _ => cases h
theorem joinD_out {K : PySem.W.Frag} {c : Cf} {hp : AH} {o x d : D} {v y : V} (sr : SR K ca c hp) (ro : Rep K c o v) (rx : Rep K c x y) (e : joinD hp o x = some d) :
    ∃ a z, v = .str (mkS a) ∧ d = .str z ∧ Rep K c d (.str (mkS z)) ∧ ∃ (p : Addr) (ns : List (List Nat)), y = .ref p ∧ (SqL K c.H p ((ns.map mkS).map V.str) ∨ SqT K c.H p ((ns.map mkS).map V.str)) ∧ ((ns.map mkS).map (·.length)).sum + (ns.map mkS).length * (mkS a).length ≤ 16777216 ∧ mkS z = Txt.join (mkS a) (ns.map mkS) := by
  have fin : ∀ {a : List Nat} {ns : List (List Nat)}, PyData.strOk (mkS a) = true → (∀ n ∈ ns, PyData.strOk (mkS n) = true) → (ns.map (·.length)).sum + ns.length * a.length ≤ 16777216 → Rep K c (.str (joinL a ns)) (.str (mkS (joinL a ns))) ∧ ((ns.map mkS).map (·.length)).sum + (ns.map mkS).length * (mkS a).length ≤ 16777216 := fun {a ns} h1 h2 h3 => by
    refine ⟨?_, ?_⟩
    · simp only [Rep]
      refine ⟨?_, by rw [sz_eq]; exact Nat.le_trans (joinL_len a ns) h3, trivial⟩
      simp only [PyData.strOk, mkS, List.all_toArray, List.all_eq_true]
      intro n hn
      rcases joinL_mem hn with h | ⟨x, hx, h⟩
      · simp only [PyData.strOk, mkS, List.all_toArray, List.all_eq_true] at h1
        exact h1 n h
      · have := h2 x hx
        simp only [PyData.strOk, mkS, List.all_toArray, List.all_eq_true] at this
        exact this n h
    · rw [List.map_map, List.length_map, mkS_length]
      have : (fun x : List Nat => x.length) = (fun s : Str => s.length) ∘ mkS := by funext x; simp [mkS_length]
      rw [← this]
      exact h3
  unfold joinD at e
  split at e
  · rename_i a ds
    obtain ⟨h1, h2, rfl⟩ := str_of ro
    obtain ⟨ns, e1, e2⟩ := Option.bind_eq_some_iff.mp e
    split at e2
    · rename_i hz
      cases e2
      simp only [Rep] at rx
      obtain ⟨p, xs, rfl, t, rr⟩ := rx
      obtain ⟨r1, r2⟩ := getStrs_rep e1 rr
      obtain ⟨f1, f2⟩ := fin h1 r2 hz
      exact ⟨a, _, rfl, rfl, f1, p, ns, rfl, .inr (r1 ▸ t.sq), f2, (join_mkS a ns).symm⟩
    · cases e2
  · rename_i a _
    obtain ⟨h1, h2, rfl⟩ := str_of ro
    obtain ⟨ds, e0, e⟩ := Option.bind_eq_some_iff.mp e
    obtain ⟨ns, e1, e2⟩ := Option.bind_eq_some_iff.mp e
    split at e2
    · rename_i hz
      cases e2
      obtain ⟨p, xs, rfl, t, rr⟩ := asL_rep sr rx e0
      obtain ⟨r1, r2⟩ := getStrs_rep e1 rr
      obtain ⟨f1, f2⟩ := fin h1 r2 hz
      exact ⟨a, _, rfl, rfl, f1, p, ns, rfl, .inl (r1 ▸ .of t), f2, (join_mkS a ns).symm⟩
    · cases e2
  · cases e
theorem strip_sub (x : Str) (goes : Nat → Bool) (l r : Bool) : (∀ n ∈ (Txt.stripBy goes l r x).cps.toList, n ∈ x.cps.toList) ∧ (Txt.stripBy goes l r x).cps.toList.length ≤ x.cps.toList.length := by
  unfold Txt.stripBy
  split
  · exact ⟨fun _ h => h, Nat.le_refl _⟩
  · simp only [stripped, Builtin.Str.strSub]
    refine ⟨fun n hn => ?_, ?_⟩
    · rw [Array.toList_extract, List.extract_eq_drop_take] at hn
      exact List.mem_of_mem_drop (List.mem_of_mem_take hn)
    · rw [Array.toList_extract, List.extract_eq_drop_take, List.length_take, List.length_drop]
      omega
theorem Reps.reverse {K : PySem.W.Frag} {c : Cf} : ∀ {ds : List D} {xs : List V}, Reps K c ds xs → Reps K c ds.reverse xs.reverse
  | [], _, h => by simp only [Reps] at h; subst h; simp [Reps]
  | d :: ds, _, h => by
    simp only [Reps] at h
    obtain ⟨x, r, rfl, h1, h2⟩ := h
    rw [List.reverse_cons, List.reverse_cons]
    exact (Reps.reverse h2).snoc h1
theorem sub_sub (x : Str) (i j : Nat) : (∀ n ∈ (Builtin.Str.strSub x i j).cps.toList, n ∈ x.cps.toList) ∧ (Builtin.Str.strSub x i j).cps.toList.length ≤ x.cps.toList.length := by
  simp only [Builtin.Str.strSub]
  refine ⟨fun n hn => ?_, ?_⟩
  · rw [Array.toList_extract, List.extract_eq_drop_take] at hn
    exact List.mem_of_mem_drop (List.mem_of_mem_take hn)
  · rw [Array.toList_extract, List.extract_eq_drop_take, List.length_take, List.length_drop]
    omega
theorem split_sub {x y p : Str} (h : p ∈ Txt.split x y) : (∀ n ∈ p.cps.toList, n ∈ x.cps.toList) ∧ p.cps.toList.length ≤ x.cps.toList.length := by
  unfold Txt.split at h
  split at h
  · simp at h; subst h; exact ⟨fun _ h => h, Nat.le_refl _⟩
  · split at h
    · simp at h; subst h; exact ⟨fun _ h => h, Nat.le_refl _⟩
    · unfold Builtin.Str.partsBetween at h
      obtain ⟨⟨i, j⟩, _, rfl⟩ := List.mem_map.mp h
      exact sub_sub x i j
theorem mkS_back (p : Str) : mkS p.cps.toList = p := by simp [mkS]
theorem rep_sub {K : PySem.W.Frag} {c : Cf} {a : List Nat} {p : Str} (k1 : PyData.strOk (mkS a) = true) (k2 : a.length ≤ sizeLine) (h : (∀ n ∈ p.cps.toList, n ∈ a) ∧ p.cps.toList.length ≤ a.length) : Rep K c (.str p.cps.toList) (.str p) := by
  simp only [Rep, mkS_back]
  refine ⟨?_, Nat.le_trans h.2 k2, trivial⟩
  have := strOk_sub (fun n hn => h.1 n hn) k1
  rwa [mkS_back] at this
theorem reps_subs {K : PySem.W.Frag} {c : Cf} {a : List Nat} (k1 : PyData.strOk (mkS a) = true) (k2 : a.length ≤ sizeLine) : ∀ {ps : List Str}, (∀ p ∈ ps, (∀ n ∈ p.cps.toList, n ∈ a) ∧ p.cps.toList.length ≤ a.length) → Reps K c (ps.map fun s => .str s.cps.toList) (ps.map V.str)
  | [], _ => by simp only [List.map_nil, Reps]
  | p :: ps, h => by
    simp only [List.map_cons, Reps]
    exact ⟨_, _, rfl, rep_sub k1 k2 (h p (by simp)), reps_subs k1 k2 fun q hq => h q (by simp [hq])⟩
theorem part_sub {K : PySem.W.Frag} {c : Cf} {a b : List Nat} (k1 : PyData.strOk (mkS a) = true) (k2 : a.length ≤ sizeLine) (j1 : PyData.strOk (mkS b) = true) (j2 : b.length ≤ sizeLine) :
    Rep K c (.str (Txt.partition (mkS a) (mkS b)).1.cps.toList) (.str (Txt.partition (mkS a) (mkS b)).1) ∧ Rep K c (.str (Txt.partition (mkS a) (mkS b)).2.1.cps.toList) (.str (Txt.partition (mkS a) (mkS b)).2.1) ∧
      Rep K c (.str (Txt.partition (mkS a) (mkS b)).2.2.cps.toList) (.str (Txt.partition (mkS a) (mkS b)).2.2) := by
  have whole : Rep K c (.str (mkS a).cps.toList) (.str (mkS a)) := rep_sub k1 k2 (by simp [mkS])
  have sep : Rep K c (.str (mkS b).cps.toList) (.str (mkS b)) := rep_sub j1 j2 (by simp [mkS])
  have none_ : Rep K c (.str Str.empty.cps.toList) (.str Str.empty) := rep_sub k1 k2 (by simp [Str.empty])
  have part : ∀ i j, Rep K c (.str (Builtin.Str.strSub (mkS a) i j).cps.toList) (.str (Builtin.Str.strSub (mkS a) i j)) := fun i j => rep_sub k1 k2 (by have := sub_sub (mkS a) i j; simpa [mkS] using this)
  unfold Txt.partition
  split
  · exact ⟨part _ _, sep, part _ _⟩
  · exact ⟨whole, none_, none_⟩
theorem opMe {m : Me} {mu : Bool} : MtR X (meId m) (rme X.K ca (thenMe m mu)) := by
  intro pins s σ H x xs v us Q I rx rv h
  obtain ⟨W, σ', M, r, hp, d, ds, sr, rd, rds, q⟩ := h
  unfold thenMe at q
  cases e : meD m hp d ds with
  | none => rw [e] at q; exact q.elim
  | some p =>
    obtain ⟨d', h'⟩ := p
    rw [e] at q
    simp only at q
    cases m with
    | append =>
      simp only [meD] at e
      split at e
      · rename_i n y
        split at e
        · rename_i es e1
          split at e
          · rename_i hl
            cases e
            obtain ⟨a, ys, rfl, ra, ha, rr⟩ := ref_lst sr rd e1
            obtain ⟨y', rfl, ry⟩ := rds.one
            refine mt_append pins s σ H _ _ v us Q I rx rv ⟨a, ys, y', rfl, rfl, ha, by rw [rr.length, sz_eq]; exact hl, ?_⟩
            refine mkL_np q (fun _ z => by cases z) ⟨M, r, upd H a (.lst (ys ++ [y']))⟩ .non (step_upd (List.mem_of_getElem? ra)) ?_ rep_non
            exact sr_upd sr ra (rr.snoc ry)
          · cases e
        · cases e
      · cases e
    | join =>
      simp only [meD] at e
      split at e
      · rename_i y
        obtain ⟨z, e1, e2⟩ := Option.map_eq_some_iff.mp e
        cases e2
        obtain ⟨y', rfl, ry⟩ := rds.one
        obtain ⟨a, z', rfl, rfl, rz, p, ns, rfl, hs, hz, ez⟩ := joinD_out sr rd ry e1
        refine mt_join pins s σ H _ _ v us Q I rx rv ⟨mkS a, p, ns.map mkS, rfl, rfl, hs, hz, ?_⟩
        rw [← ez]
        exact mkL_plain sr q (fun _ z => by cases z) rz
      · cases e
    | pop =>
      simp only [meD] at e
      have q : Post X.K ca W (Rep X.K) σ' ⟨M, r, H⟩ (.ok d' h') Q := by simpa [Me.fresh, mkL] using q
      have go : ∀ {n j : Nat} {a : Addr} {es es' : List D} {ys ys' : List V} {y : V}, r[n]? = some a → Reps X.K ⟨M, r, H⟩ es' ys' → Rep X.K ⟨M, r, H⟩ d' y → h' = hp.set n (.lst es') → Q y (upd H a (.lst ys')) := fun {n j a es es' ys ys' y} ra rr ry eh => by
        subst eh
        exact q ⟨M, r, _⟩ y (step_upd (List.mem_of_getElem? ra)) (sr_upd sr ra rr) (ry.step sr.inM (step_upd (List.mem_of_getElem? ra)))
      have er : ∀ {es : List D} {ys : List V} (j : Nat), Reps X.K ⟨M, r, H⟩ es ys → Reps X.K ⟨M, r, H⟩ (es.eraseIdx j) (ys.eraseIdx j) := fun {es ys} j rr => by
        rw [List.eraseIdx_eq_take_drop_succ, List.eraseIdx_eq_take_drop_succ]
        exact (rr.take j).append (rr.drop (j + 1))
      split at e
      · rename_i n
        split at e
        · rename_i es e1
          split at e
          · rename_i y e2
            cases e
            obtain ⟨a, ys, rfl, ra, ha, rr⟩ := ref_lst sr rd e1
            have hx : xs = [] := by simpa only [Reps] using rds
            subst hx
            obtain ⟨y', ey, ry⟩ := rr.get e2
            rw [← rr.length] at ey
            refine mt_pop pins s σ H _ _ v us Q I rx rv ⟨a, ys, y', rfl, rfl, ha, ey, go (n := n) (j := 0) (es := es) (ys := ys) (es' := es.dropLast) ra ?_ ry rfl⟩
            rw [List.dropLast_eq_take, List.dropLast_eq_take, rr.length]
            exact rr.take _
          · cases e
        · cases e
      · rename_i n i
        split at e
        · rename_i es e1
          obtain ⟨a, ys, rfl, ra, ha, rr⟩ := ref_lst sr rd e1
          obtain ⟨iv, rfl, ri⟩ := rds.one
          have hlen := rr.length
          rw [int_of ri] at rv
          split at e
          · rename_i hi
            split at e
            · rename_i y e2
              cases e
              obtain ⟨y', ey, ry⟩ := rr.get e2
              have hlt := (List.getElem?_eq_some_iff.mp e2).1
              refine mt_popAt pins s σ H _ _ v us Q I rx rv ⟨a, ys, i, i.toNat, y', rfl, rfl, ha, by omega, by omega, ?_, ey, go (n := n) (j := 0) (es := es) (ys := ys) ra (er i.toNat rr) ry rfl⟩
              have hn : ¬ i < 0 := by omega
              unfold seqIndex?
              simp only [hn, if_false]
              rw [if_pos (by simp; omega)]
            · cases e
          · split at e
            · rename_i hi
              split at e
              · rename_i y e2
                cases e
                obtain ⟨y', ey, ry⟩ := rr.get e2
                have hlt := (List.getElem?_eq_some_iff.mp e2).1
                have hz := (I.lstM ha).1
                rw [sz_eq] at hz
                refine mt_popAt pins s σ H _ _ v us Q I rx rv ⟨a, ys, i, (i + es.length).toNat, y', rfl, rfl, ha, by omega, by omega, ?_, ey, go (n := n) (j := 0) (es := es) (ys := ys) ra (er _ rr) ry rfl⟩
                have hn : i < 0 := by omega
                unfold seqIndex?
                simp only [hn, if_true, hlen]
                rw [if_pos (by simp; omega)]
              · cases e
            · cases e
        · cases e
      · cases e
    | insert =>
      simp only [meD] at e
      split at e
      · rename_i n i x
        split at e
        · rename_i es e1
          split at e
          · rename_i hi
            cases e
            obtain ⟨a, ys, rfl, ra, ha, rr⟩ := ref_lst sr rd e1
            obtain ⟨iv, xv, rfl, ri, rxv⟩ := rds.two
            rw [int_of ri] at rv
            refine mt_insert pins s σ H _ _ v us Q I rx rv ⟨a, ys, i, xv, rfl, rfl, ha, by rw [rr.length, sz_eq]; exact hi.2.2, hi.1, by omega, ?_⟩
            refine mkL_np q (fun _ z => by cases z) ⟨M, r, _⟩ .non (step_upd (List.mem_of_getElem? ra)) (sr_upd sr ra ?_) rep_non
            exact ((rr.take _).snoc rxv).append (rr.drop _)
          · cases e
        · cases e
      · cases e
    | reverse =>
      simp only [meD] at e
      split at e
      · rename_i n
        split at e
        · rename_i es e1
          cases e
          obtain ⟨a, ys, rfl, ra, ha, rr⟩ := ref_lst sr rd e1
          have hx : xs = [] := by simpa only [Reps] using rds
          subst hx
          refine mt_reverse pins s σ H _ _ v us Q I rx rv ⟨a, ys, rfl, rfl, ha, ?_⟩
          exact mkL_np q (fun _ z => by cases z) ⟨M, r, _⟩ .non (step_upd (List.mem_of_getElem? ra)) (sr_upd sr ra (Reps.reverse rr)) rep_non
        · cases e
      · cases e
    | clear =>
      simp only [meD] at e
      split at e
      · rename_i n
        split at e
        · rename_i es e1
          cases e
          obtain ⟨a, ys, rfl, ra, ha, rr⟩ := ref_lst sr rd e1
          have hx : xs = [] := by simpa only [Reps] using rds
          subst hx
          refine mt_clear pins s σ H _ _ v us Q I rx rv ⟨a, ys, rfl, rfl, ha, ?_⟩
          exact mkL_np q (fun _ z => by cases z) ⟨M, r, _⟩ .non (step_upd (List.mem_of_getElem? ra)) (sr_upd sr ra (by simp only [Reps])) rep_non
        · cases e
      · cases e
    | split =>
      simp only [meD] at e
      split at e
      · rename_i a b
        split at e
        · rename_i hb
          cases e
          obtain ⟨k1, k2, rfl⟩ := str_of rd
          obtain ⟨y', rfl, ry⟩ := rds.one
          obtain ⟨j1, j2, rfl⟩ := str_of ry
          have hb1 : ((mkS b).length == 0) = false := by
            rw [mkS_length]
            have := hb.1
            cases b with
            | nil => simp at this
            | cons _ _ => simp
          refine mt_split pins s σ H _ _ v us Q I rx rv ⟨mkS a, mkS b, rfl, rfl, hb1, by rw [mkS_length, sz_eq]; omega, fun p hn => mk_list sr (reps_subs k1 k2 fun p hp => ?_) q p hn⟩
          have := split_sub hp
          simpa [mkS] using this
        · cases e
      · cases e
    | partition =>
      simp only [meD] at e
      split at e
      · rename_i a b
        split at e
        · rename_i hb
          cases e
          obtain ⟨k1, k2, rfl⟩ := str_of rd
          obtain ⟨y', rfl, ry⟩ := rds.one
          obtain ⟨j1, j2, rfl⟩ := str_of ry
          have hb1 : ((mkS b).length == 0) = false := by
            rw [mkS_length]
            cases b with
            | nil => simp at hb
            | cons _ _ => simp
          have q : Post X.K ca W (Rep X.K) σ' ⟨M, r, H⟩ (.ok _ hp) Q := mkL_np q (fun _ z => by cases z)
          refine mt_partition pins s σ H _ _ v us Q I rx rv ⟨mkS a, mkS b, rfl, rfl, hb1, by rw [mkS_length]; exact k2, fun p hn => mk_tup sr ?_ q p hn⟩
          have hp := part_sub k1 k2 j1 j2 (K := X.K) (c := ⟨M, r, H⟩)
          simp only [Reps]
          exact ⟨_, _, rfl, hp.1, _, _, rfl, hp.2.1, _, _, rfl, hp.2.2, rfl⟩
        · cases e
      · cases e
    | strip =>
      simp only [meD] at e
      split at e
      · rename_i a b
        cases e
        obtain ⟨k1, k2, rfl⟩ := str_of rd
        obtain ⟨y', rfl, ry⟩ := rds.one
        obtain ⟨j1, j2, rfl⟩ := str_of ry
        refine mt_stripChars pins s σ H _ _ v us Q I rx rv ⟨mkS a, mkS b, rfl, rfl, by rw [mkS_length]; exact k2, ?_⟩
        have ec : mkS (Txt.stripChars (mkS a) (mkS b)).cps.toList = Txt.stripChars (mkS a) (mkS b) := by simp [mkS]
        have hsub := strip_sub (mkS a) (mkS b).cps.contains true true
        rw [← ec]
        refine mkL_plain sr q (fun _ z => by cases z) ?_
        simp only [Rep]
        refine ⟨strOk_sub (fun n hn => hsub.1 n hn) k1, ?_, trivial⟩
        exact Nat.le_trans hsub.2 k2
      · cases e
    | startswith =>
      simp only [meD] at e
      split at e
      · rename_i a b
        cases e
        obtain ⟨k1, k2, rfl⟩ := str_of rd
        obtain ⟨y', rfl, ry⟩ := rds.one
        obtain ⟨j1, j2, rfl⟩ := str_of ry
        exact mt_startswith pins s σ H _ _ v us Q I rx rv ⟨mkS a, mkS b, rfl, rfl, mkL_plain sr q (fun _ z => by cases z) rep_bl⟩
      · cases e
    | _ => cases e
/-! o[i] = x -/
theorem setD_out {K : PySem.W.Frag} {M : Addr → Prop} {r : List Addr} {H : Hp} {hp h' : AH} {o i x : D} {vo vi vx : V} {Q : Hp → Prop} (sr : SR K ca ⟨M, r, H⟩ hp) (ro : Rep K ⟨M, r, H⟩ o vo) (ri : Rep K ⟨M, r, H⟩ i vi) (rx : Rep K ⟨M, r, H⟩ x vx) (e : setD hp o i x = some h')
    (q : ∀ c', Step ⟨M, r, H⟩ c' → SR K ca c' h' → Q c'.H) : rSetL vo vi vx H Q := by
  unfold setD at e
  split at e
  · rename_i n k
    split at e
    · rename_i es e1
      obtain ⟨a, ys, rfl, ra, ha, rr⟩ := ref_lst sr ro e1
      rw [int_of ri]
      have hl := rr.length
      split at e
      · rename_i h0
        cases e
        refine ⟨a, ys, k, k.toNat, rfl, rfl, ha, ?_, q ⟨M, r, _⟩ (step_upd (List.mem_of_getElem? ra)) (sr_upd sr ra (rr.set rx))⟩
        unfold ixN
        rw [if_pos h0.1, if_pos (by omega)]
      · split at e
        · rename_i h0
          cases e
          refine ⟨a, ys, k, (k + es.length).toNat, rfl, rfl, ha, ?_, q ⟨M, r, _⟩ (step_upd (List.mem_of_getElem? ra)) (sr_upd sr ra (rr.set rx))⟩
          unfold ixN
          rw [if_neg (by omega), if_pos (by omega), hl]
        · cases e
    · cases e
  · cases e
end
end
end DI
set_option Elab.async false
set_option linter.all false
set_option maxRecDepth 100000
namespace DI
open PySem PySem.Spec PyProof.Rows L2
/-! dicts -/
theorem mkS_inj' {x y : List Nat} (h : mkS x = mkS y) : x = y := by
  have := congrArg (fun s : Str => s.cps.toList) h
  simpa [mkS] using this
theorem kF_inj {a b : KD} (h : kF a = kF b) : a = b := by
  cases a <;> cases b <;> simp only [kF] at h
  · cases h; rfl
  · cases h
  · cases h
  · cases h; rfl
theorem kFs_inj {a b : List KD} (h : a.map kF = b.map kF) : a = b := (List.map_inj_right fun _ _ z => kF_inj z).mp h
section
variable {K : PySem.W.Frag} {c : Cf} {κ κ' : Type} [DecidableEq κ] [DecidableEq κ'] {f : κ → κ'} {ok : κ → Prop}
theorem getKV_rep (fi : ∀ {a b}, f a = f b → a = b) {ks : List (κ × D)} {xs : List (κ' × V)} {k : κ} (h : RepK f ok K c ks xs) : (∀ d, getKV ks k = some d → ∃ v, valV xs (f k) = some v ∧ Rep K c d v) ∧ (getKV ks k = none → valV xs (f k) = none) := by
  unfold RepK at h
  induction h with
  | nil => exact ⟨fun d e => (nomatch e), fun _ => rfl⟩
  | @cons p q ks xs h1 h2 ih =>
    obtain ⟨e1, _, r⟩ := h1
    by_cases hk : p.1 = k
    · have hq : q.1 = f k := by rw [e1, hk]
      refine ⟨fun d e => ⟨q.2, valV_pos hq, ?_⟩, fun e => ?_⟩
      · have : getKV (p :: ks) k = some p.2 := by simp [getKV, List.find?_cons, hk]
        rw [this] at e; cases e; exact r
      · have : getKV (p :: ks) k = some p.2 := by simp [getKV, List.find?_cons, hk]
        rw [this] at e; cases e
    · have hq : ¬ q.1 = f k := by rw [e1]; exact fun z => hk (fi z)
      have : getKV (p :: ks) k = getKV ks k := by simp [getKV, List.find?_cons, hk]
      rw [this, valV_neg hq]
      exact ih
theorem getKV_some (fi : ∀ {a b}, f a = f b → a = b) {ks : List (κ × D)} {xs : List (κ' × V)} {k : κ} (h : RepK f ok K c ks xs) : (getKV ks k).isSome = (valV xs (f k)).isSome := by
  obtain ⟨h1, h2⟩ := getKV_rep fi (k := k) h
  cases e : getKV ks k with
  | none => rw [h2 e]; rfl
  | some d => obtain ⟨v, ev, _⟩ := h1 d e; rw [ev]; rfl
theorem any_rep (fi : ∀ {a b}, f a = f b → a = b) {ks : List (κ × D)} {xs : List (κ' × V)} {k : κ} (h : RepK f ok K c ks xs) : (ks.any fun p => decide (p.1 = k)) = (xs.any fun p => decide (p.1 = f k)) := by
  unfold RepK at h
  induction h with
  | nil => rfl
  | @cons p q ks xs h1 h2 ih =>
    have : decide (q.1 = f k) = decide (p.1 = k) := by
      rw [h1.1]
      exact decide_eq_decide.mpr ⟨fun z => fi z, fun z => by rw [z]⟩
    simp only [List.any_cons, ih, this]
theorem RepK.snoc {ks : List (κ × D)} {xs : List (κ' × V)} {k : κ} {d : D} {v : V} (h : RepK f ok K c ks xs) (ko : ok k) (r : Rep K c d v) : RepK f ok K c (ks ++ [(k, d)]) (xs ++ [(f k, v)]) := by
  unfold RepK at h ⊢
  induction h with
  | nil => exact .cons ⟨rfl, ko, r⟩ .nil
  | cons h1 h2 ih => exact .cons h1 ih
theorem RepK.repl (fi : ∀ {a b}, f a = f b → a = b) {ks : List (κ × D)} {xs : List (κ' × V)} {k : κ} {d : D} {v : V} (h : RepK f ok K c ks xs) (r : Rep K c d v) : RepK f ok K c (ks.map fun p => if p.1 = k then (p.1, d) else p) (xs.map fun p => if p.1 = f k then (p.1, v) else p) := by
  unfold RepK at h ⊢
  induction h with
  | nil => exact .nil
  | @cons p q ks xs h1 h2 ih =>
    simp only [List.map_cons]
    refine .cons ?_ ih
    by_cases hk : p.1 = k
    · have hq : q.1 = f k := by rw [h1.1, hk]
      rw [if_pos hk, if_pos hq]
      exact ⟨h1.1, h1.2.1, r⟩
    · have hq : ¬ q.1 = f k := by rw [h1.1]; exact fun z => hk (fi z)
      rw [if_neg hk, if_neg hq]
      exact h1
theorem putKV_rep (fi : ∀ {a b}, f a = f b → a = b) {ks : List (κ × D)} {xs : List (κ' × V)} {k : κ} {d : D} {v : V} (h : RepK f ok K c ks xs) (ko : ok k) (r : Rep K c d v) : RepK f ok K c (putKV ks k d) (putK xs (f k) v) := by
  unfold putKV putK
  rw [any_rep fi h]
  split
  · exact RepK.repl fi h r
  · exact RepK.snoc h ko r
theorem RepK.length {ks : List (κ × D)} {xs : List (κ' × V)} (h : RepK f ok K c ks xs) : xs.length = ks.length := (Paired.length h).symm
end
section
variable {K : PySem.W.Frag} {ca : CA} {M : Addr → Prop} {r : List Addr} {H : Hp} {hp : AH}
theorem kOf_rep {c : Cf} {d : D} {v : V} {k : KD} (rv : Rep K c d v) (e : kOf d = some k) : v = kV (kF k) ∧ kOk k := by
  cases d with
  | int i => cases e; exact ⟨int_of rv, trivial⟩
  | str x => cases e; obtain ⟨h1, h2, rfl⟩ := str_of rv; exact ⟨rfl, h1, h2⟩
  | _ => cases e
theorem kD_rep {c : Cf} {k : KD} (h : kOk k) : Rep K c (kD k) (kV (kF k)) := by
  cases k with
  | inl i => exact rep_int
  | inr x => simp only [kD, Rep]; exact ⟨h.1, h.2, rfl⟩
theorem kDs_rep {c : Cf} : ∀ {ks : List KD}, (∀ k ∈ ks, kOk k) → Reps K c (ks.map kD) ((ks.map kF).map kV)
  | [], _ => by simp only [List.map_nil, Reps]
  | k :: ks, h => by
    simp only [List.map_cons, Reps]
    exact ⟨_, _, rfl, kD_rep (h k (by simp)), kDs_rep fun k m => h k (by simp [m])⟩
theorem kOfs_rep {c : Cf} : ∀ {ds : List D} {xs : List V} {ks : List KD}, Reps K c ds xs → kOfs ds = some ks → xs = (ks.map kF).map kV ∧ ∀ k ∈ ks, kOk k
  | [], xs, ks, h, e => by cases e; simp only [Reps] at h; subst h; exact ⟨rfl, fun _ m => by cases m⟩
  | d :: ds, xs, ks, h, e => by
    simp only [Reps] at h
    obtain ⟨x, r', rfl, h1, h2⟩ := h
    unfold kOfs at e
    split at e
    · rename_i k ks' e1 e2
      cases e
      obtain ⟨a1, a2⟩ := kOf_rep h1 e1
      obtain ⟨b1, b2⟩ := kOfs_rep h2 e2
      refine ⟨by rw [a1, b1]; rfl, fun k' m => ?_⟩
      rcases List.mem_cons.mp m with rfl | m
      · exact a2
      · exact b2 k' m
    · cases e
theorem tOf_rep {d : D} {v : V} {ks : List KD} (rv : Rep K ⟨M, r, H⟩ d v) (e : tOf d = some ks) : (∃ b, v = .ref b ∧ H b = some (.tup ((ks.map kF).map kV))) ∧ ∀ k ∈ ks, kOk k := by
  cases d with
  | tup ds =>
    simp only [Rep] at rv
    obtain ⟨a, xs, rfl, t, rr⟩ := rv
    obtain ⟨a1, a2⟩ := kOfs_rep rr e
    subst a1
    exact ⟨⟨a, rfl, t.2⟩, a2⟩
  | _ => cases e
theorem dGet_rep {o i : D} {x y : V} {t : Option D} (sr : SR K ca ⟨M, r, H⟩ hp) (ro : Rep K ⟨M, r, H⟩ o x) (ri : Rep K ⟨M, r, H⟩ i y) (e : dGet hp o i = some t) :
    ∃ a u, x = .ref a ∧ DGet H a y u ∧ u.isSome = t.isSome ∧ ∀ d, t = some d → ∃ v, u = some v ∧ Rep K ⟨M, r, H⟩ d v := by
  unfold dGet at e
  split at e
  · rename_i n
    simp only [Rep] at ro
    obtain ⟨a, rfl, ra⟩ := ro
    have fin : ∀ {κ κ' : Type} [DecidableEq κ] [DecidableEq κ'] {f : κ → κ'} {ok : κ → Prop} (fi : ∀ {a b}, f a = f b → a = b) {ks : List (κ × D)} {xs : List (κ' × V)} {k : κ}, RepK f ok K ⟨M, r, H⟩ ks xs → getKV ks k = t → DGet H a y (valV xs (f k)) → ∃ a' u, V.ref a = .ref a' ∧ DGet H a' y u ∧ u.isSome = t.isSome ∧ ∀ d, t = some d → ∃ v, u = some v ∧ Rep K ⟨M, r, H⟩ d v :=
      fun {κ κ' _ _ f ok} fi {ks xs k} rk et g => ⟨a, _, rfl, g, by rw [← et]; exact (getKV_some fi rk).symm, fun d ed => (getKV_rep fi rk).1 d (et.trans ed)⟩
    split at e
    · rename_i ks e1
      obtain ⟨xs, e2, rk⟩ := sr.objs n a _ ra e1
      obtain ⟨k, e3, e4⟩ := Option.map_eq_some_iff.mp e
      exact fin kF_inj rk e4 (.inl ⟨xs, _, .inl e2, (kOf_rep ri e3).1, rfl⟩)
    · rename_i ks e1
      obtain ⟨oo, xs, e2, rk⟩ := sr.objs n a _ ra e1
      obtain ⟨k, e3, e4⟩ := Option.map_eq_some_iff.mp e
      exact fin kF_inj rk e4 (.inl ⟨xs, _, .inr ⟨oo, e2⟩, (kOf_rep ri e3).1, rfl⟩)
    · rename_i ks e1
      obtain ⟨xs, e2, rk⟩ := sr.objs n a _ ra e1
      obtain ⟨k, e3, e4⟩ := Option.map_eq_some_iff.mp e
      obtain ⟨⟨b, rfl, hb⟩, _⟩ := tOf_rep ri e3
      exact fin kFs_inj rk e4 (.inr ⟨xs, _, b, .inl e2, rfl, hb, rfl⟩)
    · rename_i ks e1
      obtain ⟨oo, xs, e2, rk⟩ := sr.objs n a _ ra e1
      obtain ⟨k, e3, e4⟩ := Option.map_eq_some_iff.mp e
      obtain ⟨⟨b, rfl, hb⟩, _⟩ := tOf_rep ri e3
      exact fin kFs_inj rk e4 (.inr ⟨xs, _, b, .inr ⟨oo, e2⟩, rfl, hb, rfl⟩)
    · cases e
  · cases e
end
section
variable {X : Cx} {ca : CA}
theorem or_cases {α : Type} {o p : Option α} {d : α} (e : orD o p = some d) : o = some d ∨ p = some d := by
  cases o with
  | none => exact .inr e
  | some x => exact .inl e
theorem opIdx2 (hu : X.A.units + 200 < cLine) : IxR X (r2 X.K ca fun h a b => R.opt (orD (idxD h a b) (dLook h a b)) h) := by
  intro value slice pins s σ H x y v u Q I rx ry h hs
  obtain ⟨W, σ', M, r, hp, a, b, sr, ra, rb, q⟩ := h
  obtain ⟨d, e, qd⟩ := Post.opt q
  rcases or_cases e with e | e
  · exact opIdx (ca := ca) value slice pins s σ H x y v u Q I rx ry ⟨W, σ', M, r, hp, a, b, sr, ra, rb, by show Post X.K ca W (Rep X.K) σ' ⟨M, r, H⟩ (R.opt (idxD hp a b) hp) Q; rw [e]; exact qd⟩ hs
  · unfold dLook at e
    cases et : dGet hp a b with
    | none => rw [et] at e; cases e
    | some t =>
      rw [et] at e
      have e : t = some d := e
      obtain ⟨p, w, rfl, g, _, hd⟩ := dGet_rep sr ra rb et
      obtain ⟨z, rfl, rz⟩ := hd d e
      obtain rfl : v = Value.ref p := rx
      have hT := dict_typeIs I g
      unfold subscriptTail
      refine wpAny_bind ?_
      rw [getitemInPython_of_ne hT.not_modules]
      refine wpAny_bind (wpAny_specialOf hT PySem.F.slot_dict_getitem.lookup ?_)
      have fin : wpAny (model X.prog X.w) X.A (subscripted slice false (.ref p) u) (fun r s₃ => wpAny (model X.prog X.w) X.A (letTemporaryGo value (.ref p) r >>= fun _ => pure r) (EP X pins σ Q) X.xe s₃) X.xe s := by
        rw [hs]
        exact wpAny_operating (wpAny_mono (d_getItem (Q := EP X pins σ Q) (by omega) I g ry fun w' s3 I3 rw' => ⟨z, H, I3, rw', Post.now sr qd rz⟩) (fun r s₃ h₃ => wpAny_bind (wpAny_letTemporaryGo (wpAny_pure h₃))) fun _ _ x => x)
      first
        | exact wpAny_pure (wpAny_bind fin)
        | exact wpAny_bind (wpAny_pure (wpAny_bind fin))
        | exact wpAny_bind fin
theorem opCmp2 (hu : X.A.units + 200 < cLine) {op : CmpOp} : OpR X (compareOp op) (r2 X.K ca fun h a b => R.opt (orD (cmpop op h a b) (dCmp op h a b)) h) := by
  intro pins s σ H x y v u Q I rx ry h
  obtain ⟨W, σ', M, r, hp, a, b, sr, ra, rb, q⟩ := h
  obtain ⟨d, e, qd⟩ := Post.opt q
  rcases or_cases e with e | e
  · exact opCmp (ca := ca) hu pins s σ H x y v u Q I rx ry ⟨W, σ', M, r, hp, a, b, sr, ra, rb, by show Post X.K ca W (Rep X.K) σ' ⟨M, r, H⟩ (R.opt (cmpop op hp a b) hp) Q; rw [e]; exact qd⟩
  · cases op with
    | In =>
      obtain ⟨t, et, rfl⟩ := Option.map_eq_some_iff.mp e
      obtain ⟨p, w, rfl, g, hs, _⟩ := dGet_rep sr rb ra et
      obtain rfl : u = Value.ref p := ry
      exact d_in (by omega) I g rx fun s3 I3 => ⟨.bl w.isSome, H, I3, rfl, by rw [hs]; exact Post.now sr qd rep_bl⟩
    | NotIn =>
      obtain ⟨t, et, rfl⟩ := Option.map_eq_some_iff.mp e
      obtain ⟨p, w, rfl, g, hs, _⟩ := dGet_rep sr rb ra et
      obtain rfl : u = Value.ref p := ry
      exact d_notIn (by omega) I g rx fun s3 I3 => ⟨.bl (!w.isSome), H, I3, rfl, by rw [hs]; exact Post.now sr qd rep_bl⟩
    | _ => cases e
theorem opBi2 {b : Bi} (hc : b ≠ .int → X.calm = true) {mu : Bool} : CallR X (biFn b) (rn X.K ca fun h ds => (R.opt (orD (biD b h ds) (dBi b h ds)) h).bind fun d h => mkL mu d h) := by
  intro pins s σ H xs us Q I rx h
  obtain ⟨W, σ', M, r, hp, ds, sr, ra, q⟩ := h
  obtain ⟨d, e, qd⟩ := Post.optb q
  rcases or_cases e with e | e
  · exact opBi (ca := ca) hc (mu := mu) pins s σ H xs us Q I rx ⟨W, σ', M, r, hp, ds, sr, ra, by show Post X.K ca W (Rep X.K) σ' ⟨M, r, H⟩ ((R.opt (biD b hp ds) hp).bind fun d h => mkL mu d h) Q; rw [e]; exact qd⟩
  · unfold dBi at e
    split at e
    · rename_i n _
      obtain ⟨x, rfl, rx'⟩ := ra.one
      simp only [Rep] at rx'
      obtain ⟨a, rfl, ra'⟩ := rx'
      have hcl : X.calm = true := hc (by decide)
      split at e
      · rename_i ks e1
        cases e
        obtain ⟨ys, e2, rk⟩ := sr.objs n a _ ra' e1
        refine call_list_dK hcl pins s σ H _ us Q I rx ⟨a, ys, rfl, e2, fun q hn => ?_⟩
        refine mk_list sr ?_ qd q hn
        clear e1 e2 qd e ra rx
        unfold RepK1 RepK at rk
        induction rk with
        | nil => simp only [List.map_nil, Reps]
        | cons h1 h2 ih =>
          simp only [List.map_cons, Reps]
          refine ⟨_, _, rfl, ?_, ih⟩
          rw [h1.1]
          exact kD_rep h1.2.1
      · rename_i ks e1
        cases e
        obtain ⟨ys, e2, rk⟩ := sr.objs n a _ ra' e1
        refine call_list_dT hcl pins s σ H _ us Q I rx ⟨a, ys, rfl, .inl e2, fun q bs hn hk => ?_⟩
        refine mk_list sr ?_ qd q hn
        clear e1 e2 qd e ra rx
        unfold IsKeys at hk
        unfold RepK2 RepK at rk
        induction rk generalizing bs with
        | nil => cases hk; simp only [List.map_nil, Reps]
        | cons h1 h2 ih =>
          cases hk with
          | cons k1 k2 =>
            simp only [List.map_cons, Reps]
            refine ⟨_, _, rfl, ?_, ih _ k2⟩
            simp only [Rep]
            refine ⟨_, _, rfl, ⟨fun m => ?_, k1⟩, ?_⟩
            · obtain ⟨o, eo, no⟩ := sr.ally _ m
              have k1' : H _ = some _ := k1
              have eo' : H _ = some o := eo
              rw [k1'] at eo'
              cases eo'
              exact no _ rfl
            · rw [h1.1]
              exact kDs_rep h1.2.1
      · cases e
    · rename_i n _
      obtain ⟨x, rfl, rx'⟩ := ra.one
      simp only [Rep] at rx'
      obtain ⟨a, rfl, ra'⟩ := rx'
      split at e
      · rename_i ks e1
        cases e
        obtain ⟨ys, e2, rk⟩ := sr.objs n a _ ra' e1
        have hl := rk.length
        exact call_lenD pins s σ H _ us Q I rx ⟨a, ys, rfl, e2, by rw [hl]; exact mkL_plain sr qd (fun _ z => by cases z) rep_int⟩
      · rename_i ks e1
        cases e
        obtain ⟨ys, e2, rk⟩ := sr.objs n a _ ra' e1
        have hl := rk.length
        exact call_len_dT pins s σ H _ us Q I rx ⟨a, ys, rfl, e2, by rw [hl]; exact mkL_plain sr qd (fun _ z => by cases z) rep_int⟩
      · cases e
    · cases e
theorem dPut_out {K : PySem.W.Frag} {M : Addr → Prop} {r : List Addr} {H : Hp} {hp h' : AH} {o i x : D} {vo vi vx : V} {Q : Hp → Prop} (sr : SR K ca ⟨M, r, H⟩ hp) (ro : Rep K ⟨M, r, H⟩ o vo) (ri : Rep K ⟨M, r, H⟩ i vi) (rx : Rep K ⟨M, r, H⟩ x vx) (e : dPut hp o i x = some h')
    (q : ∀ c', Step ⟨M, r, H⟩ c' → SR K ca c' h' → Q c'.H) : rSetD vo vi vx H Q := by
  unfold dPut at e
  split at e
  · rename_i n
    simp only [Rep] at ro
    obtain ⟨a, rfl, ra⟩ := ro
    have am : a ∈ r := List.mem_of_getElem? ra
    split at e
    · rename_i ks e1
      split at e
      · rename_i hl
        obtain ⟨k, e3, rfl⟩ := Option.map_eq_some_iff.mp e
        obtain ⟨xs, e2, rk⟩ := sr.objs n a _ ra e1
        have st := step_upd (M := M) (r := r) (H := H) (o := HO.dK (putK xs (kF k) vx)) am
        obtain ⟨k1, k2⟩ := kOf_rep ri e3
        refine ⟨a, _, rfl, .inl ⟨xs, _, e2, k1, by rw [rk.length, sz_eq]; exact hl, rfl⟩, q ⟨M, r, _⟩ st (sr_updO sr ra ⟨_, upd_same, (putKV_rep kF_inj rk k2 rx).mono fun d v z => z.step sr.inM st⟩)⟩
      · cases e
    · rename_i ks e1
      split at e
      · rename_i hl
        obtain ⟨k, e3, rfl⟩ := Option.map_eq_some_iff.mp e
        obtain ⟨xs, e2, rk⟩ := sr.objs n a _ ra e1
        obtain ⟨⟨b, rfl, hb⟩, k2⟩ := tOf_rep ri e3
        have st := step_upd (M := M) (r := r) (H := H) (o := HO.dT (putK xs (k.map kF) vx)) am
        refine ⟨a, _, rfl, .inr ⟨xs, _, b, e2, rfl, hb, by rw [rk.length, sz_eq]; exact hl, rfl⟩, q ⟨M, r, _⟩ st (sr_updO sr ra ⟨_, upd_same, (putKV_rep kFs_inj rk k2 rx).mono fun d v z => z.step sr.inM st⟩)⟩
      · cases e
    · cases e
  · cases e
end
end DI
set_option Elab.async false
set_option linter.all false
set_option maxRecDepth 100000
namespace DI
open PySem PySem.Spec PyProof.Rows L2
noncomputable section

/-! ## 9. the context -/
/-- a def's promise, by the plain meaning -/
def spF (K : PySem.W.Frag) (ca : CA) (F : FC) (i : Nat) : Sp := fun vs H Q E =>
  ∃ M r hp ds, SR K ca ⟨M, r, H⟩ hp ∧ Reps K ⟨M, r, H⟩ ds vs ∧ Post K ca (fun cls d _ H => E cls d H) (Rep K) ([] : L2.St) ⟨M, r, H⟩ (F i ds hp) Q
structure FnAt (X : Cx) (ca : CA) (F : FC) (k : Nat) (i : Nat) (x : Str) : Prop where
  ex : ∃ f fd ps, X.mg x = some (.ref f) ∧ PySem.W.keepIn X.K (.ref f) = true ∧ Binds X.K fd ps [] ∧ FnOk X.prog X.w X.K X.mg X.base (L2.CX X.prog X.w) k f fd ps (spF X.K ca F i)
def bltNames : List Str := ["len", "int", "isinstance", "bool", "str", "tuple", "list", "dict", "range", "sum", "max", "min", "sorted", "reversed", "zip", "enumerate", "set", "abs", "all", "ValueError"]
/-- a class of exceptions of the text -/
structure ClsW (K : PySem.W.Frag) (mg : Str → Option Value) (C : Addr) (x : Str) : Prop where
  at_ : mg x = some (.ref C)
  exc : (x == "Ring") = false → PySem.W.excIn K C [.type "ValueError", .type "Exception", .type "BaseException", .type "object"] "ValueError.__new__" = true
  kp : PySem.W.keepIn K (.ref C) = true
  sb : PySem.W.subIn K (.ref C) (.type "BaseException") = some true
  ty : PySem.W.typeIn K (.ref C) = some (.type "type")
  ec : ExcC K C
  kv : PySem.W.kitOne K (.ref C) (.type "ValueError") = some true
  nr : PySem.W.findIn K (.ref C) payF = some none
/-- the classes of the text -/
structure Clss (K : PySem.W.Frag) (mg : Str → Option Value) (ca : CA) (l : List (Str × List Nat)) : Prop where
  cls : ∀ (i : Nat) x subs, l[i]? = some (x, subs) → ∃ C, ca.cls i = some C ∧ ClsW K mg C x
  sub : ∀ (i j : Nat) p q C D, l[i]? = some p → l[j]? = some q → ca.cls i = some C → ca.cls j = some D → PySem.W.kitOne K (.ref C) (.ref D) = some (q.2.contains i) ∧ PySem.W.exmOne K (.ref C) (.ref D) = some (q.2.contains i)
  inn : ∀ i C, ca.cls i = some C → i < l.length
/-- in an except suite: what it holds -/
structure ExnAt (X : Cx) (ca : CA) (F : FC) (j : Nat) : Prop where
  ex : ∃ (x : XA) (X0 : Cx) (oe : Obj) (pn : List (Addr × Obj)) (e : EV) (C : Addr), ca.xa = some x ∧ x.j = some j ∧ X = X0.suite x.a ((x.a, oe) :: pn) ∧ Zc (.ref C) x.dx oe ∧ (∃ vs, oe.data = .fields vs) ∧
    (∀ h, F XI [] h = .exc e h) ∧ e.pay = x.pay ∧ ca.cls e.cls = some C
structure SX (X : Cx) (W : WX) (ca : CA) (c : CE) (F : FC) (k : Nat) : Prop where
  tk : Takes X W
  kd : X.env.scope.kind = .function
  top : ∀ sc, c.top = some sc → X.env.scope = sc ∧ c.sc = sc.names
  stk : c.top.isSome = true → X.stack = X.env :: X.outer ∧ X.env.frame = some X.env.locals
  pass : PassesOwn (model X.prog X.w) X.A X.env X.xe
  calm : c.hot = false → X.calm = true
  room : c.hot = false → Room k X.A
  hu : X.A.units + 200 < cLine
  N : X.N = c.N
  nd : c.N.Nodup
  loc : ∀ x, isLoc c x = true → Vis X.env.scope x
  sto : ∀ x, (c.sc.lookup x = some .local ∨ c.sc.lookup x = some .cell) → Loc X.env.scope x ∧ (X.fn x = true ∨ X.env.scope.names.lookup x = some .local)
  glb : ∀ x, c.sc.lookup x = some .globalImplicit → Gl X x
  cst : ∀ x d, c.consts.lookup x = some d → ∃ v u, X.mg x = some u ∧ RelV v u ∧ ∀ cf, Rep X.K cf d v
  fns : ∀ (i : Nat) x, c.fns[i]? = some x → FnAt X ca F k i x
  few : c.fns.length ≤ XI
  blt : ∀ x ∈ bltNames, X.mg x = none
  cool : c.hot = false → c.exn = none
  xa0 : c.hot = false → ca.xa = none
  frs : ∀ i, c.exn ≠ some i → ca.free i
  exn : ∀ j, c.exn = some j → ExnAt X ca F j
  cls : Clss X.K X.mg ca c.cls
  tups : ∀ x l, c.tups.lookup x = some l → l.all (fun x => PyData.strOk x && decide (x.cps.size ≤ 16777216)) = true ∧ ∃ p, X.mg x = some (.ref p) ∧ ∀ H, SqT X.K H p (l.map V.str)
theorem SX.free {X : Cx} {W : WX} {ca : CA} {c : CE} {F : FC} {k : Nat} (S : SX X W ca c F k) (h : c.hot = false) (i : Nat) : ca.free i := S.frs i (by rw [S.cool h]; simp)

/-! the call's own heap -/
section
variable {K : PySem.W.Frag} {ca : CA}
mutual
theorem Rep.noref {M : Addr → Prop} {r r' : List Addr} {H : Hp} : ∀ (d : D) (v : V), d.noref = true → Rep K ⟨M, r, H⟩ d v → Rep K ⟨M, r', H⟩ d v
  | .non, _, _, h => by simp only [Rep] at h ⊢; exact h
  | .bl _, _, _, h => by simp only [Rep] at h ⊢; exact h
  | .int _, _, _, h => by simp only [Rep] at h ⊢; exact h
  | .str _, _, _, h => by simp only [Rep] at h ⊢; exact h
  | .tup ds, v, n, h => by
    simp only [Rep, D.noref] at h n ⊢
    obtain ⟨a, xs, e, t, q⟩ := h
    exact ⟨a, xs, e, t, Reps.noref ds xs n q⟩
  | .lst ds, v, n, h => by
    simp only [Rep, D.noref] at h n ⊢
    obtain ⟨a, xs, e, m, t, q⟩ := h
    exact ⟨a, xs, e, m, t, Reps.noref ds xs n q⟩
  | .scr _, v, _, h => by
    simp only [Rep] at h ⊢
    exact h
  | .ref _, _, n, _ => by simp [D.noref] at n
theorem Reps.noref {M : Addr → Prop} {r r' : List Addr} {H : Hp} : ∀ (ds : List D) (xs : List V), norefs ds = true → Reps K ⟨M, r, H⟩ ds xs → Reps K ⟨M, r', H⟩ ds xs
  | [], _, _, h => by simp only [Reps] at h ⊢; exact h
  | d :: ds, xs, n, h => by
    simp only [Reps, norefs, Bool.and_eq_true] at h n ⊢
    obtain ⟨x, q, e, h1, h2⟩ := h
    exact ⟨x, q, e, Rep.noref d x n.1 h1, Reps.noref ds q n.2 h2⟩
end
mutual
theorem Rep.shift {M : Addr → Prop} {r r' : List Addr} {H : Hp} : ∀ (d : D) (v : V), Rep K ⟨M, r', H⟩ d v → Rep K ⟨M, r ++ r', H⟩ (d.shift r.length) v
  | .non, _, h => by simp only [Rep, D.shift] at h ⊢; exact h
  | .bl _, _, h => by simp only [Rep, D.shift] at h ⊢; exact h
  | .int _, _, h => by simp only [Rep, D.shift] at h ⊢; exact h
  | .str _, _, h => by simp only [Rep, D.shift] at h ⊢; exact h
  | .tup ds, v, h => by
    simp only [Rep, D.shift] at h ⊢
    obtain ⟨a, xs, e, t, q⟩ := h
    exact ⟨a, xs, e, t, Reps.shift ds xs q⟩
  | .lst ds, v, h => by
    simp only [Rep, D.shift] at h ⊢
    obtain ⟨a, xs, e, m, t, q⟩ := h
    exact ⟨a, xs, e, m, t, Reps.shift ds xs q⟩
  | .scr _, v, h => by
    simp only [Rep, D.shift] at h ⊢
    exact h
  | .ref n, v, h => by
    simp only [Rep, D.shift] at h ⊢
    obtain ⟨a, e, q⟩ := h
    refine ⟨a, e, ?_⟩
    rw [List.getElem?_append_right (by omega)]
    rw [show r.length + n - r.length = n by omega]
    exact q
theorem Reps.shift {M : Addr → Prop} {r r' : List Addr} {H : Hp} : ∀ (ds : List D) (xs : List V), Reps K ⟨M, r', H⟩ ds xs → Reps K ⟨M, r ++ r', H⟩ (shifts r.length ds) xs
  | [], _, h => by simp only [Reps, shifts] at h ⊢; exact h
  | d :: ds, xs, h => by
    simp only [Reps, shifts] at h ⊢
    obtain ⟨x, q, e, h1, h2⟩ := h
    exact ⟨x, q, e, Rep.shift d x h1, Reps.shift ds q h2⟩
end
theorem RepK.shift {κ κ' : Type} {f : κ → κ'} {ok : κ → Prop} {M : Addr → Prop} {r r' : List Addr} {H : Hp} {ks : List (κ × D)} {xs : List (κ' × V)} (h : RepK f ok K ⟨M, r', H⟩ ks xs) : RepK f ok K ⟨M, r ++ r', H⟩ (ks.map fun p => (p.1, p.2.shift r.length)) xs := by
  unfold RepK at h ⊢
  induction h with
  | nil => exact .nil
  | cons h1 h2 ih => exact .cons ⟨h1.1, h1.2.1, Rep.shift _ _ h1.2.2⟩ ih
theorem RepO.shift {cl : Nat → Option Addr} {M : Addr → Prop} {r r' : List Addr} {H : Hp} {o : Ob} {a : Addr} (h : RepO K cl ⟨M, r', H⟩ o a) : RepO K cl ⟨M, r ++ r', H⟩ (o.shift r.length) a := by
  cases o with
  | lst ds =>
    obtain ⟨xs, e, rr⟩ := h
    exact ⟨xs, e, Reps.shift ds xs rr⟩
  | ins n fs =>
    obtain ⟨C, dx, gs, e0, e, rr⟩ := h
    refine ⟨C, dx, gs, e0, e, ?_⟩
    have : ∀ {fs : List (List Nat × D)} {gs : List (Str × V)}, RepFs K ⟨M, r', H⟩ fs gs → RepFs K ⟨M, r ++ r', H⟩ (fs.map fun p => (p.1, p.2.shift r.length)) gs := by
      intro fs gs h
      unfold RepFs at h ⊢
      induction h with
      | nil => exact .nil
      | cons h1 h2 ih => exact .cons ⟨h1.1, Rep.shift _ _ h1.2⟩ ih
    exact this rr
  | dk ks => obtain ⟨xs, e, rr⟩ := h; exact ⟨xs, e, rr.shift⟩
  | dt ks => obtain ⟨xs, e, rr⟩ := h; exact ⟨xs, e, rr.shift⟩
  | fk ks => obtain ⟨o, xs, e, rr⟩ := h; exact ⟨o, xs, e, rr.shift⟩
  | ft ks => obtain ⟨o, xs, e, rr⟩ := h; exact ⟨o, xs, e, rr.shift⟩
  | dead => trivial
theorem RepO.keep {cl : Nat → Option Addr} {c c' : Cf} {o : Ob} {a : Addr} (h : RepO K cl c o a) (hk : ∀ u, c.H a = some u → c'.H a = some u) (g : ∀ d v, Rep K c d v → Rep K c' d v) : RepO K cl c' o a := by
  by_cases q : ∃ u, c.H a = some u
  · obtain ⟨u, e⟩ := q
    exact h.mono (by rw [hk u e, e]) g
  · have hn : c.H a = none := by
      cases e : c.H a with
      | none => rfl
      | some u => exact absurd ⟨u, e⟩ q
    cases o with
    | lst ds => obtain ⟨xs, e, _⟩ := h; rw [hn] at e; cases e
    | ins n fs => obtain ⟨C, dx, gs, _, e, _⟩ := h; rw [hn] at e; cases e
    | dk ks => obtain ⟨xs, e, _⟩ := h; rw [hn] at e; cases e
    | dt ks => obtain ⟨xs, e, _⟩ := h; rw [hn] at e; cases e
    | fk ks => obtain ⟨_, xs, e, _⟩ := h; rw [hn] at e; cases e
    | ft ks => obtain ⟨_, xs, e, _⟩ := h; rw [hn] at e; cases e
    | dead => trivial
/-- behind a call with a heap of its own: dropped .. -/
theorem apart_drop {M M' : Addr → Prop} {r r' : List Addr} {H H' : Hp} {hp h' : AH} (sr : SR K ca ⟨M, r, H⟩ hp) (s : Step ⟨M, [], H⟩ ⟨M', r', H'⟩) (sr' : SR K ca ⟨M', r', H'⟩ h') :
    Step ⟨M, r, H⟩ ⟨M', r, H'⟩ ∧ SR K ca ⟨M', r, H'⟩ hp := by
  have st : Step ⟨M, r, H⟩ ⟨M', r, H'⟩ := ⟨fun _ _ h => h, s.mono, s.fresh, fun n a h l => by
    have z : n < r.length := (List.getElem?_eq_some_iff.mp h).1
    exact absurd z (Nat.not_lt.mpr l), fun a o h _ => s.keep a o h (by simp), s.dom⟩
  refine ⟨st, sr.len, sr.nd, fun a m => s.mono a (sr.inM a m), fun a m => sr'.ally a m, fun i a o e1 e2 => ?_⟩
  have q := sr.objs i a o e1 e2
  exact q.keep (fun o e => s.keep a o e (by simp)) fun d v z => z.step sr.inM st
/-- .. or put behind -/
theorem apart_keep {M M' : Addr → Prop} {r r' : List Addr} {H H' : Hp} {hp h' : AH} (sr : SR K ca ⟨M, r, H⟩ hp) (s : Step ⟨M, [], H⟩ ⟨M', r', H'⟩) (sr' : SR K ca ⟨M', r', H'⟩ h') :
    Step ⟨M, r, H⟩ ⟨M', r ++ r', H'⟩ ∧ SR K ca ⟨M', r ++ r', H'⟩ (hp ++ h'.map (Ob.shift hp.length)) := by
  have hnew : ∀ a ∈ r', H a = none := fun a m => by
    obtain ⟨n, hn, e⟩ := List.mem_iff_getElem.mp m
    exact s.newr n a (by show r'[n]? = some a; rw [List.getElem?_eq_getElem hn, e]) (Nat.zero_le _)
  have hdis : ∀ a ∈ r, a ∉ r' := fun a m z => sr.alloc a (sr.inM a m) (hnew a z)
  have st : Step ⟨M, r, H⟩ ⟨M', r ++ r', H'⟩ := by
    refine ⟨fun n a h => ?_, s.mono, s.fresh, fun n a h l => ?_, fun a o h _ => s.keep a o h (by simp), s.dom⟩
    · show (r ++ r')[n]? = some a
      rw [List.getElem?_append_left (List.getElem?_eq_some_iff.mp h).1]; exact h
    · have h' : (r ++ r')[n]? = some a := h
      rw [List.getElem?_append_right l] at h'
      exact hnew a (List.mem_of_getElem? h')
  have hl : r.length = hp.length := sr.len
  have hl' : r'.length = h'.length := sr'.len
  refine ⟨st, by simp [hl, hl'], ?_, ?_, fun a m => sr'.ally a m, fun i a o e1 e2 => ?_⟩
  · show (r ++ r').Nodup
    rw [List.nodup_append]
    exact ⟨sr.nd, sr'.nd, fun a ha b hb z => hdis a ha (z ▸ hb)⟩
  · intro a m
    rcases List.mem_append.mp m with m | m
    · exact s.mono a (sr.inM a m)
    · exact sr'.inM a m
  · have e1' : (r ++ r')[i]? = some a := e1
    by_cases hi : i < r.length
    · rw [List.getElem?_append_left hi] at e1'
      rw [List.getElem?_append_left (by omega)] at e2
      have q := sr.objs i a o e1' e2
      exact q.keep (fun o e => s.keep a o e (by simp)) fun d v z => z.step sr.inM st
    · rw [List.getElem?_append_right (by omega)] at e1'
      rw [List.getElem?_append_right (by omega), ← hl, List.getElem?_map] at e2
      cases q2 : h'[i - r.length]? with
      | none => rw [q2] at e2; cases e2
      | some o' =>
        rw [q2] at e2
        simp only [Option.map_some, Option.some.injEq] at e2
        have q := sr'.objs (i - r.length) a o' e1' q2
        subst e2
        exact RepO.shift q
/-- .. or frozen -/
theorem fz_rep {M M' : Addr → Prop} {r r' : List Addr} {H H' : Hp} {h' : AH} (s : Step ⟨M, [], H⟩ ⟨M', r', H'⟩) (sr : SR K ca ⟨M, r, H⟩ hp) (sr' : SR K ca ⟨M', r', H'⟩ h') :
    ∀ (n : Nat) (d d' : D) (v : V), Rep K ⟨M', r', H'⟩ d v → fzD n h' d = some d' → Rep K ⟨M, r, H'⟩ d' v := by
  -- what names nothing of the heap stands under fewer forbidden places too
  have low : ∀ d v, d.noref = true → Rep K ⟨M', r', H'⟩ d v → Rep K ⟨M, r, H'⟩ d v := by
    have key : (∀ d : D, ∀ v, d.noref = true → Rep K ⟨M', r', H'⟩ d v → Rep K ⟨M, r, H'⟩ d v) := by
      intro d
      refine D.rec (motive_1 := fun d => ∀ v, d.noref = true → Rep K ⟨M', r', H'⟩ d v → Rep K ⟨M, r, H'⟩ d v) (motive_2 := fun ds => ∀ xs, norefs ds = true → Reps K ⟨M', r', H'⟩ ds xs → Reps K ⟨M, r, H'⟩ ds xs) ?_ ?_ ?_ ?_ ?_ ?_ ?_ ?_ ?_ ?_ d
      · intro v _ h; simp only [Rep] at h ⊢; exact h
      · intro b v _ h; simp only [Rep] at h ⊢; exact h
      · intro b v _ h; simp only [Rep] at h ⊢; exact h
      · intro b v _ h; simp only [Rep] at h ⊢; exact h
      · intro ds ih v n h
        simp only [Rep, D.noref] at h n ⊢
        obtain ⟨a, xs, e, t, q⟩ := h
        refine ⟨a, xs, e, ?_, ih xs n q⟩
        exact ⟨fun m => t.1 (s.mono a m), t.2⟩
      · intro ds ih v n h
        simp only [Rep, D.noref] at h n ⊢
        obtain ⟨a, xs, e, m, t, q⟩ := h
        exact ⟨a, xs, e, fun z => m (s.mono a z), t, ih xs n q⟩
      · intro ns v _ h
        simp only [Rep] at h ⊢
        obtain ⟨a, e, t⟩ := h
        refine ⟨a, e, ?_⟩
        rcases t with ⟨t1, t2⟩ | t
        · exact .inl ⟨fun m => t1 (s.mono a m), t2⟩
        · exact .inr t
      · intro n v h _; simp [D.noref] at h
      · intro xs _ h; simp only [Reps] at h ⊢; exact h
      · intro d ds ih1 ih2 xs n h
        simp only [Reps, norefs, Bool.and_eq_true] at h n ⊢
        obtain ⟨x, q, e, h1, h2⟩ := h
        exact ⟨x, q, e, ih1 x n.1 h1, ih2 q n.2 h2⟩
    exact key
  have lows : ∀ ds xs, norefs ds = true → Reps K ⟨M', r', H'⟩ ds xs → Reps K ⟨M, r, H'⟩ ds xs := by
    intro ds
    induction ds with
    | nil => intro xs _ h; simp only [Reps] at h ⊢; exact h
    | cons d ds ih =>
      intro xs n h
      simp only [Reps, norefs, Bool.and_eq_true] at h n ⊢
      obtain ⟨x, q, e, h1, h2⟩ := h
      exact ⟨x, q, e, low d x n.1 h1, ih q n.2 h2⟩
  intro n
  induction n with
  | zero =>
    intro d d' v h e
    unfold fzD at e
    split at e
    · rename_i hn; cases e; exact low d v hn h
    · cases e
  | succ n ih =>
    have ihs : ∀ (ds ds' : List D) (xs : List V), Reps K ⟨M', r', H'⟩ ds xs → ds.mapM (fzD n h') = some ds' → Reps K ⟨M, r, H'⟩ ds' xs := by
      intro ds
      induction ds with
      | nil => intro ds' xs h e; simp at e; subst e; simp only [Reps] at h ⊢; exact h
      | cons d ds ih2 =>
        intro ds' xs h e
        simp only [Reps] at h
        obtain ⟨x, q, rfl, h1, h2⟩ := h
        simp only [List.mapM_cons, Option.bind_eq_bind, Option.bind_eq_some_iff, Option.pure_def, Option.some.injEq] at e
        obtain ⟨d1, e1, ds1, e2, rfl⟩ := e
        simp only [Reps]
        exact ⟨x, q, rfl, ih d d1 x h1 e1, ih2 ds1 q h2 e2⟩
    intro d d' v h e
    unfold fzD at e
    split at e
    · rename_i hn; cases e; exact low d v hn h
    · split at e
      · rename_i m _
        simp only [Rep] at h
        obtain ⟨a, rfl, ra⟩ := h
        have ha : H a = none := s.newr m a ra (Nat.zero_le _)
        have nM : ¬ M a := fun z => sr.alloc a z ha
        split at e
        · rename_i es e1
          obtain ⟨xs, e2, e3⟩ := sr'.objs m a _ ra e1
          split at e
          · rename_i hn
            cases e
            simp only [Rep]
            exact ⟨a, xs, rfl, nM, e2, lows es xs hn e3⟩
          · obtain ⟨es', e4, rfl⟩ := Option.map_eq_some_iff.mp e
            simp only [Rep]
            exact ⟨a, xs, rfl, nM, e2, ihs es es' xs e3 e4⟩
        · cases e
      · rename_i es _
        obtain ⟨es', e4, rfl⟩ := Option.map_eq_some_iff.mp e
        simp only [Rep] at h ⊢
        obtain ⟨a, xs, e5, t, q⟩ := h
        refine ⟨a, xs, e5, ?_, ihs es es' xs q e4⟩
        exact ⟨fun m => t.1 (s.mono a m), t.2⟩
      · rename_i es _
        obtain ⟨es', e4, rfl⟩ := Option.map_eq_some_iff.mp e
        simp only [Rep] at h ⊢
        obtain ⟨a, xs, e5, m, t, q⟩ := h
        exact ⟨a, xs, e5, fun z => m (s.mono a z), t, ihs es es' xs q e4⟩
      · cases e
/-- the caller's own heap behind such a call -/
theorem apart_low {M M' : Addr → Prop} {r r' : List Addr} {H H' : Hp} {hp h' : AH} (sr : SR K ca ⟨M, r, H⟩ hp) (s : Step ⟨M, [], H⟩ ⟨M', r', H'⟩) : Step ⟨M, r, H⟩ ⟨M, r, H'⟩ ∧ SR K ca ⟨M, r, H'⟩ hp := by
  have st : Step ⟨M, r, H⟩ ⟨M, r, H'⟩ := ⟨fun _ _ h => h, fun _ h => h, fun _ h => .inl h, fun n a h l => by
    have z : n < r.length := (List.getElem?_eq_some_iff.mp h).1
    exact absurd z (Nat.not_lt.mpr l), fun a o h _ => s.keep a o h (by simp), s.dom⟩
  refine ⟨st, sr.len, sr.nd, sr.inM, fun a m => (let ⟨o, e, n⟩ := sr.ally a m; ⟨o, s.keep a o e (by simp), n⟩), fun i a o e1 e2 => ?_⟩
  have q := sr.objs i a o e1 e2
  exact q.keep (fun o e => s.keep a o e (by simp)) fun d v z => z.step sr.inM st
theorem fz_if {b : Bool} {h' : AH} {d d' : D} (e : (if b = true then fzD 5 h' d else if d.noref = true then some d else none) = some d') : fzD 5 h' d = some d' := by
  cases b with
  | true => exact e
  | false =>
    simp only [Bool.false_eq_true, if_false] at e
    split at e
    · rename_i hn; cases e; unfold fzD; rw [if_pos hn]
    · cases e
theorem apart_sp {W : WX} {σ : L2.St} {fz : Nat → Bool} {F : FC} {i : Nat} {M : Addr → Prop} {r : List Addr} {H : Hp} {hp : AH} {ds : List D} {vs : List V} {Q : VK}
    (sr : SR K ca ⟨M, r, H⟩ hp) (rs : Reps K ⟨M, r, H⟩ ds vs) (q : Post K ca W (Rep K) σ ⟨M, r, H⟩ (apart fz F i ds hp) Q) : spF K ca F i vs H Q (WE W σ) := by
  unfold apart at q
  split at q
  · rename_i hn
    refine ⟨M, [], [], ds, ⟨rfl, List.nodup_nil, fun a m => by simp at m, sr.ally, fun i a o e => by simp at e⟩, Reps.noref ds vs hn rs, ?_⟩
    cases e : F i ds [] with
    | ok d h' =>
      rw [e] at q
      intro c' y s sr' ry
      obtain ⟨M', r', H'⟩ := c'
      simp only at q
      split at q
      · rename_i d' hd
        obtain ⟨s1, sr1⟩ := apart_low (h' := h') sr s
        exact q ⟨M, r, H'⟩ y s1 sr1 (fz_rep s sr sr' 5 d d' y ry (fz_if hd))
      · obtain ⟨s1, sr1⟩ := apart_keep sr s sr'
        have hl : r.length = hp.length := sr.len
        exact q ⟨M', r ++ r', H'⟩ y s1 sr1 (by rw [← hl]; exact Rep.shift d y ry)
    | exc e' h' =>
      rw [e] at q
      intro c' cls dx s sr' rx
      obtain ⟨M', r', H'⟩ := c'
      simp only at q
      obtain ⟨rx1, rx2⟩ := rx
      cases qp : e'.pay with
      | none =>
        rw [qp] at q rx2
        obtain ⟨s1, sr1⟩ := apart_low (h' := h') sr s
        exact q ⟨M, r, H'⟩ cls dx s1 sr1 ⟨rx1, by rw [qp]; exact rx2⟩
      | some d =>
        rw [qp] at q rx2
        obtain ⟨a, v, e1, e2, e3, e4⟩ := rx2
        simp only at q
        split at q
        · rename_i d' hd
          obtain ⟨s1, sr1⟩ := apart_low (h' := h') sr s
          exact q ⟨M, r, H'⟩ cls dx s1 sr1 ⟨rx1, a, v, e1, e2, fun m => e3 (s.mono a m), fz_rep s sr sr' 5 d d' v e4 (fz_if hd)⟩
        · obtain ⟨s1, sr1⟩ := apart_keep sr s sr'
          have hl : r.length = hp.length := sr.len
          exact q ⟨M', r ++ r', H'⟩ cls dx s1 sr1 ⟨rx1, a, v, e1, e2, e3, by rw [← hl]; exact Rep.shift d v e4⟩
    | bad =>
      rw [e] at q
      exact q
  · refine ⟨M, r, hp, ds, sr, rs, ?_⟩
    cases e : F i ds hp with
    | ok d h' => rw [e] at q; exact q
    | exc e' h' => rw [e] at q; exact q
    | bad => rw [e] at q; exact q
theorem sp_of {W : WX} {σ : L2.St} {F : FC} {i : Nat} {M : Addr → Prop} {r : List Addr} {H : Hp} {hp : AH} {ds : List D} {vs : List V} {Q : VK}
    (sr : SR K ca ⟨M, r, H⟩ hp) (rs : Reps K ⟨M, r, H⟩ ds vs) (q : Post K ca W (Rep K) σ ⟨M, r, H⟩ (F i ds hp) Q) : spF K ca F i vs H Q (WE W σ) := by
  refine ⟨M, r, hp, ds, sr, rs, ?_⟩
  cases e : F i ds hp with
  | ok d h' => rw [e] at q; exact q
  | exc e' h' => rw [e] at q; exact q
  | bad => rw [e] at q; exact q
theorem FnAt.imp {X Y : Cx} {ca cb : CA} {F G : FC} {k i : Nat} {x : Str} (h : FnAt X ca F k i x) (e1 : Y.mg = X.mg) (e2 : Y.K = X.K) (e3 : Y.prog = X.prog) (e4 : Y.w = X.w) (e5 : Y.base = X.base)
    (q : ∀ vs H Q E, spF X.K cb G i vs H Q E → spF X.K ca F i vs H Q E) : FnAt Y cb G k i x := by
  obtain ⟨f, fd, ps, h1, h2, h3, h4, h5⟩ := h.ex
  refine ⟨f, fd, ps, by rw [e1]; exact h1, by rw [e2]; exact h2, by rw [e2]; exact h3, ?_⟩
  rw [e1, e2, e3, e4, e5]
  exact ⟨fun vs H Q E z => h4 vs H Q E (q _ _ _ _ z), fun A outer s H args us vs Q E a b c d z => h5 A outer s H args us vs Q E a b c d (q _ _ _ _ z)⟩
theorem FnAt.apart {X : Cx} {ca : CA} {F : FC} {k i : Nat} {x : Str} {fz : Nat → Bool} (h : FnAt X ca F k i x) : FnAt X ca (DI.apart fz F) k i x :=
  h.imp rfl rfl rfl rfl rfl fun vs H Q E ⟨M, r, hp, ds, sr, rs, q⟩ => apart_sp sr rs q
end
end
end DI
set_option Elab.async false
set_option linter.all false
set_option maxRecDepth 100000
namespace DI
open PySem PySem.Spec PyProof.Rows L2
noncomputable section

/-! ## 10. expressions -/
def on1 {α : Type} (f : D → Sl → AH → R α) : List D → Sl → AH → R α
  | [d] => f d
  | _ => fun _ _ => .bad
def on2 {α : Type} (f : D → D → Sl → AH → R α) : List D → Sl → AH → R α
  | [d, e] => f d e
  | _ => fun _ _ => .bad
theorem on1_nil {α : Type} {f : D → Sl → AH → R α} {ds : List D} {d : D} (h : ds.length = ([] : List V).length) : on1 f (ds ++ [d]) = f d := by
  obtain rfl := List.length_eq_zero_iff.mp h
  rfl
theorem on2_one {α : Type} {f : D → D → Sl → AH → R α} {ds : List D} {d : D} {x : V} (h : ds.length = [x].length) : ∃ e, ds = [e] ∧ on2 f (ds ++ [d]) = f e d := by
  match ds, h with
  | [e], _ => exact ⟨e, rfl, rfl⟩
section
variable {K : PySem.W.Frag} {ca : CA} {W : WX} {α β : Type} {Rel : Cf → α → β → Prop} {σ : L2.St} {H : Hp}
theorem te_1 {m : EVl} {f : D → Sl → AH → R α} {f0 : Sl → AH → R α} {Q : β → Hp → Prop} (e : ∀ s h, f0 s h = (m s h).bind fun d h => f d s h)
    (q : tes K ca W Rel (fun _ => f0) [] σ H Q) : te K ca W m σ H fun x H1 => tes K ca W Rel (on1 f) [x] σ H1 Q :=
  tes_seq (g := on1 f) (fun ds s h hl => by rw [e]; congr 1; funext d h; rw [on1_nil hl]) q
theorem te_2 {m : EVl} {f : D → Sl → AH → R α} {g : D → D → Sl → AH → R α} {x : V} {Q : β → Hp → Prop} (e : ∀ d s h, f d s h = (m s h).bind fun d' h => g d d' s h)
    (q : tes K ca W Rel (on1 f) [x] σ H Q) : te K ca W m σ H fun y H1 => tes K ca W Rel (on2 g) [x, y] σ H1 Q :=
  tes_seq (g := on2 g) (fun ds s h hl => by
    match ds, hl with
    | [d], _ => exact e d s h) q
theorem on1_out {f : D → Sl → AH → R α} {x : V} {Q : β → Hp → Prop} (q : tes K ca W Rel (on1 f) [x] σ H Q) :
    ∃ M r hp sd d, SR K ca ⟨M, r, H⟩ hp ∧ RepS K ca ⟨M, r, H⟩ sd σ ∧ Rep K ⟨M, r, H⟩ d x ∧ Post K ca W Rel σ ⟨M, r, H⟩ (f d sd hp) Q := by
  obtain ⟨M, r, hp, sd, ds, h1, h2, h3, h4⟩ := q
  have hl := h3.length
  match ds, hl, h3, h4 with
  | [d], _, h3, h4 =>
    obtain ⟨y, e, ry⟩ := h3.one
    cases e
    exact ⟨M, r, hp, sd, d, h1, h2, ry, h4⟩
theorem on2_out {f : D → D → Sl → AH → R α} {x y : V} {Q : β → Hp → Prop} (q : tes K ca W Rel (on2 f) [x, y] σ H Q) :
    ∃ M r hp sd d e, SR K ca ⟨M, r, H⟩ hp ∧ RepS K ca ⟨M, r, H⟩ sd σ ∧ Rep K ⟨M, r, H⟩ d x ∧ Rep K ⟨M, r, H⟩ e y ∧ Post K ca W Rel σ ⟨M, r, H⟩ (f d e sd hp) Q := by
  obtain ⟨M, r, hp, sd, ds, h1, h2, h3, h4⟩ := q
  have hl := h3.length
  match ds, hl, h3, h4 with
  | [d, e], _, h3, h4 =>
    obtain ⟨y, z, e', ry, rz⟩ := h3.two
    cases e'
    exact ⟨M, r, hp, sd, d, e, h1, h2, ry, rz, h4⟩
theorem to_te {m : EVl} {f : D → Sl → AH → R D} {x : V} {Q : VK} {P : Prop}
    (q : tes K ca W (Rep K) (on1 f) [x] σ H Q) (h : ∀ M r hp sd d, SR K ca ⟨M, r, H⟩ hp → RepS K ca ⟨M, r, H⟩ sd σ → Rep K ⟨M, r, H⟩ d x → Post K ca W (Rep K) σ ⟨M, r, H⟩ (f d sd hp) Q → P) : P := by
  obtain ⟨M, r, hp, sd, d, h1, h2, h3, h4⟩ := on1_out q
  exact h M r hp sd d h1 h2 h3 h4
theorem te_now {M : Addr → Prop} {r : List Addr} {hp : AH} {sd : Sl} {Rel : Cf → α → β → Prop} {m : Sl → AH → R α} {Q : β → Hp → Prop}
    (h1 : SR K ca ⟨M, r, H⟩ hp) (h2 : RepS K ca ⟨M, r, H⟩ sd σ) (h : Post K ca W Rel σ ⟨M, r, H⟩ (m sd hp) Q) : tes K ca W Rel (fun _ => m) [] σ H Q :=
  ⟨M, r, hp, sd, [], h1, h2, (by simp only [Reps]), h⟩
end

theorem star_cons {e : Expr} {es : List Expr} {env : Env} (h : noStar e = true) : starEach (e :: es) env = (false, eval e env) :: starEach es env := by
  cases e <;> first | rfl | (simp [noStar] at h; done)
theorem star_any {env : Env} : ∀ {es : List Expr} {pos : Pos}, es.all noStar = true → (backTo pos (starEach es env)).any (·.1) = false
  | [], _, _ => rfl
  | e :: es, pos, h => by
    simp only [List.all_cons, Bool.and_eq_true] at h
    rw [star_cons h.1]
    have := star_any (env := env) (es := es) (pos := pos) h.2
    simpa [backTo] using this
theorem plainIx {i : Expr} (h : isSlice i = false) : PlainIx i := by
  cases i <;> first | (intro _ _; rfl) | (simp [isSlice] at h; done)
theorem mark_not (op : CmpOp) (b : Expr) (h1 : op ≠ .In) (h2 : op ≠ .NotIn) : behindInMarks op b = false := nobehind b h1 h2

section
variable {X : Cx} {W : WX} {ca : CA} {c : CE} {fz : Nat → Bool} {F : FC} {k : Nat}

theorem s_name (S : SX X W ca c F k) (x : Str) (pos : Pos) : PE X (.Name x pos) (te X.K ca W (ev F (cName c x))) := by
  unfold cName
  split
  · rename_i h
    simp only [Bool.and_eq_true, Bool.not_eq_true'] at h
    obtain ⟨⟨h1, h2⟩, h3⟩ := h
    cases q : ixOf x c.N 0 with
    | none => exact PE.no fun _ _ _ => te_bad
    | some i =>
      have hi : X.N[i]? = some x := by rw [S.N]; exact ixOf_get0 q
      refine PE.imp (pe_var (i := i) hi (S.loc x h1) h2 h3) fun σ H Q q => ?_
      obtain ⟨M, r, hp, sd, ds, h1, h2, h3, h4⟩ := q
      simp only [ev] at h4
      split at h4
      · rename_i d e
        obtain ⟨v, ev, rv⟩ := h2.1.2 i d e
        exact ⟨v, ev, h4 ⟨M, r, H⟩ v (Step.refl _) h1 rv⟩
      · exact h4.elim
  · split
    · rename_i h
      simp only [Bool.and_eq_true, Bool.not_eq_true', beq_iff_eq] at h
      cases q : c.consts.lookup x with
      | none => exact PE.no fun _ _ _ => te_bad
      | some d =>
        obtain ⟨v, u, e1, e2, e3⟩ := S.cst x d q
        refine PE.imp (pe_glob (S.glb x h.1) e1 e2 h.2) fun σ H Q q => ?_
        obtain ⟨M, r, hp, sd, ds, h1, h2, h3, h4⟩ := q
        exact h4 ⟨M, r, H⟩ v (Step.refl _) h1 (e3 _)
    · exact PE.no fun _ _ _ => te_bad
theorem s_const (kc : Const) (n : Nat) (pos : Pos) : PE X (.Constant kc n pos) (te X.K ca W (ev F (cConst kc))) := by
  have now : ∀ {d : D} {v : V} {σ : L2.St} {H : Hp} {Q : VK}, te X.K ca W (ev F (.cst d)) σ H Q → (∀ cf, Rep X.K cf d v) → Q v H := fun {d v σ H Q} q e => by
    obtain ⟨M, r, hp, sd, ds, h1, h2, h3, h4⟩ := q
    exact h4 ⟨M, r, H⟩ v (Step.refl _) h1 (e _)
  cases kc with
  | none => exact PE.imp pe_non fun σ H Q q => now q fun _ => rep_non
  | bool b => exact PE.imp pe_bl fun σ H Q q => now q fun _ => rep_bl
  | int i => exact PE.imp pe_int fun σ H Q q => now q fun _ => rep_int
  | str x =>
    show PE X _ (te X.K ca W (ev F (if PyData.strOk x && decide (x.cps.size ≤ 16777216) then .cst (strD x) else .bad)))
    split
    · rename_i h
      simp only [Bool.and_eq_true, decide_eq_true_eq] at h
      refine PE.imp pe_str fun σ H Q q => now q fun _ => ?_
      simp only [Rep, strD, mkS]
      exact ⟨h.1, by rw [sz_eq]; simpa using h.2, trivial⟩
    · exact PE.no fun _ _ _ => te_bad
  | _ => exact PE.no fun _ _ _ => te_bad
/-- a list of arguments -/
theorem s_args {rec : Expr → Ex} (ih : ∀ e, PE X e (te X.K ca W (ev F (rec e)))) : ∀ {es : List Expr}, es.all noStar = true → PA X es (tas X.K ca W (evs F (mkExs (es.map rec))))
  | [], _ => PA.imp pa_nil fun σ H Q q => by
    obtain ⟨M, r, hp, sd, ds, h1, h2, h3, h4⟩ := q
    exact h4 ⟨M, r, H⟩ [] (Step.refl _) h1 (by simp only [Reps])
  | e :: es, h => by
    simp only [List.all_cons, Bool.and_eq_true] at h
    refine PA.imp (pa_cons (ih e) (s_args ih h.2) (star_cons h.1)) fun σ H Q q => ?_
    have q1 := te_1 (m := ev F (rec e)) (f := fun d s h => (evs F (mkExs (es.map rec)) s h).bind fun xs h => .ok (d :: xs) h) (fun s h => rfl) q
    obtain ⟨M, r, hp, sd, ds, h1, h2, h3, h4⟩ := q1
    refine ⟨M, r, hp, sd, ds, h1, h2, h3, h4.mono fun x H1 q2 => ?_⟩
    obtain ⟨M, r, hp, sd, d, h1, h2, h3, h4⟩ := on1_out q2
    refine ⟨M, r, hp, sd, [], h1, h2, (by simp only [Reps]), ?_⟩
    show Post X.K ca W (Reps X.K) σ _ (evs F (mkExs (es.map rec)) sd hp) _
    cases e1 : evs F (mkExs (es.map rec)) sd hp with
    | ok xs h' =>
      rw [e1] at h4
      intro c' ys s sr rs
      refine h4 c' (x :: ys) s sr ?_
      simp only [Reps]
      exact ⟨x, ys, rfl, h3.step h1.inM s, rs⟩
    | exc e2 h' => rw [e1] at h4; exact h4
    | bad => rw [e1] at h4; exact h4
theorem sts_out {α β : Type} {Rel : Cf → α → β → Prop} {K : PySem.W.Frag} {σ : L2.St} {H : Hp} {m : Sl → AH → R (List D)} {f : List D → AH → R α} {Q : β → Hp → Prop}
    (q : tes K ca W Rel (fun _ s h => (m s h).bind f) [] σ H Q) : tas K ca W m σ H fun xs H1 =>
      ∃ M r hp ds, SR K ca ⟨M, r, H1⟩ hp ∧ Reps K ⟨M, r, H1⟩ ds xs ∧ Post K ca W Rel σ ⟨M, r, H1⟩ (f ds hp) Q := by
  have q1 := tes_seqs (m := m) (g := fun ds _ h => f ds h) (xs := []) (fun ds s h hl => by
    obtain rfl := List.length_eq_zero_iff.mp hl
    rfl) q
  refine tes_mono q1 fun xs H1 q2 => ?_
  obtain ⟨M, r, hp, sd, ds, h1, h2, h3, h4⟩ := q2
  exact ⟨M, r, hp, ds, h1, h3, h4⟩

/-- the two readings of an expression, joined -/
structure SE (X : Cx) (W : WX) (ca : CA) (fz : Nat → Bool) (F : FC) (e : Expr) (x : Ex) : Prop where
  v : PE X e (te X.K ca W (ev F x))
  t : PT X e (tt X.K ca W (ev F x))
theorem SE.no {e : Expr} {x : Ex} (hx : x = .bad) : SE X W ca fz F e x := by
  subst hx
  exact ⟨PE.no fun _ _ _ => te_bad, PT.no fun _ _ _ => tt_bad⟩
theorem tt_te {m : EVl} {σ : L2.St} {H : Hp} {Q : Bool → Hp → Prop} (q : tt X.K ca W m σ H Q) : te X.K ca W m σ H fun x H1 => ∃ k, TruV X.K x H1 k ∧ Q k H1 := by
  have q1 := te_1 (m := m) (f := fun d _ h => R.opt (truth h d) h) (fun s h => rfl) q
  refine tes_mono q1 fun x H1 q2 => ?_
  obtain ⟨M, r, hp, sd, d, h1, h2, h3, h4⟩ := on1_out q2
  exact tru_te h1 h3 h4
/-- an expression whose test is its value's truth -/
theorem SE.plain {e : Expr} {x : Ex} (h : PE X e (te X.K ca W (ev F x))) (he : ∀ whole, isTrue e X.env whole = (do let v ← whole; standAt e.pos; holding [v] (truthy v))) : SE X W ca fz F e x :=
  ⟨h, PT.imp (pt_truth h he) fun σ H Q q => tt_te q⟩
/-- .. or which gives a bool whatever its test -/
theorem tt_b {m : EVl} {σ : L2.St} {H : Hp} {Q : Bool → Hp → Prop} (hb : ∀ s h d h', m s h = .ok d h' → ∃ b, d = .bl b) (q : tt X.K ca W m σ H Q) : te X.K ca W m σ H fun x H1 => ∃ k, x = .bl k ∧ Q k H1 := by
  obtain ⟨M, r, hp, sd, ds, h1, h2, h3, h4⟩ := q
  refine ⟨M, r, hp, sd, ds, h1, h2, h3, ?_⟩
  show Post X.K ca W (Rep X.K) σ _ (m sd hp) _
  have h4' : Post X.K ca W beq' σ ⟨M, r, H⟩ (tr (m sd hp)) Q := h4
  cases e : m sd hp with
  | ok d h' =>
    rw [e] at h4'
    obtain ⟨b, rfl⟩ := hb _ _ _ _ e
    intro c' v s sr rv
    exact ⟨b, bl_of rv, h4' c' b s sr rfl⟩
  | exc e2 h' => rw [e] at h4'; exact h4'
  | bad => rw [e] at h4'; exact h4'

theorem cmpop_bl {op : CmpOp} {h : AH} {x y d : D} (e : cmpop op h x y = some d) : ∃ b, d = .bl b := by
  have i2 : ∀ {f : Int → Int → Bool}, ints2 f x y = some d → ∃ b, d = .bl b := fun {f} e => by
    unfold ints2 at e; split at e
    · cases e; exact ⟨_, rfl⟩
    · cases e
  cases op with
  | Eq => obtain ⟨t, _, rfl⟩ := Option.map_eq_some_iff.mp e; exact ⟨_, rfl⟩
  | NotEq => obtain ⟨t, _, rfl⟩ := Option.map_eq_some_iff.mp e; exact ⟨_, rfl⟩
  | Lt => exact i2 e
  | LtE => exact i2 e
  | Gt => exact i2 e
  | GtE => exact i2 e
  | Is => cases e
  | IsNot => cases e
  | In => obtain ⟨t, _, rfl⟩ := Option.map_eq_some_iff.mp e; exact ⟨_, rfl⟩
  | NotIn => obtain ⟨t, _, rfl⟩ := Option.map_eq_some_iff.mp e; exact ⟨_, rfl⟩
theorem bind_ok {α β : Type} {r : R α} {f : α → AH → R β} {x : β} {h : AH} (e : r.bind f = .ok x h) : ∃ y h', r = .ok y h' ∧ f y h' = .ok x h := by
  cases r with
  | ok y h' => exact ⟨y, h', rfl, e⟩
  | exc _ _ => cases e
  | bad => cases e
theorem opt_ok {α : Type} {o : Option α} {h h' : AH} {x : α} (e : R.opt o h = .ok x h') : o = some x ∧ h = h' := by
  cases o with
  | none => cases e
  | some y => cases e; exact ⟨rfl, rfl⟩
theorem dcmp_bl {op : CmpOp} {h : AH} {x y d : D} (e : orD (cmpop op h x y) (dCmp op h x y) = some d) : ∃ b, d = .bl b := by
  rcases or_cases e with e | e
  · exact cmpop_bl e
  · cases op with
    | In => obtain ⟨t, _, rfl⟩ := Option.map_eq_some_iff.mp e; exact ⟨_, rfl⟩
    | NotIn => obtain ⟨t, _, rfl⟩ := Option.map_eq_some_iff.mp e; exact ⟨_, rfl⟩
    | _ => cases e
/-- in a constant tuple of texts -/
theorem strs_reps {K : PySem.W.Frag} {cf : Cf} : ∀ {l : List Str}, l.all (fun x => PyData.strOk x && decide (x.cps.size ≤ 16777216)) = true → Reps K cf (l.map strD) (l.map V.str)
  | [], _ => by simp only [List.map_nil, Reps]
  | x :: l, h => by
    simp only [List.all_cons, Bool.and_eq_true, decide_eq_true_eq] at h
    simp only [List.map_cons, Reps]
    refine ⟨_, _, rfl, ?_, strs_reps (l := l) (by simpa using h.2)⟩
    simp only [Rep, strD, mkS]
    exact ⟨h.1.1, by rw [sz_eq]; simpa using h.1.2, trivial⟩
theorem strs_flat : ∀ (l : List Str), (l.map strD).all D.flat = true
  | [] => rfl
  | x :: l => by simp only [List.map_cons, List.all_cons, strs_flat l, Bool.and_true]; rfl
theorem s_inC (S : SX X W ca c F k) {neg : Bool} {a b : Expr} {x : Ex} {pos : Pos} {l : List Str} (ha : SE X W ca fz F a x) (ht : tupOf c b = some l) : SE X W ca fz F (.Compare a [if neg then .NotIn else .In] [b] pos) (.inC neg x (l.map strD)) := by
  unfold tupOf at ht
  cases ey : nameOf b with
  | none => rw [ey] at ht; cases ht
  | some y =>
  rw [ey] at ht
  simp only at ht
  by_cases h : (c.sc.lookup y == some .globalImplicit && !(y == "__debug__")) = true
  case neg => rw [if_neg h] at ht; cases ht
  rw [if_pos h] at ht
  simp only [Bool.and_eq_true, Bool.not_eq_true', beq_iff_eq] at h
  obtain ⟨pb, rfl⟩ : ∃ pb, b = .Name y pb := by
    cases b <;> first | (simp [nameOf] at ey; done) | skip
    simp only [nameOf, Option.some.injEq] at ey
    subst ey
    exact ⟨_, rfl⟩
  obtain ⟨hl, p, e1, e2⟩ := S.tups y l ht
  have hm : behindInMarks (if neg then .NotIn else .In) (.Name y pb) = false := by cases neg <;> rfl
  have pb' : PE X (.Name y pb) (fun σ H Q => Q (.ref p) H) := pe_glob (S.glb y h.1) e1 rfl h.2
  have op : OpR X (compareOp (if neg then .NotIn else .In)) (rIn X.K neg) := by
    cases neg with
    | false => exact op_in_seq
    | true => exact op_notIn_seq
  have rd : ∀ {σ : L2.St} {H : Hp} {Q : VK}, te X.K ca W (ev F (.inC neg x (l.map strD))) σ H Q → tOp (rIn X.K neg) (te X.K ca W (ev F x)) (fun σ H Q => Q (.ref p) H) σ H Q := fun {σ H Q} q => by
    have q1 := te_1 (m := ev F x) (f := fun d s h => R.opt ((inL d (l.map strD)).map fun b => D.bl (if neg then !b else b)) h) (fun s h => rfl) q
    refine tes_mono q1 fun u H1 q2 => ?_
    obtain ⟨M, r, hp, sd, d, h1, h2, h3, h4⟩ := on1_out q2
    obtain ⟨t, e, h5⟩ := h4.opt
    obtain ⟨bb, e3, rfl⟩ := Option.map_eq_some_iff.mp e
    unfold inL at e3
    split at e3
    · rename_i hf
      simp only [Bool.and_eq_true] at hf
      cases e3
      obtain ⟨g1, g2⟩ := flats_rep h3 hf.1 (strs_reps (K := X.K) (cf := ⟨M, r, H1⟩) hl) hf.2
      refine ⟨p, _, rfl, .inr (e2 H1), flat_rep h3 hf.1, g1, ?_⟩
      rw [g2]
      exact Post.now h1 h5 rep_bl
    · cases e3
  refine ⟨PE.imp (pe_cmpR op ha.v pb' hm) fun σ H Q q => rd q, PT.imp (pt_cmpR op ha.v pb' hm) fun σ H Q q => ?_⟩
  refine rd (tt_b (fun s h d h' e => ?_) q)
  simp only [ev] at e
  obtain ⟨_, _, _, e⟩ := bind_ok e
  obtain ⟨t, _, rfl⟩ := Option.map_eq_some_iff.mp (opt_ok e).1
  exact ⟨_, rfl⟩
theorem s_cmp (S : SX X W ca c F k) {op : CmpOp} {a b : Expr} {x y : Ex} {pos : Pos} (ha : SE X W ca fz F a x) (hb : SE X W ca fz F b y) : SE X W ca fz F (.Compare a [op] [b] pos) (cCmp c op b x y) := by
  have plain : behindInMarks op b = false → SE X W ca fz F (.Compare a [op] [b] pos) (.cmp op x y) := fun hm => by
    have rd : ∀ {σ : L2.St} {H : Hp} {Q : VK}, te X.K ca W (ev F (.cmp op x y)) σ H Q → tOp (r2 X.K ca fun h a b => R.opt (orD (cmpop op h a b) (dCmp op h a b)) h) (te X.K ca W (ev F x)) (te X.K ca W (ev F y)) σ H Q := fun {σ H Q} q => by
      have q1 := te_1 (m := ev F x) (f := fun d s h => (ev F y s h).bind fun e h => R.opt (orD (cmpop op h d e) (dCmp op h d e)) h) (fun s h => rfl) q
      refine tes_mono q1 fun u H1 q2 => ?_
      have q3 := te_2 (m := ev F y) (g := fun d e s h => R.opt (orD (cmpop op h d e) (dCmp op h d e)) h) (fun d s h => rfl) q2
      refine tes_mono q3 fun w H2 q4 => ?_
      obtain ⟨M, r, hp, sd, d, e, h1, h2, h3, h4, h5⟩ := on2_out q4
      exact ⟨W, σ, M, r, hp, d, e, h1, h3, h4, h5⟩
    refine ⟨PE.imp (pe_cmpR (opCmp2 (ca := ca) S.hu) ha.v hb.v hm) fun σ H Q q => rd q, PT.imp (pt_cmpR (opCmp2 (ca := ca) S.hu) ha.v hb.v hm) fun σ H Q q => ?_⟩
    refine rd (tt_b (fun s h d h' e => ?_) q)
    simp only [ev] at e
    obtain ⟨_, _, _, e⟩ := bind_ok e
    obtain ⟨_, _, _, e⟩ := bind_ok e
    exact dcmp_bl (opt_ok e).1
  have nn : ∀ {d : D} {v : V} {cf : Cf}, Rep X.K cf d v → decide (v = .non) = d.isNon := fun {d v cf} r => by
    cases d with
    | non => simp only [Rep] at r; subst r; simp [D.isNon]
    | bl _ => simp only [Rep] at r; subst r; simp [D.isNon]
    | int _ => simp only [Rep] at r; subst r; simp [D.isNon]
    | str _ => obtain ⟨_, _, rfl⟩ := str_of r; simp [D.isNon]
    | tup _ => simp only [Rep] at r; obtain ⟨_, _, rfl, _⟩ := r; simp [D.isNon]
    | lst _ => simp only [Rep] at r; obtain ⟨_, _, rfl, _⟩ := r; simp [D.isNon]
    | scr _ => simp only [Rep] at r; obtain ⟨_, rfl, _⟩ := r; simp [D.isNon]
    | ref _ => simp only [Rep] at r; obtain ⟨_, rfl, _⟩ := r; simp [D.isNon]
  cases op with
  | Is =>
    unfold cCmp
    cases hb' : isNoneE b with
    | false => exact SE.no (by simp)
    | true =>
      obtain ⟨j, p', rfl⟩ : ∃ j p', b = .Constant .none j p' := by
        unfold isNoneE at hb'
        split at hb'
        · exact ⟨_, _, rfl⟩
        · cases hb'
      have rd : ∀ {σ : L2.St} {H : Hp} {Q : VK}, te X.K ca W (ev F (.isN x)) σ H Q → tIsN (te X.K ca W (ev F x)) σ H Q := fun {σ H Q} q => by
        have q1 := te_1 (m := ev F x) (f := fun d s h => .ok (D.bl d.isNon) h) (fun s h => rfl) q
        refine tes_mono q1 fun u H1 q2 => ?_
        obtain ⟨M, r, hp, sd, d, h1, h2, h3, h4⟩ := on1_out q2
        rw [nn h3]
        exact Post.now h1 h4 rep_bl
      refine ⟨PE.imp (pe_cmp (pc_isN ha.v)) fun σ H Q q => rd q, PT.imp (pt_cmp (pc_isN ha.v)) fun σ H Q q => ?_⟩
      refine rd (tt_b (fun s h d h' e => ?_) q)
      simp only [if_true, ev] at e
      obtain ⟨_, _, _, e⟩ := bind_ok e
      cases e
      exact ⟨_, rfl⟩
  | IsNot =>
    unfold cCmp
    cases hb' : isNoneE b with
    | false => exact SE.no (by simp)
    | true =>
      obtain ⟨j, p', rfl⟩ : ∃ j p', b = .Constant .none j p' := by
        unfold isNoneE at hb'
        split at hb'
        · exact ⟨_, _, rfl⟩
        · cases hb'
      have rd : ∀ {σ : L2.St} {H : Hp} {Q : VK}, te X.K ca W (ev F (.notN x)) σ H Q → tNotN (te X.K ca W (ev F x)) σ H Q := fun {σ H Q} q => by
        have q1 := te_1 (m := ev F x) (f := fun d s h => .ok (D.bl (!d.isNon)) h) (fun s h => rfl) q
        refine tes_mono q1 fun u H1 q2 => ?_
        obtain ⟨M, r, hp, sd, d, h1, h2, h3, h4⟩ := on1_out q2
        rw [nn h3]
        exact Post.now h1 h4 rep_bl
      refine ⟨PE.imp (pe_cmp (pc_notN ha.v)) fun σ H Q q => rd q, PT.imp (pt_cmp (pc_notN ha.v)) fun σ H Q q => ?_⟩
      refine rd (tt_b (fun s h d h' e => ?_) q)
      simp only [if_true, ev] at e
      obtain ⟨_, _, _, e⟩ := bind_ok e
      cases e
      exact ⟨_, rfl⟩
  | In =>
    unfold cCmp
    cases ht : tupOf c b with
    | some l => exact s_inC (neg := false) S ha ht
    | none =>
      show SE X W ca fz F _ (if noSet b then _ else _)
      cases hb' : noSet b with
      | false => exact SE.no (by simp)
      | true => exact plain (by cases b <;> first | rfl | (simp [noSet] at hb'; done))
  | NotIn =>
    unfold cCmp
    cases ht : tupOf c b with
    | some l => exact s_inC (neg := true) S ha ht
    | none =>
      show SE X W ca fz F _ (if noSet b then _ else _)
      cases hb' : noSet b with
      | false => exact SE.no (by simp)
      | true => exact plain (by cases b <;> first | rfl | (simp [noSet] at hb'; done))
  | _ => exact plain (mark_not _ b (by decide) (by decide))
/-- a op1 b op2 d -/
theorem s_chn (S : SX X W ca c F k) {o1 o2 : CmpOp} {a b d : Expr} {x y z : Ex} {pos : Pos} (ha : SE X W ca fz F a x) (hb : SE X W ca fz F b y) (hd : SE X W ca fz F d z) (h2 : isChn o2 = true) : SE X W ca fz F (.Compare a [o1, o2] [b, d] pos) (.chn o1 o2 x y z) := by
  have hm : lastMarks [o1, o2] [b, d] = false := by
    show behindInMarks o2 d = false
    cases o2 <;> first | (simp [isChn] at h2; done) | exact mark_not _ d (by decide) (by decide)
  have rd : ∀ {σ : L2.St} {H : Hp} {Q : VK}, te X.K ca W (ev F (.chn o1 o2 x y z)) σ H Q → tChain (r2 X.K ca fun h a b => R.opt (cmpop o1 h a b) h) (r2 X.K ca fun h a b => R.opt (cmpop o2 h a b) h) (te X.K ca W (ev F x)) (te X.K ca W (ev F y)) (te X.K ca W (ev F z)) σ H Q := fun {σ H Q} q => by
    have q1 := te_1 (m := ev F x) (f := fun d s h => (ev F y s h).bind fun e h => (R.opt (cmpop o1 h d e) h).bind fun t h => match t with | .bl true => (ev F z s h).bind fun w h => R.opt (cmpop o2 h e w) h | .bl false => .ok (.bl false) h | _ => .bad) (fun s h => by simp only [ev]; try rfl) q
    refine tes_mono q1 fun u H1 q2 => ?_
    have q3 := te_2 (m := ev F y) (g := fun d e s h => (R.opt (cmpop o1 h d e) h).bind fun t h => match t with | .bl true => (ev F z s h).bind fun w h => R.opt (cmpop o2 h e w) h | .bl false => .ok (.bl false) h | _ => .bad) (fun d s h => rfl) q2
    refine tes_mono q3 fun w H2 q4 => ?_
    obtain ⟨M, r, hp, sd, d', e', h1, h2, h3, h4, h5⟩ := on2_out q4
    obtain ⟨t, et, h6⟩ := h5.optb
    obtain ⟨tb, rfl⟩ := cmpop_bl et
    refine ⟨W, σ, M, r, hp, d', e', h1, h3, h4, ?_⟩
    show Post X.K ca W (Rep X.K) σ _ (R.opt (cmpop o1 hp d' e') hp) _
    rw [et]
    intro c' tv st sr rt
    obtain ⟨M', r', H'⟩ := c'
    refine ⟨tb, bl_of rt, ?_⟩
    have h7 := Post.step st h6
    cases tb with
    | false =>
      simp only [Bool.false_eq_true, if_false]
      exact Post.now sr h7 rep_bl
    | true =>
      simp only [if_true]
      refine ⟨M', r', hp, sd, [], sr, h2.step h1.inM st, (by simp only [Reps]), ?_⟩
      show Post X.K ca W (Rep X.K) σ _ (ev F z sd hp) _
      simp only at h7
      cases ez : ev F z sd hp with
      | bad => rw [ez] at h7; exact h7
      | exc e h => rw [ez] at h7; exact h7
      | ok wd hp2 =>
        rw [ez] at h7
        intro c2 wv st2 sr2 rw'
        obtain ⟨M2, r2, H2'⟩ := c2
        exact ⟨W, σ, M2, r2, hp2, e', wd, sr2, (h4.step h1.inM st).step sr.inM st2, rw', Post.step st2 h7⟩
  refine ⟨PE.imp (pe_chain (opCmp (ca := ca) S.hu) (opCmp (ca := ca) S.hu) ha.v hb.v hd.v hm) fun σ H Q q => rd q, PT.imp (pt_chain (opCmp (ca := ca) S.hu) (opCmp (ca := ca) S.hu) ha.v hb.v hd.v hm) fun σ H Q q => ?_⟩
  refine rd (tt_b (fun s h d h' e => ?_) q)
  simp only [ev] at e
  obtain ⟨_, _, _, e⟩ := bind_ok e
  obtain ⟨_, _, _, e⟩ := bind_ok e
  obtain ⟨t, _, e1, e⟩ := bind_ok e
  obtain ⟨e4, rfl⟩ := opt_ok e1
  obtain ⟨tb, rfl⟩ := cmpop_bl e4
  cases tb with
  | false => cases e; exact ⟨_, rfl⟩
  | true =>
    obtain ⟨_, _, _, e⟩ := bind_ok e
    exact cmpop_bl (opt_ok e).1

theorem s_not {a : Expr} {x : Ex} {pos : Pos} (ha : SE X W ca fz F a x) : SE X W ca fz F (.UnaryOp .Not a pos) (.not_ x) := by
  constructor
  · refine PE.imp (pe_notT ha.v) fun σ H Q q => ?_
    have q1 := te_1 (m := ev F x) (f := fun d s h => (R.opt (truth h d) h).bind fun b h => .ok (D.bl (!b)) h) (fun s h => rfl) q
    refine tes_mono q1 fun u H1 q2 => ?_
    obtain ⟨M, r, hp, sd, d, h1, h2, h3, h4⟩ := on1_out q2
    obtain ⟨t, e, h5⟩ := h4.optb
    exact ⟨t, truth_out h1 h3 e, Post.now h1 h5 rep_bl⟩
  · refine PT.imp (pt_not ha.t) fun σ H Q q => ?_
    obtain ⟨M, r, hp, sd, ds, h1, h2, h3, h4⟩ := q
    refine ⟨M, r, hp, sd, ds, h1, h2, h3, ?_⟩
    show Post X.K ca W beq' σ _ (tr (ev F x sd hp)) _
    have h4' : Post X.K ca W beq' σ ⟨M, r, H⟩ (tr (ev F (.not_ x) sd hp)) Q := h4
    simp only [ev, tr] at h4' ⊢
    cases e : ev F x sd hp with
    | ok d h' =>
      rw [e] at h4'
      simp only [R.bind_ok] at h4' ⊢
      cases e2 : truth h' d with
      | none => rw [e2] at h4'; exact h4'
      | some t =>
        rw [e2] at h4'
        intro c' y s sr ry
        obtain rfl : t = y := ry
        exact h4' c' (!t) s sr rfl
    | exc e2 h' => rw [e] at h4'; exact h4'
    | bad => rw [e] at h4'; exact h4'

theorem s_and {a b : Expr} {r : List Expr} {x y : Ex} {pos : Pos} (ha : SE X W ca fz F a x) (hv : PE X (.BoolOp .And (b :: r) pos) (te X.K ca W (ev F y))) (ht : PW X (.BoolOp .And (b :: r) pos) (tt X.K ca W (ev F y))) :
    PE X (.BoolOp .And (a :: b :: r) pos) (te X.K ca W (ev F (.and_ x y))) ∧ PW X (.BoolOp .And (a :: b :: r) pos) (tt X.K ca W (ev F (.and_ x y))) := by
  constructor
  · refine PE.imp (pe_andT ha.v hv) fun σ H Q q => ?_
    have q1 := te_1 (m := ev F x) (f := fun d s h => match truth h d with | some true => ev F y s h | some false => .ok d h | none => .bad) (fun s h => rfl) q
    refine tes_mono q1 fun u H1 q2 => ?_
    obtain ⟨M, r, hp, sd, d, h1, h2, h3, h4⟩ := on1_out q2
    cases e : truth hp d with
    | none => rw [e] at h4; exact h4.elim
    | some t =>
      rw [e] at h4
      refine ⟨t, truth_out h1 h3 e, ?_⟩
      cases t with
      | true => exact te_now (m := ev F y) h1 h2 h4
      | false => exact Post.now h1 h4 h3
  · refine ⟨fun whole pins s σ H Q I q => (pw_and ha.t ht).run whole pins s σ H Q I ?_⟩
    obtain ⟨M, r, hp, sd, ds, h1, h2, h3, h4⟩ := q
    refine ⟨M, r, hp, sd, ds, h1, h2, h3, ?_⟩
    show Post X.K ca W beq' σ _ (tr (ev F x sd hp)) _
    have h4' : Post X.K ca W beq' σ ⟨M, r, H⟩ (tr (ev F (.and_ x y) sd hp)) Q := h4
    simp only [ev, tr] at h4' ⊢
    cases e : ev F x sd hp with
    | ok d h' =>
      rw [e] at h4'
      simp only [R.bind_ok] at h4' ⊢
      cases e2 : truth h' d with
      | none => rw [e2] at h4'; exact h4'
      | some t =>
        rw [e2] at h4'
        intro c' y' s sr ry
        obtain rfl : t = y' := ry
        cases t with
        | true => exact te_now (m := fun s h => tr (ev F y s h)) sr (h2.step h1.inM s) (Post.step s h4')
        | false =>
          simp only [R.bind_ok, e2] at h4'
          exact h4' c' false s sr rfl
    | exc e2 h' => rw [e] at h4'; exact h4'
    | bad => rw [e] at h4'; exact h4'
theorem s_or {a b : Expr} {r : List Expr} {x y : Ex} {pos : Pos} (ha : SE X W ca fz F a x) (hv : PE X (.BoolOp .Or (b :: r) pos) (te X.K ca W (ev F y))) (ht : PW X (.BoolOp .Or (b :: r) pos) (tt X.K ca W (ev F y))) :
    PE X (.BoolOp .Or (a :: b :: r) pos) (te X.K ca W (ev F (.or_ x y))) ∧ PW X (.BoolOp .Or (a :: b :: r) pos) (tt X.K ca W (ev F (.or_ x y))) := by
  constructor
  · refine PE.imp (pe_orT ha.v hv) fun σ H Q q => ?_
    have q1 := te_1 (m := ev F x) (f := fun d s h => match truth h d with | some true => .ok d h | some false => ev F y s h | none => .bad) (fun s h => rfl) q
    refine tes_mono q1 fun u H1 q2 => ?_
    obtain ⟨M, r, hp, sd, d, h1, h2, h3, h4⟩ := on1_out q2
    cases e : truth hp d with
    | none => rw [e] at h4; exact h4.elim
    | some t =>
      rw [e] at h4
      refine ⟨t, truth_out h1 h3 e, ?_⟩
      cases t with
      | false => exact te_now (m := ev F y) h1 h2 h4
      | true => exact Post.now h1 h4 h3
  · refine ⟨fun whole pins s σ H Q I q => (pw_or ha.t ht).run whole pins s σ H Q I ?_⟩
    obtain ⟨M, r, hp, sd, ds, h1, h2, h3, h4⟩ := q
    refine ⟨M, r, hp, sd, ds, h1, h2, h3, ?_⟩
    show Post X.K ca W beq' σ _ (tr (ev F x sd hp)) _
    have h4' : Post X.K ca W beq' σ ⟨M, r, H⟩ (tr (ev F (.or_ x y) sd hp)) Q := h4
    simp only [ev, tr] at h4' ⊢
    cases e : ev F x sd hp with
    | ok d h' =>
      rw [e] at h4'
      simp only [R.bind_ok] at h4' ⊢
      cases e2 : truth h' d with
      | none => rw [e2] at h4'; exact h4'
      | some t =>
        rw [e2] at h4'
        intro c' y' s sr ry
        obtain rfl : t = y' := ry
        cases t with
        | false => exact te_now (m := fun s h => tr (ev F y s h)) sr (h2.step h1.inM s) (Post.step s h4')
        | true =>
          simp only [R.bind_ok, e2] at h4'
          exact h4' c' true s sr rfl
    | exc e2 h' => rw [e] at h4'; exact h4'
    | bad => rw [e] at h4'; exact h4'
theorem s_bool {op : BoolOp} {rec : Expr → Ex} {pos : Pos} (ih : ∀ e, SE X W ca fz F e (rec e)) : ∀ es : List Expr, es ≠ [] →
    PE X (.BoolOp op es pos) (te X.K ca W (ev F (cBool op (es.map rec)))) ∧ PW X (.BoolOp op es pos) (tt X.K ca W (ev F (cBool op (es.map rec))))
  | [], h => absurd rfl h
  | [a], _ => by
    refine ⟨pe_one (ih a).v, ?_⟩
    cases op with
    | And => exact pw_and1 (ih a).t
    | Or => exact pw_or1 (ih a).t
  | a :: b :: r, _ => by
    obtain ⟨h1, h2⟩ := s_bool (op := op) (pos := pos) ih (b :: r) (by simp)
    cases op with
    | And => exact s_and (ih a) h1 h2
    | Or => exact s_or (ih a) h1 h2
end
end
end DI
set_option Elab.async false
set_option linter.all false
set_option maxRecDepth 100000
namespace DI
open PySem PySem.Spec PyProof.Rows L2
noncomputable section

/-! ## 10a. what loops go through -/
section
variable (K : PySem.W.Frag) (ca : CA)
def YD (c0 : Cf) (p : Src) : Nat → Hp → V → Hp → Prop := fun i H x H' => ∀ M r hp, SR K ca ⟨M, r, H⟩ hp → Step c0 ⟨M, r, H⟩ → Gd p.2 hp →
  ∃ d M' r', p.1[i]? = some d ∧ Step ⟨M, r, H⟩ ⟨M', r', H'⟩ ∧ SR K ca ⟨M', r', H'⟩ hp ∧ Rep K ⟨M', r', H'⟩ d x
def Gat (c0 : Cf) (p : Src) (H : Hp) : Prop := ∃ M r hp, Step c0 ⟨M, r, H⟩ ∧ SR K ca ⟨M, r, H⟩ hp ∧ Gd p.2 hp
def WalkD (c0 : Cf) (p : Src) (J : It) : Prop := Walk J p.1.length (Gat K ca c0 p) (YD K ca c0 p)
/-- a list as it stands while its guard holds -/
def LstG (c0 : Cf) (p : Src) (a : Addr) : Prop := ∀ M r H hp, Step c0 ⟨M, r, H⟩ → SR K ca ⟨M, r, H⟩ hp → Gd p.2 hp → ∃ xs, SqL K H a xs ∧ Reps K ⟨M, r, H⟩ p.1 xs
abbrev ti (W : WX) (m : Sl → AH → R Src) : TI := tes K ca W (WalkD K ca) (fun _ => m) []
end
theorem PI.imp {X : Cx} {tg e : Expr} {t t' : TI} (h : PI X tg e t) (i : ∀ σ H Q, t' σ H Q → t σ H Q) : PI X tg e t' := ⟨fun pins s σ H Q I q => h.run pins s σ H Q I (i _ _ _ q)⟩
section
variable {K : PySem.W.Frag} {ca : CA}
theorem yd_same {c0 : Cf} {p : Src} {i : Nat} {H H' : Hp} {x : V} {d : D} (inM : ∀ a ∈ c0.r, c0.M a) (e : H' = H) (hd : p.1[i]? = some d) (r : Rep K c0 d x) : YD K ca c0 p i H x H' := fun M r' hp sr st _ => by
  subst e
  exact ⟨d, M, r', hd, Step.refl _, sr, r.step inM st⟩
theorem wd_tup {c0 : Cf} {ds : List D} {xs : List V} {a : Addr} (inM : ∀ a ∈ c0.r, c0.M a) (t : TupAt K c0 a xs) (r : Reps K c0 ds xs) : WalkD K ca c0 (ds, []) (Itt K a) := by
  unfold WalkD
  show Walk _ ds.length _ _
  rw [← r.length]
  refine (walk_tup (K := K) (a := a) (xs := xs)).mono (fun H ⟨M, r', hp, st, _⟩ => (t.step (c' := ⟨M, r', H⟩) inM st).sq) fun i H x H' hi _ y => ?_
  obtain ⟨d, ed, rd⟩ := r.get' y.2
  exact yd_same inM y.1 ed rd
theorem wd_list {c0 : Cf} {p : Src} {a : Addr} (l : LstG K ca c0 p a) : WalkD K ca c0 p (Itl K a) := by
  refine ⟨fun i H hi ⟨M, r, hp, st, sr, gd⟩ => ?_, fun H ⟨M, r, hp, st, sr, gd⟩ => ?_, fun i H x H' hi _ y M r hp sr st gd => ?_⟩
  · obtain ⟨xs, hq, rr⟩ := l M r H hp st sr gd
    have h1 : i < xs.length := by rw [rr.length]; exact hi
    exact ⟨xs, xs[i], hq, by simp [h1]⟩
  · obtain ⟨xs, hq, rr⟩ := l M r H hp st sr gd
    exact ⟨xs, hq, by rw [rr.length]; exact Nat.le_refl _⟩
  · obtain ⟨xs, hq, rr⟩ := l M r H hp st sr gd
    obtain ⟨rfl, hy⟩ := y
    obtain ⟨d, ed, rd⟩ := rr.get' (hy xs hq)
    exact ⟨d, M, r, ed, Step.refl _, sr, rd⟩
/-- what asG tells -/
theorem lst_g {c0 : Cf} {hp0 : AH} {d : D} {p : Src} {v : V} (sr0 : SR K ca c0 hp0) (r : Rep K c0 d v) (e : asG hp0 d = some p) : ∃ a xs, v = .ref a ∧ SqL K c0.H a xs ∧ xs.length = p.1.length ∧ LstG K ca c0 p a ∧ Gd p.2 hp0 := by
  have inM := sr0.inM
  cases d with
  | lst ds =>
    cases e
    simp only [Rep] at r
    obtain ⟨a, xs, rfl, n, t, rr⟩ := r
    exact ⟨a, xs, rfl, .of t, rr.length, fun M r H hp st sr _ => ⟨xs, .of (st.keep a _ t fun m => n (inM a m)), rr.step inM st⟩, gd_nil _⟩
  | ref n =>
    simp only [asG] at e
    split at e
    · rename_i ds e1
      cases e
      simp only [Rep] at r
      obtain ⟨a, rfl, ra⟩ := r
      obtain ⟨xs, e2, e3⟩ := sr0.objs n a _ ra e1
      refine ⟨a, xs, rfl, .of e2, e3.length, fun M r H hp st sr gd => ?_, fun p hp => ?_⟩
      · have e4 := gd (n, ds) (by simp)
        obtain ⟨ys, e5, e6⟩ := sr.objs n a _ (st.pre n a ra) e4
        exact ⟨ys, .of e5, e6⟩
      · simp at hp; subst hp; exact e1
    · cases e
  | _ => simp [asG] at e
theorem wd_str {c0 : Cf} {x : List Nat} (inM : ∀ a ∈ c0.r, c0.M a) (ok : PyData.strOk (mkS x) = true) : WalkD K ca c0 (x.map fun c => .str [c], []) (Its (mkS x)) := by
  unfold WalkD
  show Walk _ (x.map fun c => D.str [c]).length _ _
  have e : (x.map fun c => D.str [c]).length = (mkS x).cps.size := by simp [mkS]
  rw [e]
  refine (walk_str (z := mkS x)).mono (fun H _ => trivial) fun i H v H' hi _ y => ?_
  obtain ⟨e1, c, e2, rfl⟩ := y
  have e3 : x[i]? = some c := by simpa [mkS] using e2
  refine yd_same inM e1 (d := .str [c]) (by rw [List.getElem?_map, e3]; rfl) ?_
  simp only [Rep]
  refine ⟨?_, by rw [sz_eq]; simp, rfl⟩
  have hm : c ∈ x := List.mem_of_getElem? e3
  simp only [PyData.strOk, mkS] at ok ⊢
  simp at ok ⊢
  exact ok c hm
theorem wd_rrange {c0 : Cf} {lo : Int} {n : Nat} (inM : ∀ a ∈ c0.r, c0.M a) : WalkD K ca c0 (((List.range n).map fun k => .int (lo + (k : Nat))).reverse, []) (Itc (lo + n - 1) (-1) n) := by
  have e : ((List.range n).map fun k => D.int (lo + (k : Nat))).reverse.length = n := by simp
  refine ⟨fun i H hi _ => ?_, fun H _ => ?_, fun i H v H' hi _ y => ?_⟩
  · have hi' : i < ((List.range n).map fun k => D.int (lo + (k : Nat))).reverse.length := hi
    rw [e] at hi'
    exact hi'
  · show n ≤ ((List.range n).map fun k => D.int (lo + (k : Nat))).reverse.length
    rw [e]
    exact Nat.le_refl _
  · have hi' : i < ((List.range n).map fun k => D.int (lo + (k : Nat))).reverse.length := hi
    rw [e] at hi'
    obtain ⟨e1, rfl⟩ := y
    refine yd_same inM e1 (d := .int (lo + (n - 1 - i : Nat))) ?_ ?_
    · show ((List.range n).map fun k => D.int (lo + (k : Nat))).reverse[i]? = _
      rw [List.getElem?_reverse (by simpa using hi')]
      simp only [List.length_map, List.length_range]
      rw [List.getElem?_map, List.getElem?_range (by omega)]
      rfl
    · have : lo + (n : Int) - 1 + (i : Int) * -1 = lo + ((n - 1 - i : Nat) : Int) := by omega
      rw [this]
      exact rep_int
theorem wd_range {c0 : Cf} {lo : Int} {n : Nat} (inM : ∀ a ∈ c0.r, c0.M a) : WalkD K ca c0 ((List.range n).map fun k => .int (lo + (k : Nat)), []) (Itr lo n) := by
  unfold WalkD
  show Walk _ ((List.range n).map fun k => D.int (lo + (k : Nat))).length _ _
  have e : ((List.range n).map fun k => D.int (lo + (k : Nat))).length = n := by simp
  rw [e]
  refine (walk_range (lo := lo) (n := n)).mono (fun H _ => trivial) fun i H v H' hi _ y => ?_
  obtain ⟨e1, rfl⟩ := y
  exact yd_same inM e1 (d := .int (lo + i)) (by rw [List.getElem?_map, List.getElem?_range hi]; rfl) rep_int
end
section
variable {X : Cx} {W : WX} {ca : CA} {c : CE} {fz : Nat → Bool} {F : FC} {k : Nat}
/-- over a tuple, a list, a text -/
def iAny (K : PySem.W.Frag) (tl : TE) : TI := fun σ H R => tl σ H fun x H1 => (∃ a, x = .ref a ∧ (∃ xs, SqT K H1 a xs) ∧ R (Itt K a) H1) ∨ (∃ a, x = .ref a ∧ (∃ xs, SqL K H1 a xs) ∧ R (Itl K a) H1) ∨ ∃ z, x = .str z ∧ R (Its z) H1
theorem pi_any {tg l : Expr} {tl : TE} (hl : PE X l tl) : PI X tg l (iAny X.K tl) := by
  refine ⟨fun pins s σ H R I h => ?_⟩
  refine thn (hl.run pins s σ H _ I h) fun v s1 ⟨x, H1, I1, r1, q1⟩ => ?_
  rcases q1 with ⟨a, e, ⟨xs, hq⟩, q⟩ | ⟨a, e, ⟨xs, hq⟩, q⟩ | ⟨x, ex, q⟩
  · subst e
    cases r1
    obtain ⟨its, rv, p, hz⟩ := I1.tuple hq
    refine wpAny_pyIter_tuple (show s1.heap.IsTuple a its.toArray from p) ?_
    refine ⟨s1.heap.objs.size, [s1.heap.objs.size], _, _, H1, rfl, I1.kept (t' := s1.toks) fun b o e => Heap.get?_push_of_some _ e, turn_tuple a _, ⟨_, Heap.get?_push_size _ rfl, rfl, rfl⟩, fun b hb => ?_, q⟩
    have e : b = s1.heap.objs.size := by simpa using hb
    subst e
    exact I1.fpOk (Nat.le_refl _) (I1.hok.fresh (Nat.le_refl _))
  · subst e
    cases r1
    obtain ⟨its, rv, p, hz⟩ := I1.list hq
    refine wpAny_pyIter_list p.isList ?_
    refine ⟨s1.heap.objs.size, [s1.heap.objs.size], _, _, H1, rfl, I1.kept (t' := s1.toks) fun b o e => Heap.get?_push_of_some _ e, turn_list a _, ⟨_, Heap.get?_push_size _ rfl, rfl, rfl⟩, fun b hb => ?_, q⟩
    have e : b = s1.heap.objs.size := by simpa using hb
    subst e
    exact I1.fpOk (Nat.le_refl _) (I1.hok.fresh (Nat.le_refl _))
  · subst ex
    obtain ⟨t, rfl⟩ := r1
    cases ha : x.cps.all (· < 128)
    · exact wpAny_pyIter_wide ha (pi_one (tk := s1.toks) I1 _ (turn_str _ x t "str_iterator" (.inr rfl)) ⟨_, Heap.get?_push_size _ rfl, rfl, rfl⟩ q)
    · exact wpAny_pyIter_ascii ha (pi_one (tk := s1.toks) I1 _ (turn_str _ x t "str_ascii_iterator" (.inl rfl)) ⟨_, Heap.get?_push_size _ rfl, rfl, rfl⟩ q)
theorem s_any {tg e : Expr} {x : Ex} (he : SE X W ca fz F e x) : PI X tg e (ti X.K ca W (evI F (.any x))) := by
  refine PI.imp (pi_any he.v) fun σ H R q => ?_
  have q1 := te_1 (m := ev F x) (f := fun d _ h => DI.R.opt (items h d) h) (fun s h => by simp only [evI]) q
  refine tes_mono q1 fun v H1 q2 => ?_
  obtain ⟨M, r, hp, sd, d, h1, h2, h3, h4⟩ := on1_out q2
  obtain ⟨ds, e, h5⟩ := Post.opt h4
  have go : ∀ J, WalkD X.K ca ⟨M, r, H1⟩ ds J → R J H1 := fun J w => h5 ⟨M, r, H1⟩ J (Step.refl _) h1 w
  have inM : ∀ a ∈ r, M a := h1.inM
  have lists : asG hp d = some ds → (∃ a, v = .ref a ∧ (∃ xs, SqL X.K H1 a xs) ∧ R (Itl X.K a) H1) := fun e => by
    obtain ⟨a, xs, rfl, hq, _, lg, _⟩ := lst_g h1 h3 e
    exact ⟨a, rfl, ⟨xs, hq⟩, go _ (wd_list lg)⟩
  cases d with
  | tup es =>
    cases e
    simp only [Rep] at h3
    obtain ⟨a, xs, rfl, t, rr⟩ := h3
    exact .inl ⟨a, rfl, ⟨xs, t.sq⟩, go _ (wd_tup inM t rr)⟩
  | lst es => exact .inr (.inl (lists e))
  | ref n => exact .inr (.inl (lists e))
  | scr ns =>
    cases e
    simp only [Rep] at h3
    obtain ⟨a, rfl, t⟩ := h3
    exact .inr (.inl ⟨a, rfl, ⟨_, t.sq⟩, go _ (wd_list fun M' r' H' hp' st _ _ => ⟨_, (t.step (c' := ⟨M', r', H'⟩) inM st).sq, scr_reps ns⟩)⟩)
  | str x =>
    cases e
    obtain ⟨k1, k2, rfl⟩ := str_of h3
    exact .inr (.inr ⟨_, rfl, go _ (wd_str inM k1)⟩)
  | _ => simp [items, asG] at e
theorem zip_out {e a b : Expr} (he : isZip c e = some (a, b)) : ∃ p p2, e = .Call (.Name (Str.ofString "zip") p) [a, b] [] p2 ∧ c.sc.lookup (Str.ofString "zip") = some .globalImplicit ∧ noStar a = true ∧ noStar b = true := by
  unfold isZip at he
  split at he
  · split at he
    · rename_i hx
      cases he
      simp only [Bool.and_eq_true, beq_iff_eq] at hx
      obtain ⟨⟨⟨h1, h2⟩, h3⟩, h4⟩ := hx
      rename_i x p p2 
      have hx' : x = Str.ofString "zip" := h1
      subst hx'
      exact ⟨p, p2, rfl, h2, h3, h4⟩
    · cases he
  · cases he
theorem rev_out {e a : Expr} (he : isRev c e = some a) : ∃ p p2, e = .Call (.Name (Str.ofString "reversed") p) [a] [] p2 ∧ c.sc.lookup (Str.ofString "reversed") = some .globalImplicit ∧ noStar a = true := by
  unfold isRev at he
  split at he
  · split at he
    · rename_i hx
      cases he
      simp only [Bool.and_eq_true, beq_iff_eq] at hx
      obtain ⟨⟨h1, h2⟩, h3⟩ := hx
      rename_i x p p2 
      have hx' : x = Str.ofString "reversed" := h1
      subst hx'
      exact ⟨p, p2, rfl, h2, h3⟩
    · cases he
  · cases he
theorem yd_pair {c0 : Cf} {as bs : List D} {gs : List (Nat × List D)} {i : Nat} {H H' : Hp} {v : V} {T : Addr} {x z : V} (ev : v = .ref T) (hT : H T = none) (eH : H' = upd H T (.tup [x, z]))
    (g : ∀ M r hp, SR X.K ca ⟨M, r, H⟩ hp → Step c0 ⟨M, r, H⟩ → Gd gs hp → (∃ d, as[i]? = some d ∧ Rep X.K ⟨M, r, H⟩ d x) ∧ ∃ d, bs[i]? = some d ∧ Rep X.K ⟨M, r, H⟩ d z) :
    YD X.K ca c0 (List.zipWith (fun x y => D.tup [x, y]) as bs, gs) i H v H' := fun M r hp sr st gd => by
  subst ev eH
  obtain ⟨⟨d, ed, rd⟩, d2, ed2, rd2⟩ := g M r hp sr st gd
  refine ⟨.tup [d, d2], M, r, ?_, step_new hT, sr_new sr hT, ?_⟩
  · show (List.zipWith _ as bs)[i]? = _
    rw [List.getElem?_zipWith, ed, ed2]
  · simp only [Rep]
    refine ⟨T, [x, z], rfl, ⟨not_new sr hT, upd_same⟩, ?_⟩
    have s2 := step_new (M := M) (r := r) (o := HO.tup [x, z]) hT
    simp only [Reps]
    exact ⟨x, [z], rfl, rd.step sr.inM s2, z, [], rfl, rd2.step sr.inM s2, rfl⟩
theorem walk_zipT {K : PySem.W.Frag} {a b : Addr} {xs ys : List V} : Walk (RZ.ItzT K a b) (min xs.length ys.length) (fun H => SqT K H a xs ∧ SqT K H b ys) (YPair (fun i => xs[i]?) (fun i => ys[i]?)) := by
  refine ⟨fun i _ hi q => ?_, fun _ q => ⟨xs, ys, q.1, q.2, by omega⟩, fun i H v H' _ q y => ?_⟩
  · have h1 : i < xs.length := by omega
    have h2 : i < ys.length := by omega
    exact ⟨xs, ys, xs[i], ys[i], q.1, q.2, by simp [h1], by simp [h2]⟩
  · obtain ⟨T, x, z, h1, h2, h3, h4, h5⟩ := y
    exact ⟨T, x, z, h1, h2, h3, h4 xs q.1, h5 ys q.2⟩
theorem walk_revT {K : PySem.W.Frag} {a : Addr} {xs : List V} : Walk (RT.ItvT K a xs.length) xs.length (fun H => SqT K H a xs) (fun i H x H' => H' = H ∧ xs[xs.length - 1 - i]? = some x) :=
  ⟨fun i _ hi q => ⟨hi, xs, xs[xs.length - 1 - i]'(by omega), q, by simp [show xs.length - 1 - i < xs.length by omega]⟩, fun _ _ => Nat.le_refl _, fun _ _ _ _ _ q y => ⟨y.1, y.2 xs q⟩⟩
theorem s_zip (S : SX X W ca c F k) {rec : Expr → Ex} (ih : ∀ e, SE X W ca fz F e (rec e)) {tg a b : Expr} {p p2 : Pos} (hg : c.sc.lookup (Str.ofString "zip") = some .globalImplicit) (hs1 : noStar a = true) (hs2 : noStar b = true) (ht : isTupE tg = true) :
    PI X tg (.Call (.Name (Str.ofString "zip") p) [a, b] [] p2) (ti X.K ca W (evI F (.zip (mkExs ([a, b].map rec))))) := by
  obtain ⟨elts, kk, tpos, rfl⟩ : ∃ elts kk tpos, tg = .Tuple elts kk tpos := by
    cases tg <;> first | exact ⟨_, _, _, rfl⟩ | (simp [isTupE] at ht; done)
  have hm : X.mg (Str.ofString "zip") = none := S.blt _ (by decide)
  have ha := s_args (es := [a, b]) (fun e => (ih e).v) (by simp [hs1, hs2])
  refine PI.imp (RZ.pi_zipA (S.glb _ hg) hm ha (star_cons hs1) (star_any (es := [b]) (by simp [hs2]))) fun σ H R q => ?_
  have out := sts_out (m := evs F (mkExs ([a, b].map rec))) (f := fun xs h => DI.R.opt (zipD h xs) h) (Q := R) (Rel := WalkD X.K ca) (by simpa only [evI] using q)
  refine tes_mono out fun xs H1 ⟨M, r, hp, ds, k1, k2, k3⟩ => ?_
  obtain ⟨es, e, k4⟩ := Post.opt k3
  have inM : ∀ a ∈ r, M a := k1.inM
  have go : ∀ J, WalkD X.K ca ⟨M, r, H1⟩ es J → R J H1 := fun J w => k4 ⟨M, r, H1⟩ J (Step.refl _) k1 w
  unfold zipD at e
  split at e
  · rename_i as bs
    cases e
    obtain ⟨v, w, rfl, rv, rw'⟩ := k2.two
    simp only [Rep] at rv rw'
    obtain ⟨pa, xs, rfl, ta, ra⟩ := rv
    obtain ⟨pb, ys, rfl, tb, rb⟩ := rw'
    refine ⟨pa, pb, xs, ys, rfl, .inr ⟨ta.sq, tb.sq, go _ ?_⟩⟩
    unfold WalkD
    show Walk _ (List.zipWith _ as bs).length _ _
    rw [List.length_zipWith, ← ra.length, ← rb.length]
    refine walk_zipT.mono (fun H ⟨M', r', hp', st, _⟩ => ⟨(ta.step (c' := ⟨M', r', H⟩) inM st).sq, (tb.step (c' := ⟨M', r', H⟩) inM st).sq⟩) fun i H x H' hi _ y => ?_
    obtain ⟨T, x, z, h1, h2, h3, h4, h5⟩ := y
    refine yd_pair h1 h2 h3 fun M r hp sr st _ => ⟨?_, ?_⟩
    · obtain ⟨d, ed, rd⟩ := ra.get' h4
      exact ⟨d, ed, rd.step inM st⟩
    · obtain ⟨d, ed, rd⟩ := rb.get' h5
      exact ⟨d, ed, rd.step inM st⟩
  · rename_i x y _
    split at e
    · rename_i as g1 bs g2 e1 e2
      cases e
      obtain ⟨v, w, rfl, rv, rw'⟩ := k2.two
      obtain ⟨pa, xs, rfl, qa, la, ga, _⟩ := lst_g k1 rv e1
      obtain ⟨pb, ys, rfl, qb, lb, gb, _⟩ := lst_g k1 rw' e2
      have lefts : ∀ {h : AH}, Gd (g1 ++ g2) h → Gd g1 h := fun g p hp => g p (List.mem_append_left _ hp)
      have rights : ∀ {h : AH}, Gd (g1 ++ g2) h → Gd g2 h := fun g p hp => g p (List.mem_append_right _ hp)
      refine ⟨pa, pb, xs, ys, rfl, .inl ⟨qa, qb, go _ ⟨fun i H hi ⟨M, r, hp, st, sr, gd⟩ => ?_, fun H ⟨M, r, hp, st, sr, gd⟩ => ?_, fun i H x H' hi _ y => ?_⟩⟩⟩
      · obtain ⟨xs, hq, rr⟩ := ga M r H hp st sr (lefts gd)
        obtain ⟨ys, hq2, rr2⟩ := gb M r H hp st sr (rights gd)
        have hi' : i < (List.zipWith (fun x y => D.tup [x, y]) as bs).length := hi
        rw [List.length_zipWith] at hi'
        have l1 := rr.length
        have l2 := rr2.length
        simp only at l1 l2
        have h1 : i < xs.length := by omega
        have h2 : i < ys.length := by omega
        exact ⟨xs, ys, xs[i], ys[i], hq, hq2, by simp [h1], by simp [h2]⟩
      · obtain ⟨xs, hq, rr⟩ := ga M r H hp st sr (lefts gd)
        obtain ⟨ys, hq2, rr2⟩ := gb M r H hp st sr (rights gd)
        have l1 := rr.length
        have l2 := rr2.length
        refine ⟨xs, ys, hq, hq2, ?_⟩
        show xs.length ≤ (List.zipWith (fun x y => D.tup [x, y]) as bs).length ∨ ys.length ≤ (List.zipWith (fun x y => D.tup [x, y]) as bs).length
        rw [List.length_zipWith]
        simp only at l1 l2
        omega
      · obtain ⟨T, x, z, h1, h2, h3, h4, h5⟩ := y
        refine yd_pair h1 h2 h3 fun M r hp sr st gd => ⟨?_, ?_⟩
        · obtain ⟨xs, hq, rr⟩ := ga M r H hp st sr (lefts gd)
          exact rr.get' (h4 xs hq)
        · obtain ⟨ys, hq, rr⟩ := gb M r H hp st sr (rights gd)
          exact rr.get' (h5 ys hq)
    · cases e
  · cases e
theorem s_rev (S : SX X W ca c F k) {tg a : Expr} {x : Ex} {p p2 : Pos} (ha : SE X W ca fz F a x) (hg : c.sc.lookup (Str.ofString "reversed") = some .globalImplicit) (hs1 : noStar a = true) :
    PI X tg (.Call (.Name (Str.ofString "reversed") p) [a] [] p2) (ti X.K ca W (evI F (.rev x))) := by
  have hm : X.mg (Str.ofString "reversed") = none := S.blt _ (by decide)
  refine PI.imp (RT.pi_revA (S.glb _ hg) hm ha.v (star_cons hs1)) fun σ H R q => ?_
  have q1 := te_1 (m := ev F x) (f := fun d _ h => DI.R.opt (revD h d) h) (fun s h => by simp only [evI]) q
  refine tes_mono q1 fun v H1 q2 => ?_
  obtain ⟨M, r, hp, sd, d, h1, h2, h3, h4⟩ := on1_out q2
  obtain ⟨ds, e, h5⟩ := Post.opt h4
  have go : ∀ J, WalkD X.K ca ⟨M, r, H1⟩ ds J → R J H1 := fun J w => h5 ⟨M, r, H1⟩ J (Step.refl _) h1 w
  have inM : ∀ a ∈ r, M a := h1.inM
  have back : ∀ {c0 : Cf} {as : List D} {xs : List V} {i : Nat} {y : V}, Reps X.K c0 as xs → i < xs.length → xs[xs.length - 1 - i]? = some y → ∃ d, as.reverse[i]? = some d ∧ Rep X.K c0 d y := fun {c0 as xs i y} ra hi e => by
    obtain ⟨d, ed, rd⟩ := ra.get' e
    refine ⟨d, ?_, rd⟩
    rw [List.getElem?_reverse (by rw [← ra.length]; exact hi), ← ra.length]
    exact ed
  have lists : ∀ {p : Src} {a : Addr} {n : Nat}, n = p.1.length → LstG X.K ca ⟨M, r, H1⟩ p a → WalkD X.K ca ⟨M, r, H1⟩ (p.1.reverse, p.2) (Itv X.K a n) := fun {p a n} hn l => by
    subst hn
    have hl : p.1.reverse.length = p.1.length := List.length_reverse
    refine ⟨fun i H hi ⟨M, r, hp, st, sr, gd⟩ => ?_, fun H _ => ?_, fun i H x H' hi _ y M r hp sr st gd => ?_⟩
    · have hi' : i < p.1.reverse.length := hi
      obtain ⟨xs, hq, rr⟩ := l M r H hp st sr gd
      have h1 : p.1.length - 1 - i < xs.length := by rw [rr.length]; omega
      exact ⟨by omega, xs, xs[p.1.length - 1 - i], hq, by simp [h1]⟩
    · show p.1.length ≤ p.1.reverse.length
      omega
    · have hi' : i < p.1.reverse.length := hi
      obtain ⟨xs, hq, rr⟩ := l M r H hp st sr gd
      obtain ⟨rfl, hy⟩ := y
      have e1 := hy xs hq
      rw [← rr.length] at e1
      obtain ⟨d, ed, rd⟩ := back rr (by rw [rr.length]; omega) e1
      exact ⟨d, M, r, ed, Step.refl _, sr, rd⟩
  have listL : (asG hp d).map (fun p => (p.1.reverse, p.2)) = some ds → ∃ a xs, v = .ref a ∧ ((SqL X.K H1 a xs ∧ R (Itv X.K a xs.length) H1) ∨ (SqT X.K H1 a xs ∧ R (RT.ItvT X.K a xs.length) H1)) := fun e => by
    obtain ⟨p, e1, rfl⟩ := Option.map_eq_some_iff.mp e
    obtain ⟨a, xs, rfl, hq, hl, lg, _⟩ := lst_g h1 h3 e1
    exact ⟨a, xs, rfl, .inl ⟨hq, go _ (lists hl lg)⟩⟩
  cases d with
  | tup as =>
    cases e
    simp only [Rep] at h3
    obtain ⟨p, xs, rfl, t, ra⟩ := h3
    refine ⟨p, xs, rfl, .inr ⟨t.sq, go _ ?_⟩⟩
    unfold WalkD
    show Walk _ as.reverse.length _ _
    rw [List.length_reverse, ← ra.length]
    refine (walk_revT (K := X.K) (a := p) (xs := xs)).mono (fun H ⟨M', r', hp', st, _⟩ => (t.step (c' := ⟨M', r', H⟩) inM st).sq) fun i H x H' hi _ y => ?_
    obtain ⟨d, ed, rd⟩ := back ra hi y.2
    exact yd_same inM y.1 ed rd
  | lst as => exact listL e
  | ref n => exact listL e
  | scr ns =>
    cases e
    simp only [Rep] at h3
    obtain ⟨p, rfl, t⟩ := h3
    have := lists (p := (ns.map D.int, [])) (a := p) (n := (ns.map V.int).length) (by simp) (fun M' r' H' hp' st _ _ => ⟨_, (t.step (c' := ⟨M', r', H'⟩) inM st).sq, scr_reps ns⟩)
    exact ⟨p, _, rfl, .inl ⟨t.sq, go _ this⟩⟩
  | _ => simp [revD, asG] at e
theorem rng_out' {e : Expr} {es : List Expr} (he : isRng c e = some es) : ∃ p p2, e = .Call (.Name (Str.ofString "range") p) es [] p2 ∧ c.sc.lookup (Str.ofString "range") = some .globalImplicit ∧ es.all noStar = true ∧ (es.length = 1 ∨ es.length = 2) := by
  unfold isRng at he
  split at he
  · split at he
    · rename_i hx
      cases he
      simp only [Bool.and_eq_true, beq_iff_eq, Bool.or_eq_true] at hx
      obtain ⟨⟨⟨h1, h2⟩, h3⟩, h4⟩ := hx
      rename_i x p p2
      have hx' : x = Str.ofString "range" := h1
      subst hx'
      exact ⟨p, p2, rfl, h2, h3, h4⟩
    · cases he
  · cases he
theorem s_rrng (S : SX X W ca c F k) {rec : Expr → Ex} (ih : ∀ e, SE X W ca fz F e (rec e)) {tg a : Expr} {es : List Expr} {p p2 : Pos} (hg : c.sc.lookup (Str.ofString "reversed") = some .globalImplicit) (hs1 : noStar a = true) (he : isRng c a = some es) :
    PI X tg (.Call (.Name (Str.ofString "reversed") p) [a] [] p2) (ti X.K ca W (evI F (.rrng (es.length == 2) (mkExs (es.map rec))))) := by
  have hm : X.mg (Str.ofString "reversed") = none := S.blt _ (by decide)
  obtain ⟨p3, p4, rfl, h2, h3, h4⟩ := rng_out' he
  have hgr := S.glb _ h2
  have hmr : X.mg (Str.ofString "range") = none := S.blt _ (by decide)
  match es, h4 with
  | [], h4 => simp at h4
  | [e], h4 =>
    simp only [List.all_cons, Bool.and_eq_true] at h3
    refine PI.imp (pi_revR (S.glb _ hg) hm (prg_1 hgr hmr (ih e).v (star_cons h3.1)) (star_cons hs1)) fun σ H R q => ?_
    have q1 := te_1 (m := ev F (rec e)) (f := fun d s h => DI.R.opt ((rngD false [d]).map fun ds => (ds.reverse, [])) h) (fun s h => by
      simp only [List.map_cons, List.map_nil, mkExs, evI, evs]
      cases ev F (rec e) s h <;> rfl) q
    refine tes_mono q1 fun v H1 q2 => ?_
    obtain ⟨M, r, hp, sd, d, k1, k2, k3, k4⟩ := on1_out q2
    obtain ⟨ds0, e0, k5⟩ := Post.opt k4
    obtain ⟨ds, e1, rfl⟩ := Option.map_eq_some_iff.mp e0
    unfold rngD at e1
    split at e1
    · rename_i j _ hj0
      cases hj0
      split at e1
      · rename_i hj
        cases e1
        refine ⟨j, int_of k3, by omega, by omega, by omega, by omega, ?_⟩
        refine k5 ⟨M, r, H1⟩ _ (Step.refl _) k1 ?_
        have := wd_rrange (K := X.K) (ca := ca) (c0 := ⟨M, r, H1⟩) (lo := 0) (n := (j - 0).toNat) k1.inM
        simpa using this
      · cases e1
    · rename_i hh
      cases hh
    · cases e1
  | [e, f], h4 =>
    simp only [List.all_cons, Bool.and_eq_true] at h3
    refine PI.imp (pi_revR (S.glb _ hg) hm (prg_2 hgr hmr (ih e).v (ih f).v (by rw [star_cons h3.1]) (star_cons h3.2.1) (star_any (es := [f]) (by simp [h3.2.1]))) (star_cons hs1)) fun σ H R q => ?_
    have q1 := te_1 (m := ev F (rec e)) (f := fun d s h => (ev F (rec f) s h).bind fun d2 h => DI.R.opt ((rngD true [d, d2]).map fun ds => (ds.reverse, [])) h) (fun s h => by
      simp only [List.map_cons, List.map_nil, mkExs, evI, evs]
      cases ev F (rec e) s h with
      | ok x h' =>
        simp only [DI.R.bind_ok]
        cases ev F (rec f) s h' <;> rfl
      | exc _ _ => rfl
      | bad => rfl) q
    refine tes_mono q1 fun v H1 q2 => ?_
    have q3 := te_2 (m := ev F (rec f)) (g := fun d e s h => DI.R.opt ((rngD true [d, e]).map fun ds => (ds.reverse, [])) h) (fun d s h => rfl) q2
    refine tes_mono q3 fun w H2 q4 => ?_
    obtain ⟨M, r, hp, sd, d, d2, k1, k2, k3, k3', k4⟩ := on2_out q4
    obtain ⟨ds0, e0, k5⟩ := Post.opt k4
    obtain ⟨ds, e1, rfl⟩ := Option.map_eq_some_iff.mp e0
    unfold rngD at e1
    split at e1
    · rename_i hh
      cases hh
    · rename_i i j _ hj0
      cases hj0
      split at e1
      · rename_i hj
        cases e1
        refine ⟨i, j, int_of k3, int_of k3', by omega, by omega, by omega, by omega, ?_⟩
        exact k5 ⟨M, r, H2⟩ _ (Step.refl _) k1 (wd_rrange (K := X.K) (ca := ca) (c0 := ⟨M, r, H2⟩) (lo := i) (n := (j - i).toNat) k1.inM)
      · cases e1
    · cases e1
  | _ :: _ :: _ :: _, h4 => simp at h4
theorem s_it (S : SX X W ca c F k) {rec : Expr → Ex} (ih : ∀ e, SE X W ca fz F e (rec e)) (tg e : Expr) : PI X tg e (ti X.K ca W (evI F (cIx c rec tg e))) := by
  unfold cIx
  split
  · rename_i es he
    unfold isRng at he
    split at he
    · rename_i x p es' p2
      split at he
      · rename_i hx
        cases he
        simp only [Bool.and_eq_true, beq_iff_eq, Bool.or_eq_true] at hx
        obtain ⟨⟨⟨h1, h2⟩, h3⟩, h4⟩ := hx
        have hx' : x = Str.ofString "range" := h1
        subst hx'
        have hg := S.glb _ h2
        have hm : X.mg (Str.ofString "range") = none := S.blt _ (by decide)
        have ha := s_args (fun e => (ih e).v) h3
        have out : ∀ {two : Bool} {σ : L2.St} {H : Hp} {R : It → Hp → Prop}, ti X.K ca W (evI F (.rng two (mkExs (es.map rec)))) σ H R → tas X.K ca W (evs F (mkExs (es.map rec))) σ H fun xs H1 =>
            ∃ M r hp ds, SR X.K ca ⟨M, r, H1⟩ hp ∧ Reps X.K ⟨M, r, H1⟩ ds xs ∧ Post X.K ca W (WalkD X.K ca) σ ⟨M, r, H1⟩ (DI.R.opt ((rngD two ds).map fun ds => (ds, [])) hp) R := fun {two σ H R} q =>
          sts_out (m := evs F (mkExs (es.map rec))) (f := fun xs h => DI.R.opt ((rngD two xs).map fun ds => (ds, [])) h) (by simpa only [evI] using q)
        match es, h4 with
        | [], h4 => simp at h4
        | [a], h4 =>
            simp only [List.all_cons, Bool.and_eq_true] at h3
            refine PI.imp (pi_range1 hg hm ha (star_cons h3.1)) fun σ H R q => tes_mono (out q) fun xs H1 ⟨M, r, hp, ds, k1, k2, k3⟩ => ?_
            obtain ⟨es0, e0, k4⟩ := Post.opt k3
            obtain ⟨es, e, rfl⟩ := Option.map_eq_some_iff.mp e0
            unfold rngD at e
            split at e
            · rename_i j _
              split at e
              · rename_i hj
                cases e
                obtain ⟨v, rfl, rv⟩ := k2.one
                refine ⟨j, by rw [int_of rv], by omega, by omega, k4 ⟨M, r, H1⟩ _ (Step.refl _) k1 ?_⟩
                have := wd_range (K := X.K) (ca := ca) (c0 := ⟨M, r, H1⟩) (lo := 0) (n := j.toNat) k1.inM
                simpa using this
              · cases e
            · exact absurd ‹([a].length == 2) = true› (by simp)
            · cases e
        | [a, b], h4 =>
            simp only [List.all_cons, Bool.and_eq_true] at h3
            refine PI.imp (pi_range2 hg hm ha (by rw [star_cons h3.1, star_cons h3.2.1]; rfl) (star_cons h3.2.1)) fun σ H R q => tes_mono (out q) fun xs H1 ⟨M, r, hp, ds, k1, k2, k3⟩ => ?_
            obtain ⟨es0, e0, k4⟩ := Post.opt k3
            obtain ⟨es, e, rfl⟩ := Option.map_eq_some_iff.mp e0
            unfold rngD at e
            split at e
            · exact absurd ‹([a, b].length == 2) = false› (by simp)
            · rename_i i j _
              split at e
              · rename_i hj
                cases e
                obtain ⟨v, w, rfl, rv, rw'⟩ := k2.two
                refine ⟨i, j, by rw [int_of rv, int_of rw'], ⟨by omega, by omega, by omega, by omega⟩, k4 ⟨M, r, H1⟩ _ (Step.refl _) k1 (wd_range k1.inM)⟩
              · cases e
            · cases e
        | _ :: _ :: _ :: _, h4 => simp at h4
      · cases he
    · cases he
  · split
    · rename_i a b hz
      obtain ⟨p, p2, rfl, hg, hs1, hs2⟩ := zip_out hz
      split
      · rename_i ht
        exact s_zip S ih hg hs1 hs2 ht
      · exact ⟨fun pins s σ H R I q => (by
          obtain ⟨M, r, hp, sd, ds, h1, h2, h3, h4⟩ := q
          simp only [evI] at h4
          exact h4.elim)⟩
    · split
      · rename_i a hr
        obtain ⟨p, p2, rfl, hg, hs1⟩ := rev_out hr
        split
        · rename_i es he
          exact s_rrng S ih hg hs1 he
        · exact s_rev S (ih a) hg hs1
      · exact s_any (ih e)

/-! targets -/
def gTs : List Nat → TGs
  | [] => gNil
  | i :: is => gCons (gName i) (gTs is)
def tgG (K : PySem.W.Frag) : Tg → TG
  | .nm i => gName i
  | .tp is => gTup K is.length (gTs is)
theorem nm_out {t : Expr} {i : Nat} (h : tgNm c t = some i) : ∃ x p, t = .Name x p ∧ (c.sc.lookup x = some .local ∨ c.sc.lookup x = some .cell) ∧ ixOf x c.N 0 = some i ∧ c.hot = false := by
  unfold tgNm at h
  split at h
  · rename_i x p
    split at h
    · rename_i hx
      simp only [Bool.and_eq_true, Bool.or_eq_true, beq_iff_eq, Bool.not_eq_true'] at hx
      exact ⟨x, p, rfl, hx.1, h, hx.2⟩
    · cases h
  · cases h
theorem nms_out (S : SX X W ca c F k) : ∀ {ts : List Expr} {is : List Nat}, tgNms c ts = some is → PGs X ts (gTs is) ∧ (assignEach ts X.env).length = is.length ∧ (assignEach ts X.env).findIdx? (·.1) = none
  | [], is, h => by
    cases h
    exact ⟨pgs_nil, rfl, rfl⟩
  | t :: ts, is, h => by
    unfold tgNms at h
    split at h
    · rename_i i is' e1 e2
      cases h
      obtain ⟨x, p, rfl, hx, hi, _⟩ := nm_out e1
      obtain ⟨l1, l2⟩ := S.sto x hx
      obtain ⟨h1, h2, h3⟩ := nms_out S e2
      refine ⟨pgs_cons (pg_name (by rw [S.N]; exact S.nd) (by rw [S.N]; exact ixOf_get0 hi) l1 l2) h1 rfl, ?_, ?_⟩
      · show (assignEach ts X.env).length + 1 = _
        rw [h2]; rfl
      · show List.findIdx? (·.1) ((false, assign (.Name x p) X.env) :: assignEach ts X.env) = none
        rw [List.findIdx?_cons, h3]
        rfl
    · cases h
theorem s_tg (S : SX X W ca c F k) (hh : c.hot = false) {t : Expr} {g : Tg} (h : cTg c t = some g) : PG X t (tgG X.K g) := by
  unfold cTg at h
  split at h
  · rename_i es kx p
    obtain ⟨is, e, rfl⟩ := Option.map_eq_some_iff.mp h
    obtain ⟨h1, h2, h3⟩ := nms_out S e
    exact pg_tup (S.calm hh) h1 h2 h3
  · obtain ⟨i, e, rfl⟩ := Option.map_eq_some_iff.mp h
    obtain ⟨x, p, rfl, hx, hi, _⟩ := nm_out e
    obtain ⟨l1, l2⟩ := S.sto x hx
    exact pg_name (by rw [S.N]; exact S.nd) (by rw [S.N]; exact ixOf_get0 hi) l1 l2
end
theorem wipe_set {σ : L2.St} {i : Nat} {o : Option V} : ∀ {vs : List Nat}, i ∈ vs → wipe (σ.set i o) vs = wipe σ vs := by
  intro vs
  have comm : ∀ (vs : List Nat) (σ : L2.St) (i : Nat), (wipe σ vs).set i none = wipe (σ.set i none) vs := by
    intro vs
    induction vs with
    | nil => intro σ i; rfl
    | cons v vs ih =>
      intro σ i
      simp only [wipe]
      by_cases h : v = i
      · subst h
        rw [ih]
      · rw [List.set_comm _ _ h, ih]
  induction vs generalizing σ with
  | nil => intro h; cases h
  | cons v vs ih =>
    intro h
    simp only [wipe]
    by_cases e : i = v
    · subst e
      rw [comm, comm, List.set_set]
    · rcases List.mem_cons.mp h with z | z
      · exact absurd z e
      · rw [ih z]
theorem wipe_idem {σ : L2.St} {vs : List Nat} : wipe (wipe σ vs) vs = wipe σ vs := by
  have : ∀ (us : List Nat), (∀ u ∈ us, u ∈ vs) → wipe (wipe σ us) vs = wipe σ vs := by
    intro us
    induction us with
    | nil => intro _; rfl
    | cons u us ih =>
      intro h
      simp only [wipe]
      rw [wipe_set (h u (by simp)), ih fun x hx => h x (by simp [hx])]
  exact this vs fun _ h => h
section
variable {K : PySem.W.Frag} {ca : CA}
theorem sets_out {M : Addr → Prop} {r : List Addr} {H : Hp} : ∀ {is : List Nat} {ds : List D} {xs : List V} {sd s1 : Sl} {σ : L2.St} {Q : L2.St → Hp → Prop}, (∀ i, ca.free i) → RepS K ca ⟨M, r, H⟩ sd σ → Reps K ⟨M, r, H⟩ ds xs → sets sd is ds = some s1 →
    (∀ σ1, RepS K ca ⟨M, r, H⟩ s1 σ1 → (∀ vs, (∀ i ∈ is, i ∈ vs) → wipe σ1 vs = wipe σ vs) → Q σ1 H) → xs.length = is.length ∧ gTs is xs σ H Q
  | [], ds, xs, sd, s1, σ, Q, fr, h1, h2, e, q => by
    cases ds with
    | nil =>
      cases e
      simp only [Reps] at h2
      subst h2
      exact ⟨rfl, rfl, q σ h1 fun _ _ => rfl⟩
    | cons d ds => cases e
  | i :: is, ds, xs, sd, s1, σ, Q, fr, h1, h2, e, q => by
    cases ds with
    | nil => cases e
    | cons d ds =>
      simp only [Reps] at h2
      obtain ⟨x, r', rfl, rx, rr⟩ := h2
      obtain ⟨l, g⟩ := sets_out (Q := Q) fr (h1.set (fr i) rx) rr e fun σ1 rs w => q σ1 rs fun vs hv => by
        rw [w vs fun j hj => hv j (by simp [hj]), wipe_set (hv i (by simp))]
      exact ⟨by simp [l], x, r', rfl, g⟩
theorem asg_out {M : Addr → Prop} {r : List Addr} {H : Hp} {g : Tg} {d : D} {v : V} {sd s1 : Sl} {σ : L2.St} {Q : L2.St → Hp → Prop} (fr : ∀ i, ca.free i) (h1 : RepS K ca ⟨M, r, H⟩ sd σ) (h2 : Rep K ⟨M, r, H⟩ d v) (e : asg g d sd = some s1)
    (q : ∀ σ1, RepS K ca ⟨M, r, H⟩ s1 σ1 → (∀ vs, (∀ i ∈ g.ixs, i ∈ vs) → wipe σ1 vs = wipe σ vs) → Q σ1 H) : tgG K g v σ H Q := by
  cases g with
  | nm i =>
    cases e
    exact q _ (h1.set (fr i) h2) fun vs hv => wipe_set (hv i (by simp [Tg.ixs]))
  | tp is =>
    simp only [asg] at e
    split at e
    · simp only [Rep] at h2
      obtain ⟨a, xs, rfl, t, rr⟩ := h2
      obtain ⟨l, g⟩ := sets_out fr h1 rr e q
      exact ⟨a, xs, rfl, t.sq, l, g⟩
    · cases e
end
end
end DI
set_option Elab.async false
set_option linter.all false
set_option maxRecDepth 100000
namespace DI
open PySem PySem.Spec PyProof.Rows L2
noncomputable section

/-! ## 10b. comprehensions -/
section
variable {K : PySem.W.Frag} {ca : CA} {c c' : Cf}
/-- where the same stands -/
structure Rl (c c' : Cf) : Prop where
  obj : ∀ a o, ¬ c.M a → c.H a = some o → ¬ c'.M a ∧ c'.H a = some o
  ref : ∀ (n : Nat) a, c.r[n]? = some a → c'.r[n]? = some a
theorem TupAt.rl {a : Addr} {xs : List V} (s : Rl c c') (h : TupAt K c a xs) : TupAt K c' a xs := s.obj a _ h.1 h.2
theorem ScrAt.rl {a : Addr} {xs : List V} (s : Rl c c') (h : ScrAt K c a xs) : ScrAt K c' a xs := by
  rcases h with ⟨n, o, h⟩ | h
  · exact .inl ⟨(s.obj a _ n h).1, o, (s.obj a _ n h).2⟩
  · exact .inr h
mutual
theorem Rep.rl (s : Rl c c') : ∀ (d : D) (v : V), Rep K c d v → Rep K c' d v
  | .non, _, h => h
  | .bl _, _, h => h
  | .int _, _, h => h
  | .str _, _, h => h
  | .tup ds, v, h => by
    simp only [Rep] at h ⊢
    obtain ⟨a, xs, e, t, q⟩ := h
    exact ⟨a, xs, e, t.rl s, Reps.rl s ds xs q⟩
  | .lst ds, v, h => by
    simp only [Rep] at h ⊢
    obtain ⟨a, xs, e, n, t, q⟩ := h
    exact ⟨a, xs, e, (s.obj a _ n t).1, (s.obj a _ n t).2, Reps.rl s ds xs q⟩
  | .scr ns, v, h => by
    simp only [Rep] at h ⊢
    obtain ⟨a, e, t⟩ := h
    exact ⟨a, e, t.rl s⟩
  | .ref n, v, h => by
    simp only [Rep] at h ⊢
    obtain ⟨a, e, t⟩ := h
    exact ⟨a, e, s.ref n a t⟩
theorem Reps.rl (s : Rl c c') : ∀ (ds : List D) (xs : List V), Reps K c ds xs → Reps K c' ds xs
  | [], _, h => h
  | d :: ds, xs, h => by
    simp only [Reps] at h ⊢
    obtain ⟨x, r, e, h1, h2⟩ := h
    exact ⟨x, r, e, Rep.rl s d x h1, Reps.rl s ds r h2⟩
end
theorem RepO.rl {o : Ob} {a : Addr} (s : Rl c c') (hk : c'.H a = c.H a) (h : RepO K ca.cls c o a) : RepO K ca.cls c' o a := h.mono hk fun d v z => z.rl s
theorem RepS.wipes {sd : Sl} {σ : L2.St} (fr : ∀ i, ca.free i) (h : RepS K ca c sd σ) : ∀ vs, RepS K ca c (wipes sd vs) (wipe σ vs)
  | [] => h
  | v :: vs => by
    obtain ⟨⟨h1, h2⟩, h3⟩ := RepS.wipes fr h vs
    refine ⟨⟨by simp only [DI.wipes, wipe, List.length_set, h1], fun i d e => ?_⟩, h3.set (fr v)⟩
    simp only [DI.wipes, wipe] at e ⊢
    by_cases hv : v = i
    · subst hv
      rw [List.getElem?_set] at e
      simp only [if_true] at e
      split at e <;> cases e
    · rw [List.getElem?_set_ne hv] at e ⊢
      exact h2 i d e
end
/-- the growing list at D stands in M, not in r -/
structure Gr (K : PySem.W.Frag) (ca : CA) (c1 : Cf) (D : Addr) (c : Cf) (hp : AH) (accD : List DI.D) : Prop where
  M : c.M D
  r : D ∉ c.r
  at_ : ∃ acc, c.H D = some (.lst acc) ∧ Reps K c accD acc
  st : Step c1 c
  sr : SR K ca c hp
section
variable {K : PySem.W.Frag} {ca : CA} {c1 : Cf} {hp : AH} {D : Addr} {accD : List DI.D}
theorem Gr.start (sr : SR K ca c1 hp) (hD : c1.H D = none) : Gr K ca c1 D ⟨fun a => c1.M a ∨ a = D, c1.r, upd c1.H D (.lst [])⟩ hp [] := by
  have nr : D ∉ c1.r := fun m => sr.alloc D (sr.inM D m) hD
  have st : Step c1 ⟨fun a => c1.M a ∨ a = D, c1.r, upd c1.H D (.lst [])⟩ := by
    refine ⟨fun _ _ h => h, fun _ h => .inl h, fun a h => ?_, fun n a h l => ?_, fun a o h _ => ?_, fun a h => ?_⟩
    · rcases h with h | h
      · exact .inl h
      · subst h; exact .inr hD
    · have z : n < c1.r.length := (List.getElem?_eq_some_iff.mp h).1
      exact absurd z (Nat.not_lt.mpr l)
    · show upd c1.H D _ a = _
      rw [upd_ne (ne_of_none h hD)]; exact h
    · show upd c1.H D _ a ≠ none
      unfold upd
      split
      · simp
      · exact h
  refine ⟨.inr rfl, nr, ⟨[], upd_same, by simp only [Reps]⟩, st, sr.len, sr.nd, fun a m => .inl (sr.inM a m), fun a m => ?_, fun i a o e1 e2 => ?_⟩
  · rcases m with m | m
    · obtain ⟨o, e, n⟩ := sr.ally a m
      exact ⟨o, (upd_ne (ne_of_none e hD)).trans e, n⟩
    · subst m
      exact ⟨_, upd_same, fun _ z => by cases z⟩
  · refine RepO.rl (c := c1) ⟨fun b o' n h => ?_, fun _ _ h => h⟩ ?_ (sr.objs i a o e1 e2)
    · have hb : b ≠ D := ne_of_none h hD
      exact ⟨fun m => m.elim n hb, by show upd c1.H D _ b = _; rw [upd_ne hb]; exact h⟩
    · show upd c1.H D _ a = _
      rw [upd_ne fun z => nr (by subst z; exact List.mem_of_getElem? e1)]
theorem Gr.step {c c' : Cf} {hp' : AH} (g : Gr K ca c1 D c hp accD) (s : Step c c') (sr : SR K ca c' hp') : Gr K ca c1 D c' hp' accD := by
  obtain ⟨acc, h, rr⟩ := g.at_
  exact ⟨s.mono D g.M, fun m => g.r (s.mem m (by rw [h]; simp)), ⟨acc, s.keep D _ h g.r, rr.step g.sr.inM s⟩, g.st.trans s, sr⟩
theorem Gr.push {M : Addr → Prop} {r : List Addr} {H : Hp} {d : DI.D} {y : V} {acc : List V} (g : Gr K ca c1 D ⟨M, r, H⟩ hp accD) (hD : c1.H D = none) (ha : H D = some (.lst acc)) (ry : Rep K ⟨M, r, H⟩ d y) : Gr K ca c1 D ⟨M, r, upd H D (.lst (acc ++ [y]))⟩ hp (accD ++ [d]) := by
  have rl : Rl ⟨M, r, H⟩ ⟨M, r, upd H D (.lst (acc ++ [y]))⟩ := ⟨fun b o n h => by
    have hb : b ≠ D := fun z => n (by subst z; exact g.M)
    exact ⟨n, by show upd H D _ b = _; rw [upd_ne hb]; exact h⟩, fun _ _ h => h⟩
  obtain ⟨acc', h, rr⟩ := g.at_
  have h' : H D = some (.lst acc') := h
  rw [ha] at h'
  cases h'
  refine ⟨g.M, g.r, ⟨_, upd_same, (rr.snoc ry).rl rl⟩, ?_, g.sr.len, g.sr.nd, g.sr.inM, fun a m => ?_, fun i a o e1 e2 => ?_⟩
  · refine ⟨g.st.pre, g.st.mono, g.st.fresh, g.st.newr, fun a o h n => ?_, fun a h => ?_⟩
    · show upd H D _ a = _
      rw [upd_ne (ne_of_none h hD)]; exact g.st.keep a o h n
    · show upd H D _ a ≠ none
      unfold upd
      split
      · simp
      · exact g.st.dom a h
  · by_cases z : a = D
    · subst z
      exact ⟨_, upd_same, fun _ z => by cases z⟩
    · obtain ⟨o, e, n⟩ := g.sr.ally a m
      exact ⟨o, (upd_ne z).trans e, n⟩
  · refine RepO.rl rl ?_ (g.sr.objs i a o e1 e2)
    show upd H D _ a = _
    rw [upd_ne fun z => g.r (by subst z; exact List.mem_of_getElem? e1)]
/-- the list is whole: nobody changes it any more, or it becomes one of the heap's -/
theorem Gr.done {W : WX} {σ : L2.St} {M : Addr → Prop} {r : List Addr} {H : Hp} {mu : Bool} {Q : VK} (g : Gr K ca c1 D ⟨M, r, H⟩ hp accD) (hD : c1.H D = none) (q : Post K ca W (Rep K) σ c1 (mkL mu (.lst accD) hp) Q) (sr1 : ∀ a, c1.M a → c1.H a ≠ none) : Q (.ref D) H := by
  obtain ⟨acc, h, rr⟩ := g.at_
  have h' : H D = some (.lst acc) := h
  cases mu with
  | false =>
    have rl : Rl ⟨M, r, H⟩ ⟨fun a => M a ∧ a ≠ D, r, H⟩ := ⟨fun b o n h => ⟨fun m => n m.1, h⟩, fun _ _ h => h⟩
    refine q ⟨fun a => M a ∧ a ≠ D, r, H⟩ (.ref D) ?_ ?_ ?_
    · exact ⟨g.st.pre, fun a m => ⟨g.st.mono a m, fun z => sr1 a m (by subst z; exact hD)⟩, fun a m => g.st.fresh a m.1, g.st.newr, g.st.keep, g.st.dom⟩
    · exact ⟨g.sr.len, g.sr.nd, fun a m => ⟨g.sr.inM a m, fun z => g.r (by subst z; exact m)⟩, fun a m => g.sr.ally a m.1, fun i a o e1 e2 => RepO.rl rl rfl (g.sr.objs i a o e1 e2)⟩
    · simp only [Rep]
      exact ⟨D, acc, rfl, fun m => m.2 rfl, h', rr.rl rl⟩
  | true =>
    have rl : Rl ⟨M, r, H⟩ ⟨M, r ++ [D], H⟩ := ⟨fun b o n h => ⟨n, h⟩, fun n a h => by
      show (r ++ [D])[n]? = some a
      rw [List.getElem?_append_left (List.getElem?_eq_some_iff.mp h).1]; exact h⟩
    have hl : r.length = hp.length := g.sr.len
    refine q ⟨M, r ++ [D], H⟩ (.ref D) ?_ ?_ ?_
    · refine ⟨fun n a h => rl.ref n a (g.st.pre n a h), g.st.mono, g.st.fresh, fun n a h l => ?_, g.st.keep, g.st.dom⟩
      have h2 : (r ++ [D])[n]? = some a := h
      by_cases hn : n < r.length
      · rw [List.getElem?_append_left hn] at h2
        exact g.st.newr n a h2 l
      · rw [List.getElem?_append_right (by omega)] at h2
        have := (List.getElem?_eq_some_iff.mp h2).1
        have e : n - r.length = 0 := by simp at this; omega
        rw [e] at h2
        simp at h2
        subst h2; exact hD
    · refine ⟨by simp [hl], ?_, fun a m => ?_, g.sr.ally, fun i a o e1 e2 => ?_⟩
      · show (r ++ [D]).Nodup
        rw [List.nodup_append]
        refine ⟨g.sr.nd, by simp, fun a ha b hb z => ?_⟩
        simp at hb
        subst hb; subst z; exact g.r ha
      · rcases List.mem_append.mp m with m | m
        · exact g.sr.inM a m
        · simp at m; subst m; exact g.M
      · have e1' : (r ++ [D])[i]? = some a := e1
        by_cases hi : i < r.length
        · rw [List.getElem?_append_left hi] at e1'
          rw [List.getElem?_append_left (by omega)] at e2
          exact RepO.rl rl rfl (g.sr.objs i a o e1' e2)
        · rw [List.getElem?_append_right (by omega)] at e1' e2
          have hi0 := (List.getElem?_eq_some_iff.mp e2).1
          have z : i - hp.length = 0 := by simp at hi0; omega
          have z' : i - r.length = 0 := by omega
          rw [z] at e2; rw [z'] at e1'
          simp at e1' e2
          subst e1' e2
          exact ⟨acc, h', rr.rl rl⟩
    · simp only [Rep]
      exact ⟨D, rfl, by rw [← hl]; simp⟩
end
def WN : WX := fun _ _ _ _ => False
theorem lc_out {K : PySem.W.Frag} {ca : CA} {W : WX} {F : FC} {mu : Bool} {vs : List Nat} {g : Tg} {it : Ix} {co : Op} {x : Ex} {σ : L2.St} {H : Hp} {Q : VK} (fr : ∀ i, ca.free i) (hv : ∀ i ∈ g.ixs, i ∈ vs) (q : te K ca W (ev F (.comp mu vs g it co x)) σ H Q) :
    tLc (ti K ca W (evI F it)) (tgG K g) (tes K ca WN beq' (fun _ => evC F co) []) (te K ca WN (ev F x)) vs σ H Q := by
  obtain ⟨M, r, hp, sd, ds0, h1, h2, h3, h4⟩ := q
  refine ⟨M, r, hp, sd, [], h1, h2, (by simp only [Reps]), ?_⟩
  simp only [ev] at h4
  show Post K ca W (WalkD K ca) σ _ (evI F it sd hp) _
  cases e : evI F it sd hp with
  | bad => rw [e] at h4; exact h4
  | exc e' h => rw [e] at h4; exact h4
  | ok dgs h =>
    rw [e] at h4
    obtain ⟨ds, gs⟩ := dgs
    intro c1 J st sr wk D hD
    have q1 := Post.step st h4
    simp only [R.bind_ok] at q1
    obtain ⟨M1, r1, H1⟩ := c1
    have hs1 := (h2.step h1.inM st).wipes fr vs
    have guard : ∀ {i : Nat} {hp : AH} {accD : List DI.D} {c : Cf}, Post K ca W (Rep K) σ c ((compG gs g (evC F co) (ev F x) (wipes sd vs) (ds.drop i) hp).quiet.bind fun ys h => @ite _ ((accD ++ ys).length ≤ 16777216) (Classical.propDecidable ((accD ++ ys).length ≤ 16777216)) (mkL mu (.lst (accD ++ ys)) h) (.bad)) Q → Gd gs hp := fun {i hp accD c} po => by
      cases e : ds.drop i with
      | nil =>
        rw [e, compG] at po
        split at po
        · assumption
        · exact po.elim
      | cons d r =>
        rw [e, compG] at po
        split at po
        · assumption
        · exact po.elim
    refine lc_it wk (fun i H => ∃ M r hp accD, Gr K ca ⟨M1, r1, H1⟩ D ⟨M, r, H⟩ hp accD ∧
      Post K ca W (Rep K) σ ⟨M1, r1, H1⟩ ((compG gs g (evC F co) (ev F x) (wipes sd vs) (ds.drop i) hp).quiet.bind fun ys h => @ite _ ((accD ++ ys).length ≤ 16777216) (Classical.propDecidable ((accD ++ ys).length ≤ 16777216)) (mkL mu (.lst (accD ++ ys)) h) (.bad)) Q) ?_ ?_ ?_ ?_
    · exact ⟨_, _, h, [], Gr.start sr hD, q1⟩
    · rintro i H hi ⟨M, r, hp, accD, gr, po⟩
      exact ⟨M, r, hp, gr.st, gr.sr, guard po⟩
    · rintro i y H H' hlt ⟨M, r, hp, accD, gr, po⟩ yd
      have gd := guard po
      obtain ⟨d, M', r', ed, s', sr', rd⟩ := yd M r hp gr.sr gr.st gd
      have gr' := gr.step s' sr'
      have hdrop : ds.drop i = d :: ds.drop (i + 1) := by
        rw [List.drop_eq_getElem_cons hlt]
        congr 1
        exact (List.getElem?_eq_some_iff.mp ed).2
      rw [hdrop, compG, if_pos gd] at po
      cases ea : asg g d (wipes sd vs) with
      | none => rw [ea] at po; exact po.elim
      | some s1 =>
        rw [ea] at po
        simp only at po
        refine asg_out fr (hs1.step sr.inM gr'.st) rd ea fun σ1 rs1 hw => ⟨(hw vs hv).trans wipe_idem, ?_⟩
        refine ⟨M', r', hp, s1, [], sr', rs1, (by simp only [Reps]), ?_⟩
        show Post K ca WN beq' σ1 _ (evC F co s1 hp) _
        cases ec : evC F co s1 hp with
        | bad => rw [ec] at po; exact po.elim
        | exc e' h' => rw [ec] at po; exact po.elim
        | ok b h' =>
          rw [ec] at po
          simp only [R.bind_ok] at po
          intro c2 b' st2 sr2 hb
          obtain rfl : b = b' := hb
          have gr2 := gr'.step st2 sr2
          obtain ⟨M2, r2, H2⟩ := c2
          cases b with
          | false =>
            simp only [Bool.false_eq_true, if_false]
            exact ⟨M2, r2, h', accD, gr2, po⟩
          | true =>
            simp only [if_true]
            refine ⟨M2, r2, h', s1, [], sr2, rs1.step sr'.inM st2, (by simp only [Reps]), ?_⟩
            show Post K ca WN (Rep K) σ1 _ (ev F x s1 h') _
            simp only at po
            cases ee : ev F x s1 h' with
            | bad => rw [ee] at po; exact po.elim
            | exc e' h'' => rw [ee] at po; exact po.elim
            | ok yD h'' =>
              rw [ee] at po
              simp only [R.bind_ok] at po
              intro c3 yv st3 sr3 ry
              have gr3 := gr2.step st3 sr3
              obtain ⟨M3, r3, H3⟩ := c3
              obtain ⟨acc, ha, rr⟩ := gr3.at_
              cases er : compG gs g (evC F co) (ev F x) (wipes sd vs) (ds.drop (i + 1)) h'' with
              | bad => rw [er] at po; exact po.elim
              | exc e' h3 => rw [er] at po; exact po.elim
              | ok ys h3 =>
                rw [er] at po
                simp only [R.bind_ok, R.quiet_ok] at po
                have hlen : acc.length < sizeLine := by
                  split at po
                  · rename_i hl
                    rw [rr.length, sz_eq]
                    simp at hl
                    omega
                  · exact po.elim
                refine ⟨acc, ha, hlen, M3, r3, h'', accD ++ [yD], gr3.push hD ha ry, ?_⟩
                have e : accD ++ [yD] ++ ys = accD ++ yD :: ys := by simp
                rw [er]
                simp only [R.bind_ok, R.quiet_ok]
                rw [e]
                exact po
    · rintro H ⟨M, r, hp, accD, gr, po⟩
      have gd := guard po
      have po : Post K ca W (Rep K) σ ⟨M1, r1, H1⟩ ((compG gs g (evC F co) (ev F x) (wipes sd vs) (ds.drop ds.length) hp).quiet.bind fun ys h => @ite _ ((accD ++ ys).length ≤ 16777216) (Classical.propDecidable ((accD ++ ys).length ≤ 16777216)) (mkL mu (.lst (accD ++ ys)) h) (.bad)) Q := po
      rw [List.drop_length, compG, if_pos gd] at po
      simp only [R.bind_ok, R.quiet_ok, List.append_nil] at po
      split at po
      · exact gr.done hD po sr.alloc
      · exact po.elim
end
end DI
set_option Elab.async false
set_option linter.all false
set_option maxRecDepth 100000
namespace DI
open PySem PySem.Spec PyProof.Rows L2
/-! list(range(..)) -/
def lrV (lo hi : Int) : List V := (List.range (hi - lo).toNat).map fun k => .int (lo + (k : Nat))
def tLR1 (ta : TA) : TE := fun σ H Q => ta σ H fun vs H1 => ∃ hi : Int, vs = [.int hi] ∧ (-(2 ^ 62) ≤ hi ∧ hi < 2 ^ 62) ∧ hi.toNat ≤ 16777216 ∧ ∀ q, H1 q = none → Q (.ref q) (upd H1 q (.lst (lrV 0 hi)))
def tLR2 (ta : TA) : TE := fun σ H Q => ta σ H fun vs H1 => ∃ lo hi : Int, vs = [.int lo, .int hi] ∧ (-(2 ^ 62) ≤ lo ∧ lo < 2 ^ 62 ∧ -(2 ^ 62) ≤ hi ∧ hi < 2 ^ 62) ∧ (hi - lo).toNat ≤ 16777216 ∧ ∀ q, H1 q = none → Q (.ref q) (upd H1 q (.lst (lrV lo hi)))
section
variable {X : Cx}
theorem vals_lr {lo : Int} : ∀ (n : Nat) {acc : Array Value}, PySem.ItemsOf (fun i v => ∃ t, v = Value.int (lo + i * 1) t) acc n → Vals ((List.range n).map fun k => V.int (lo + (k : Nat))) acc.toList := by
  intro n acc h
  have key : ∀ (l : List Value) (s : Nat), (∀ j v, l[j]? = some v → ∃ t, v = Value.int (lo + (s + j : Nat)) t) → Vals ((List.range' s l.length).map fun k => V.int (lo + (k : Nat))) l := by
    intro l
    induction l with
    | nil => intro s _; exact .nil
    | cons v l ih =>
      intro s hh
      rw [List.length_cons, List.range'_succ, List.map_cons]
      refine .cons ?_ (ih (s + 1) fun j v' e => ?_)
      · obtain ⟨t, e⟩ := hh 0 v rfl
        exact ⟨t, by rw [e]; simp⟩
      · obtain ⟨t, e'⟩ := hh (j + 1) v' (by simpa using e)
        exact ⟨t, by rw [e']; congr 2; omega⟩
  have hl : acc.toList.length = n := by rw [Array.length_toList, h.1]
  have := key acc.toList 0 fun j v e => by
    obtain ⟨t, e'⟩ := h.2 j v (by rw [← Array.getElem?_toList]; exact e)
    exact ⟨t, by rw [e']; simp⟩
  rw [hl] at this
  rw [List.range_eq_range']
  exact this
theorem lr_core {pins : List (Addr × Obj)} {σ : L2.St} {H : Hp} {s : Shared} {Q : VK} {lo hi : Int} {t u v : Tok} {tk : Nat} (hc : X.calm = true) (I : L2.Inv X pins σ H s) (h1 : -(2 ^ 62) ≤ lo) (h2 : lo < 2 ^ 62) (h3 : -(2 ^ 62) ≤ hi) (h4 : hi < 2 ^ 62)
    (h5 : (hi - lo).toNat ≤ 16777216) (q : ∀ q, H q = none → Q (.ref q) (upd H q (.lst (lrV lo hi)))) :
    wpAny (model X.prog X.w) X.A (PySem.call (.type "list") [.ref s.heap.objs.size]) (EP X pins σ Q) X.xe { s with heap := s.heap.push { cls := .type "range", data := .fields #[.int lo t, .int hi u, .int 1 v] }, toks := tk } := by
  have I1 : L2.Inv X pins σ H { s with heap := s.heap.push { cls := .type "range", data := .fields #[.int lo t, .int hi u, .int 1 v] }, toks := tk } := I.kept fun b o e => Heap.get?_push_of_some _ e
  refine PySem.call_list_range (n := (hi - lo).toNat) (I.ok.hd hc) (IsRange.new ..) (small_one h1 h2 h3 h4) (by rw [rangeSize_one]; split <;> omega) (by simpa using h5) fun h' tk' acc' c' hk hS hI => ?_
  have rv : Vals (lrV lo hi) acc'.toList := vals_lr _ hI
  have hz : (lrV lo hi).length ≤ sizeLine := by rw [sizeLine_eq]; simpa [lrV] using h5
  exact ⟨.ref _, _, I1.laid (t' := tk') hk (Nat.le_refl _) (show ObjOk X.prog X.w _ h' _ (.lst (lrV lo hi)) from ⟨hz, acc'.toList, c', rv, by simpa using hS⟩), rfl, q _ (I1.hok.fresh (Nat.le_refl _))⟩
theorem pe_lr1 {a : Expr} {ta : TA} {p p2 pos pos2 : Pos} (hc : X.calm = true) (hg : Gl X "list") (hm : X.mg "list" = none) (hg2 : Gl X "range") (hm2 : X.mg "range" = none) (ha : PA X [a] ta)
    (hs : starEach [a] X.env = [(false, eval a X.env)])
    (hs2 : starEach [.Call (.Name "range" p2) [a] [] pos2] X.env = (false, eval (.Call (.Name "range" p2) [a] [] pos2) X.env) :: starEach [] X.env := by rfl) :
    PE X (.Call (.Name "list" p) [.Call (.Name "range" p2) [a] [] pos2] [] pos) (tLR1 ta) := by
  refine ⟨fun pins s σ H Q I h => ?_⟩
  refine Call_ (ld_blt I hg hm PyProof.Rows.boot_list (PyProof.Rows.callWith_type1 (args_cons (Call_ (ld_blt I hg2 hm2 boot_range (PyProof.Rows.callWith_type1 (thn (ha.run pos2 pins s σ H _ I h) fun us s1 ⟨vs, H1, I1, r1, q1⟩ => ?_) hs rfl))) hs2) hs2 rfl))
  obtain ⟨hi, rfl, ⟨b1, b2⟩, b3, q⟩ := q1
  cases r1 with
  | cons r rr =>
    cases rr
    obtain ⟨t, rfl⟩ := r
    refine call_range_1 (args_nil ?_)
    exact lr_core hc I1 (by omega) (by omega) b1 b2 (by simpa using b3) q
theorem pe_lr2 {a b : Expr} {ta : TA} {p p2 pos pos2 : Pos} (hc : X.calm = true) (hg : Gl X "list") (hm : X.mg "list" = none) (hg2 : Gl X "range") (hm2 : X.mg "range" = none) (ha : PA X [a, b] ta)
    (hs : starEach [a, b] X.env = [(false, eval a X.env), (false, eval b X.env)]) (hs3 : starEach [b] X.env = [(false, eval b X.env)])
    (hs2 : starEach [.Call (.Name "range" p2) [a, b] [] pos2] X.env = (false, eval (.Call (.Name "range" p2) [a, b] [] pos2) X.env) :: starEach [] X.env := by rfl) :
    PE X (.Call (.Name "list" p) [.Call (.Name "range" p2) [a, b] [] pos2] [] pos) (tLR2 ta) := by
  refine ⟨fun pins s σ H Q I h => ?_⟩
  refine Call_ (ld_blt I hg hm PyProof.Rows.boot_list (PyProof.Rows.callWith_type1 (args_cons (Call_ (ld_blt I hg2 hm2 boot_range (PyProof.Rows.callWith_type1 (thn (ha.run pos2 pins s σ H _ I h) fun us s1 ⟨vs, H1, I1, r1, q1⟩ => ?_) (by rw [hs, hs3]) (by rw [hs3]; rfl)))) hs2) hs2 rfl))
  obtain ⟨lo, hi, rfl, ⟨b1, b2, b3, b4⟩, b5, q⟩ := q1
  cases r1 with
  | cons r rr =>
    cases rr with
    | cons r' rr =>
      cases rr
      obtain ⟨t, rfl⟩ := r
      obtain ⟨t', rfl⟩ := r'
      refine call_range_2 (args_nil ?_)
      exact lr_core hc I1 b1 b2 b3 b4 b5 q
end
end DI
set_option Elab.async false
set_option linter.all false
set_option maxRecDepth 100000
set_option maxHeartbeats 1000000
namespace DI
open PySem PySem.Spec PyProof.Rows L2 RT
open Sem (wp)
/-! list(..), tuple(..) of an iterator: reversed(list), reversed(tuple) -/
section
variable {prog : Program} {w : World} {A : Around} {E : Value → Shared → Prop} {s : Shared}
theorem norev_hint : typeLookup (.type "reversed") "__length_hint__" = pure (some (.builtin "reversed.__length_hint__")) := by rw [typeLookup_type, builtinLookup_eq_fast]; kernel_rfl
theorem nolen_rt : typeLookup (.type "reversed") "__len__" = pure none := by rw [typeLookup_type, builtinLookup_eq_fast]; kernel_rfl
theorem slot_rt_hint : Slot "reversed" "__length_hint__" "reversed.__length_hint__" :=
  .of (owner := "reversed") (n := "__length_hint__") (by rw [typeLookup_type, builtinLookup_eq_fast]; kernel_rfl) (by decide +kernel) (by decide +kernel) (by decide +kernel)
    (by first | exact .inl (by decide +kernel) | exact .inr (by decide +kernel)) (by rw [isSubtype_type]; kernel_rfl)
theorem entry_rt_hint : entryFor table "reversed.__length_hint__" = some Builtin.«reversed.__length_hint__» := entryFor_of_tree (by kernel_rfl)
theorem args_rt_hint (a : Value) : argsOk "reversed.__length_hint__" ⟨[a], []⟩ := by
  unfold argsOk; rw [signature?_of (id := "reversed.__length_hint__") (n := ['_', '_', 't', 'n', 'i', 'h', '_', 'h', 't', 'g', 'n', 'e', 'l', '_', '_']) (o := ['d', 'e', 's', 'r', 'e', 'v', 'e', 'r']) (by kernel_rfl) owner_rt]; kernel_rfl

/-- an iterator that list(..) and tuple(..) go through -/
structure ItOk (prog : Program) (w : World) (it : Addr) (n : Nat) (P : Nat → Value → Prop) (fp wr : List Addr) (St : Nat → Heap → Prop) (T : String) : Prop where
  ws : ∀ A : Around, A.handled = none → Walks prog w A it fp wr n P St
  mem : it ∈ fp
  ty : ∀ i (s : Shared), St i s.heap → s.TypeIs (.ref it) T
  hint : ∀ (A : Around) (E : Value → Shared → Prop) (s : Shared) (Q : Bool → Shared → Prop), A.handled = none → St 0 s.heap → (∀ b tk, Q b { s with toks := tk }) → wpAny (model prog w) A (Builtin.List.listLengthHint (.ref it)) Q E s
  nl : (Value.type T == Value.type "list") = false
  nt : (Value.type T == Value.type "tuple") = false
variable {it : Addr} {n : Nat} {P : Nat → Value → Prop} {fp wr : List Addr} {St : Nat → Heap → Prop} {T : String}

theorem extend_it {R : Result → Shared → Prop} (W : ItOk prog w it n P fp wr St T) (hh : A.handled = none) (hst : St 0 s.heap) (hn : n ≤ sizeLine) (S : Addr) (hSf : S ∉ fp) (res : Value) (c₀ : Nat)
    (hS : s.heap.get? S = some { cls := .type "list", data := .seq #[] c₀ })
    (hR : ∀ h' tk acc' c', (∀ b o, b ≠ S → b ∉ wr → s.heap.get? b = some o → h'.get? b = some o) → h'.get? S = some { cls := .type "list", dict := none, data := .seq acc' c', slots := #[] } →
      ItemsOf P acc' n → R (.ok (.ret res)) { s with heap := h', toks := tk }) :
    wpAny (model prog w) A.in1 (Builtin.List.listExtendWith (.ref S) (.ref it) res)
      (fun fin s' => match fin with | .done f => R (.ok f) s' | .again c' => c'.quiet = true ∧ codeAny (model prog w) A c' R s') (fun e s' => R (.error e) s') s := by
  have hSr : S ≠ it := fun e => hSf (e ▸ W.mem)
  have W0 := W.ws A.in1 hh
  have key : ∀ (h : Heap) (c₁ tk : Nat), St 0 h → (∀ b o, b ≠ S → s.heap.get? b = some o → h.get? b = some o) →
      h.get? S = some { cls := .type "list", data := .seq #[] c₁ } → codeAny (model prog w) A (.builtin "list.extend.loop" ⟨[.ref S, .ref it, res], []⟩) R { s with heap := h, toks := tk } := by
    intro h c₁ tk hit hk hS₁
    refine codeAny_extend_loopS W0.toS hn S hSf res n 0 _ #[] c₁ rfl (Nat.zero_le _) hit hS₁ (ItemsOf.nil _) fun s' acc' c' hm hS' hacc => ?_
    rw [Moved.eq_with hm]
    refine hR s'.heap s'.toks acc' c' (fun b o hb hw e => hm.heap b o (fun hmem => ?_) (hk b o hb e)) hS' hacc
    rcases List.mem_cons.mp hmem with e' | hmem
    · exact hb e'
    · exact hw hmem
  unfold Builtin.List.listExtendWith
  refine wpAny_bind (wpAny_typeOf (T := T) (W.ty 0 s hst) ?_)
  have h1 : Builtin.List.listSameRef (.ref S) (.ref it) = false := by simp [Builtin.List.listSameRef, hSr]
  have h2 := W.nl
  have h3 := W.nt
  simp only [h1, h2, h3, Bool.or_false, Bool.false_eq_true, if_false]
  refine wpAny_bind (W0.self 0 s _ _ hst ?_)
  refine wpAny_bind (wpAny_holding (W.hint _ _ _ _ hh hst fun b tk => ?_))
  refine wpAny_ite_split (fun _ => ?_) (fun _ => wpAny_pure ⟨plainId_quiet F.plain_extend_loop _, key _ c₀ _ hst (fun b o _ e => e) hS⟩)
  refine wpAny_bind (wpAny_rule ?_)
  refine wpAny_bind ?_
  show wpAny _ _ (updateSeq S (·.push .none) >>= fun _ => updateSeq S (·.pop)) _ _ _
  refine wpAny_bind (wpAny_updateSeq (s := { s with toks := tk }) hS rfl ?_)
  have hS₂ := Heap.get?_update_self (Obj.mapSeq (·.push Value.none)) hS rfl
  refine wpAny_updateSeq (s := { s with heap := s.heap.update S (Obj.mapSeq (·.push Value.none)), toks := tk }) (hz := by seq_fits) hS₂ rfl ?_
  have hS₃ := Heap.get?_update_self (Obj.mapSeq (·.pop)) hS₂ rfl
  refine wpAny_pure ⟨plainId_quiet F.plain_extend_loop _, key _ _ _ ?_ (fun b o hb e => ?_) hS₃⟩
  · refine W0.frame 0 _ _ hst fun b hb o e => ?_
    have hSI : b ≠ S := fun z => hSf (z ▸ hb)
    exact (Heap.get?_update_other _ _ (Ne.symm hSI)).trans ((Heap.get?_update_other _ _ (Ne.symm hSI)).trans e)
  · exact (Heap.get?_update_other _ _ (Ne.symm hb)).trans ((Heap.get?_update_other _ _ (Ne.symm hb)).trans e)

theorem list_init_it {R : Result → Shared → Prop} (W : ItOk prog w it n P fp wr St T) (hh : A.handled = none) (hst : St 0 s.heap) (hn : n ≤ sizeLine) (S : Addr) (hSf : S ∉ fp) (hS : s.heap.get? S = some { cls := .type "list", data := .seq #[] })
    (hR : ∀ h' tk acc' c', (∀ b o, b ≠ S → b ∉ wr → s.heap.get? b = some o → h'.get? b = some o) → h'.get? S = some { cls := .type "list", dict := none, data := .seq acc' c', slots := #[] } →
      ItemsOf P acc' n → R (.ok (.ret .none)) { s with heap := h', toks := tk }) :
    wpAny (model prog w) A.in1 (Builtin.«list.__init__» ⟨[.ref S, .ref it], []⟩)
      (fun fin s' => match fin with | .done f => R (.ok f) s' | .again c' => c'.quiet = true ∧ codeAny (model prog w) A c' R s') (fun e s' => R (.error e) s') s := by
  show wpAny _ _ (do let old ← Builtin.List.listItems (.ref S); Builtin.List.listUpdate (.ref S) (fun _ => #[]); letGo old.toList.reverse; Builtin.List.listExtendWith (.ref S) (.ref it) .none) _ _ s
  refine wpAny_bind ?_
  unfold Builtin.List.listItems
  refine wpAny_bind (wpAny_seqItems hS rfl (wpAny_pure ?_))
  show wpAny _ _ (updateSeq S (fun _ => #[]) >>= fun _ => letGo (#[] : Array Value).toList.reverse >>= fun _ => Builtin.List.listExtendWith (.ref S) (.ref it) .none) _ _ s
  refine wpAny_bind (wpAny_updateSeq hS rfl ?_)
  have hS₂ := Heap.get?_update_self (Obj.mapSeq (fun _ => (#[] : Array Value))) hS rfl
  have oth : ∀ b o, b ≠ S → s.heap.get? b = some o → (s.heap.update S (Obj.mapSeq (fun _ => (#[] : Array Value)))).get? b = some o :=
    fun b o hb e => (Heap.get?_update_other _ _ (Ne.symm hb)).trans e
  refine wpAny_bind (wpAny_letGo ?_)
  refine extend_it (s := { s with heap := s.heap.update S (Obj.mapSeq (fun _ => (#[] : Array Value))) }) W hh ((W.ws A hh).frame 0 _ _ hst fun b hb o e => oth b o (fun z => hSf (z ▸ hb)) e) hn S hSf .none _ hS₂ fun h' tk acc' c' hk hS' hacc => ?_
  exact hR h' tk acc' c' (fun b o hb hw e => hk b o hb hw (oth b o hb e)) hS' hacc

theorem call_list_it {Q : Value → Shared → Prop} (W : ItOk prog w it n P fp wr St T) (hh : A.handled = none) (hst : St 0 s.heap) (hn : n ≤ sizeLine) (hfp : ∀ b ∈ fp, b < s.heap.objs.size)
    (hQ : ∀ h' tk acc' c', (∀ b o, b ∉ wr → s.heap.get? b = some o → h'.get? b = some o) →
      h'.get? s.heap.objs.size = some { cls := .type "list", dict := none, data := .seq acc' c', slots := #[] } → ItemsOf P acc' n → Q (.ref s.heap.objs.size) { s with heap := h', toks := tk }) :
    wpAny (model prog w) A (PySem.call (.type "list") [.ref it]) Q E s := by
  refine callType_codes (Q₁ := fun obj s₁ => obj = .ref s.heap.objs.size ∧ s₁ = { s with heap := s.heap.push { cls := .type "list", data := .seq #[] } }) F.called_list (F.typeCall_list_1 _) F.entry_list_init
    (code_list_new _ ⟨rfl, rfl⟩) fun obj s₁ h₁ => ?_
  obtain ⟨rfl, rfl⟩ := h₁
  have hS : (s.heap.push { cls := .type "list", data := .seq #[] }).get? s.heap.objs.size = some { cls := .type "list", data := .seq #[] } := Heap.get?_push_size _ rfl
  refine ⟨⟨_, hS, rfl⟩, F.args_list_init_2 _ _, list_init_it (A := A.in1) (s := { s with heap := s.heap.push { cls := .type "list", data := .seq #[] } }) W hh ((W.ws A hh).frame 0 _ _ hst fun b _ o e => Heap.get?_push_of_some _ e) hn _ (fun m => Nat.lt_irrefl _ (hfp _ m)) hS fun h' tk acc' c' hk hS' hacc => ?_⟩
  exact ⟨rfl, hQ h' tk acc' c' (fun b o hw e => hk b o (Nat.ne_of_lt (Heap.lt_size e)) hw (Heap.get?_push_of_some _ e)) hS' hacc⟩

theorem collect_it {Q : List Value → Shared → Prop} (W : ItOk prog w it n P fp wr St T) (hh : A.handled = none) (hst : St 0 s.heap) (hn : n ≤ sizeLine) (hfp : ∀ b ∈ fp, b < s.heap.objs.size)
    (hQ : ∀ (h' : Heap) (tk : Nat) (acc : Array Value), (∀ b o, b ∉ wr → s.heap.get? b = some o → h'.get? b = some o) → ItemsOf P acc n → Q acc.toList { s with heap := h', toks := tk }) :
    wpAny (model prog w) A (collect (.ref it)) Q E s := by
  unfold collect
  refine wpAny_bind (wpAny_runValue (codeAny_builtin F.entry_proto_collect ?_))
  rw [Around.under_plainId F.plain_proto_collect _]
  show wpAny _ A.in1 (newList [] >>= fun l' => again (.builtin "list.__iadd__" ⟨[l', .ref it], []⟩)) _ _ s
  refine wpAny_bind (wpAny_newObj_type ?_)
  refine wpAny_pure ⟨plainId_quiet F.plain_list_iadd _, codeAny_builtin F.entry_list_iadd ?_⟩
  rw [Around.under_plainId F.plain_list_iadd _]
  have hS₁ : (s.heap.push { cls := .type "list", data := .seq ([] : List Value).toArray }).get? s.heap.objs.size = some { cls := .type "list", data := .seq ([] : List Value).toArray } := Heap.get?_push_size _ rfl
  show wpAny _ A.in1 (Builtin.List.listExtendWith (.ref s.heap.objs.size) (.ref it) (.ref s.heap.objs.size)) _ _ _
  refine extend_it (R := fun r s' => match r with
    | .ok (.ret v) => wpAny (model prog w) A (match v with
      | .ref a => do
        let __do_lift ← load a
        match __do_lift.data with
        | .seq xs _ => pure xs.toList
        | _ => unsupported "internal:collect"
      | _ => unsupported "internal:collect") Q E s'
    | .ok _ => False
    | .error e => E e s') (s := { s with heap := s.heap.push { cls := .type "list", data := .seq ([] : List Value).toArray } }) W hh ((W.ws A hh).frame 0 _ _ hst fun b _ o e => Heap.get?_push_of_some _ e) hn _ (fun m => Nat.lt_irrefl _ (hfp _ m)) _ _ hS₁ fun h' tk acc' c' hk hS' hacc => ?_
  show wpAny _ A (load s.heap.objs.size >>= _) _ _ _
  refine wpAny_bind (wpAny_load (s := { s with heap := h', toks := tk }) hS' ?_)
  refine wpAny_pure ?_
  exact hQ h' tk acc' (fun b o hw e => hk b o (Nat.ne_of_lt (Heap.lt_size e)) hw (Heap.get?_push_of_some _ e)) hacc
theorem code_tuple_new_it {Q₁ : Value → Shared → Prop} (W : ItOk prog w it n P fp wr St T) (hh : A.handled = none) (hst : St 0 s.heap) (hn : n ≤ sizeLine) (hfp : ∀ b ∈ fp, b < s.heap.objs.size)
    (h : ∀ (h' : Heap) (tk : Nat) (acc : Array Value), (∀ b o, b ∉ wr → s.heap.get? b = some o → h'.get? b = some o) → ItemsOf P acc n →
      Q₁ (.ref h'.objs.size) { s with heap := h'.push { cls := .type "tuple", data := .seq acc }, toks := tk }) :
    codeAny (model prog w) A (.call (.builtin "tuple.__new__") ⟨[.type "tuple", .ref it], []⟩) (wants Q₁ E) s := by
  refine codeAny_of_tree ?_
  show wpAny _ A.in1 (do checkBuiltinCall "tuple.__new__" ⟨[.type "tuple", .ref it], []⟩; again (.builtin "tuple.__new__" ⟨[.type "tuple", .ref it], []⟩)) _ _ s
  refine wpAny_bind (wpAny_of_eq (F.newCall_tuple_1 _) (wpAny_pure ⟨plainId_quiet F.plain_tuple_new _, codeAny_builtin F.entry_tuple_new ?_⟩))
  rw [Around.under_plainId F.plain_tuple_new _]
  have hsub := _root_.PySem.sub_tuple_self
  have hinit := _root_.PySem.init_tuple_lookup
  have hmh := _root_.PySem.madeHere_tuple
  have hTI := W.ty 0 s hst
  have hnl := W.nl
  have hnt := W.nt
  have hh1 : A.in1.handled = none := hh
  wp_walk using wpAny_typeOf hTI, collect_it (A := A.in1) W hh1 hst hn hfp
  all_goals try (intro h' tk acc hk hacc)
  all_goals try (
  show wpAny _ _ (Builtin.Tuple.tupleExact acc.toList.toArray >>= fun v => ret v) _ _ _
  unfold Builtin.Tuple.tupleExact
  refine wpAny_bind (wpAny_newObj_type ?_ (by show acc.toList.toArray.size ≤ sizeLine; simp only [Array.toArray_toList]; rw [hacc.1]; exact hn))
  refine wpAny_pure ?_
  have e : acc.toList.toArray = acc := by simp
  rw [e]
  exact h h' tk acc hk hacc)
theorem call_tuple_it {Q : Value → Shared → Prop} (W : ItOk prog w it n P fp wr St T) (hh : A.handled = none) (hst : St 0 s.heap) (hn : n ≤ sizeLine) (hfp : ∀ b ∈ fp, b < s.heap.objs.size)
    (hQ : ∀ (h' : Heap) (tk : Nat) (acc : Array Value), (∀ b o, b ∉ wr → s.heap.get? b = some o → h'.get? b = some o) → ItemsOf P acc n →
      Q (.ref h'.objs.size) { s with heap := h'.push { cls := .type "tuple", data := .seq acc }, toks := tk }) :
    wpAny (model prog w) A (PySem.call (.type "tuple") [.ref it]) Q E s := by
  refine callType_codes (Q₁ := fun obj s₁ => s₁.TypeIs obj "tuple" ∧ Q obj s₁) F.called_tuple (F.typeCall_tuple_1 _) F.entry_object_init
    (code_tuple_new_it (A := A.in1) W hh hst hn hfp fun h' tk acc hk hacc => ⟨⟨_, Heap.get?_push_size _ rfl, rfl⟩, hQ h' tk acc hk hacc⟩) fun obj s₁ h₁ => ?_
  exact ⟨h₁.1, F.args_object_init_2 obj _, object_init_meets F.called_tuple.init.lookup F.called_tuple.made (by decide) prog w A.in1 _ s₁ ⟨h₁.1, rfl, h₁.2⟩⟩

/-! reversed(a tuple) -/
theorem hint_rt {t : Addr} {items : Array Value} {Q : Bool → Shared → Prop} (hit : IsRt s.heap it t ((items.size : Int) - 1)) (ht : IsTup s.heap t items) (hsz : items.size ≤ sizeLine) (h : ∀ b tk, Q b { s with toks := tk }) :
    wpAny (model prog w) A (Builtin.List.listLengthHint (.ref it)) Q E s := by
  have hT := hit.typeIs
  obtain ⟨o, ho, hc, hd⟩ := id hit
  unfold Builtin.List.listLengthHint
  refine wpAny_bind (wpAny_specialOf hT nolen_rt ?_)
  show wpAny _ A (specialOf (Value.ref it) (Str.ofString "__length_hint__") >>= _) _ _ _
  refine wpAny_bind (wpAny_specialOf hT norev_hint ?_)
  generalize hid : ("reversed.__length_hint__" : String) = id0
  wp_delta
  rw [show splitId id0 = some ("reversed", "__length_hint__") from by subst hid; decide +kernel]
  subst hid
  refine wpAny_bind (wpAny_isInstance (b := true) hT (by rw [isSubtype_type]; kernel_rfl) ?_)
  refine wpAny_ite_split (fun hab => absurd hab (by decide)) (fun _ => ?_)
  refine wpAny_ite_split (fun hab => absurd hab (by decide +kernel)) (fun _ => ?_)
  refine wpAny_bind (wpAny_rule ?_)
  refine wpAny_bind (wpAny_of_eq (slot_rt_hint.bind _) ?_)
  refine wpAny_bind (wpAny_attempt (wpAny_call_entry slot_rt_hint hT entry_rt_hint ?_ (args_rt_hint _)))
  unfold Builtin.«reversed.__length_hint__»
  refine wpAny_bind (wpAny_of_eq (a := (Value.ref it)) rfl ?_)
  refine wpAny_bind (wpAny_field ho hd (x := .ref t) rfl ?_)
  refine wpAny_ite_split (fun hab => absurd hab (by simp)) (fun _ => ?_)
  refine wpAny_bind (PyProof.Rows.len_tuple ht (by have := line63; omega) ?_)
  refine wpAny_bind (wpAny_of_eq (a := some ((items.size : Nat) : Int)) rfl ?_)
  try dsimp only
  refine wpAny_bind (wpAny_field ho hd (x := rawInt ((items.size : Int) - 1)) rfl ?_)
  show wpAny _ _ (if ((items.size : Nat) : Int) < ((items.size : Int) - 1) + 1 then _ else _) _ _ _
  rw [if_neg (by omega)]
  have e1 : ((items.size : Int) - 1 + 1) = ((items.size : Nat) : Int) := by omega
  rw [e1]
  have hn := line63
  have fit : Builtin.List.listFitsIndex ((items.size : Nat) : Int) = true := by simp [Builtin.List.listFitsIndex]; omega
  have tl : Builtin.List.listTooLong (((items.size : Nat) : Int).toNat) = false := by rw [Int.toNat_natCast]; simp [Builtin.List.listTooLong]; omega
  unfold retInt
  refine wpAny_bind (wpAny_mkInt (wpAny_pure ⟨_, rfl, ?_⟩))
  dsimp only
  generalize hz : ((items.size : Nat) : Int) = z at *
  refine wpAny_bind (wpAny_of_eq (a := some z) rfl ?_)
  try dsimp only
  refine wpAny_ite_split (fun hab => absurd hab (by rw [fit]; decide)) (fun _ => ?_)
  refine wpAny_ite_split (fun hab => absurd hab (by omega)) (fun _ => ?_)
  refine wpAny_ite_split (fun hab => absurd hab (by rw [tl]; decide)) (fun _ => ?_)
  exact wpAny_pure (h _ _)
theorem walks_rt (hh : A.handled = none) (I t : Addr) (hne : t ≠ I) (items : Array Value) (hsz : items.size ≤ sizeLine) :
    Walks prog w A I [I, t] [I] items.size (fun i v => items[items.size - 1 - i]? = some v) (fun i h => i ≤ items.size ∧ IsRt h I t ((items.size : Int) - 1 - (i : Int)) ∧ IsTup h t items) where
  sub := fun b hb => by simp at hb; simp [hb]
  frame := fun _ _ _ x hk => ⟨x.1, x.2.1.at fun o e => hk I (by simp) o e, let ⟨o, ho, r⟩ := x.2.2; ⟨o, hk t (by simp) o ho, r⟩⟩
  item := fun i s Q E hi x hQ => by
    have e : (items.size : Int) - 1 - (i : Int) = ((items.size - 1 - i : Nat) : Int) := by omega
    have hit := x.2.1
    rw [e] at hit
    have hx : items[items.size - 1 - i]? = some (items[items.size - 1 - i]'(by omega)) := Array.getElem?_eq_getElem (by omega)
    refine next_rt_item hit x.2.2 hx hsz fun h' hit' hs' => ?_
    have e2 : ((items.size - 1 - i : Nat) : Int) - 1 = (items.size : Int) - 1 - ((i + 1 : Nat) : Int) := by omega
    rw [e2] at hit'
    obtain ⟨o, ho, r⟩ := x.2.2
    exact hQ _ h' (s.toks + 1) hx ⟨hi, hit', o, (hs'.2 t hne).trans ho, r⟩ fun b o hb eo => hs'.extBut b o (fun h => hb (by simp [h])) eo
  done := fun s Q E x hQ => by
    have e : (items.size : Int) - 1 - (items.size : Int) = -1 := by omega
    have hit := x.2.1
    rw [e] at hit
    exact next_rt_end hh hit fun h' he' => hQ h' s.toks fun b o hb eo => he' b o (fun h => hb (by simp [h])) eo
  self := fun _ _ _ _ x hQ => iter_rt x.2.1 hQ
theorem itok_rt (I t : Addr) (hne : t ≠ I) (items : Array Value) (hsz : items.size ≤ sizeLine) :
    ItOk prog w I items.size (fun i v => items[items.size - 1 - i]? = some v) [I, t] [I] (fun i h => i ≤ items.size ∧ IsRt h I t ((items.size : Int) - 1 - (i : Int)) ∧ IsTup h t items) "reversed" where
  ws := fun A hh => walks_rt hh I t hne items hsz
  mem := by simp
  ty := fun i s x => x.2.1.typeIs
  hint := fun A E s Q _ x h => by
    have hit := x.2.1
    have e : (items.size : Int) - 1 - ((0 : Nat) : Int) = (items.size : Int) - 1 := by omega
    rw [e] at hit
    exact hint_rt hit x.2.2 hsz h
  nl := by decide
  nt := by decide
theorem hint_lri {l : Addr} {i : Int} {Q : Bool → Shared → Prop} (hit : s.heap.IsRevIter it l i) (h : ∀ b tk, Q b { s with toks := tk }) :
    wpAny (model prog w) A (Builtin.List.listLengthHint (.ref it)) Q E s := by
  have hT : s.TypeIs (.ref it) "list_reverseiterator" := hit.typeIs
  unfold Builtin.List.listLengthHint
  refine wpAny_bind (wpAny_specialOf hT nolen_lri ?_)
  show wpAny _ A (specialOf (Value.ref it) (Str.ofString "__length_hint__") >>= _) _ _ _
  refine wpAny_bind (wpAny_specialOf hT RT.hint_lri ?_)
  generalize hid : ("list_reverseiterator.__length_hint__" : String) = id0
  wp_delta
  rw [show splitId id0 = some ("list_reverseiterator", "__length_hint__") from by subst hid; decide +kernel]
  subst hid
  refine wpAny_bind (wpAny_isInstance (b := true) hT (by rw [isSubtype_type]; kernel_rfl) ?_)
  exact wpAny_pure (h _ s.toks)
theorem itok_lri (I l : Addr) (hne : l ≠ I) (items : Array Value) :
    ItOk prog w I items.size (fun i v => items[items.size - 1 - i]? = some v) [I, l] [I] (fun i h => i ≤ items.size ∧ h.IsRevIter I l ((items.size : Int) - 1 - (i : Int)) ∧ h.IsList l items) "list_reverseiterator" where
  ws := fun A hh => Walks.listRev hh I l hne items
  mem := by simp
  ty := fun i s x => x.2.1.typeIs
  hint := fun A E s Q _ x h => hint_lri x.2.1 h
  nl := by decide
  nt := by decide
end
/-! list(reversed(x)), tuple(reversed(x)) -/
def tLRev (K : PySem.W.Frag) (tup : Bool) (te : TE) : TE := fun σ H Q => te σ H fun v H1 => ∃ (a : Addr) (xs : List V), v = .ref a ∧ (SqL K H1 a xs ∨ SqT K H1 a xs) ∧ ∀ q, H1 q = none → Q (.ref q) (upd H1 q (if tup then .tup xs.reverse else .lst xs.reverse))
section
variable {X : Cx}
theorem lrev_end {tup : Bool} {pins : List (Addr × Obj)} {σ : L2.St} {H : Hp} {s : Shared} {Q : VK} {it : Addr} {n : Nat} {fp : List Addr} {St : Nat → Heap → Prop} {T : String} {xs : List V} {its : List Value}
    (W : ItOk X.prog X.w it n (fun i v => its.toArray[its.toArray.size - 1 - i]? = some v) fp [it] St T) (hc : X.calm = true) (I : L2.Inv X pins σ H s) (hst : St 0 s.heap) (hn : n = its.toArray.size) (hz : xs.length ≤ sizeLine) (rv : Vals xs its)
    (hfp : ∀ b ∈ fp, b < s.heap.objs.size)
    (q : ∀ h' tk, (∀ b o, b ≠ it → s.heap.get? b = some o → h'.get? b = some o) → L2.Inv X pins σ H { s with heap := h', toks := tk }) 
    (k : ∀ q, H q = none → Q (.ref q) (upd H q (if tup then .tup xs.reverse else .lst xs.reverse))) (hlt : it < s.heap.objs.size) :
    wpAny (model X.prog X.w) X.A (PySem.call (.type (if tup then "tuple" else "list")) [.ref it]) (EP X pins σ Q) X.xe s := by
  have hl := rv.length
  have hn' : n ≤ sizeLine := by rw [hn, List.size_toArray, ← hl]; exact hz
  cases tup with
  | true =>
    refine call_tuple_it W (I.ok.hd hc) hst hn' hfp fun h' tk acc hk hi => ?_
    have I3 := q h' tk fun b o hb e => hk b o (by simpa using hb) e
    rw [hn] at hi
    refine ⟨.ref h'.objs.size, upd H h'.objs.size (.tup xs.reverse), I3.laid (t' := tk) (fun c o e => Heap.get?_push_of_some _ e) (Nat.le_refl _) (show ObjOk X.prog X.w _ _ _ (.tup xs.reverse) from ⟨by rw [List.length_reverse]; exact hz, acc.toList, vals_rev rv hi, ?_⟩), rfl, k _ (I3.hok.fresh (Nat.le_refl _))⟩
    rw [Array.toArray_toList]
    exact IsTup.new _ _
  | false =>
    refine call_list_it W (I.ok.hd hc) hst hn' hfp fun h' tk acc c' hk hS hi => ?_
    have I3 := q h' tk fun b o hb e => hk b o (by simpa using hb) e
    rw [hn] at hi
    have hfree : H s.heap.objs.size = none := I.hok.fresh (Nat.le_refl _)
    obtain ⟨G, g1, g2⟩ := restrict s.heap fun b => decide (b ≠ it)
    have IG := q G tk fun b o hb e => by rw [g1 b (by simpa using hb)]; exact e
    refine ⟨.ref s.heap.objs.size, upd H s.heap.objs.size (.lst xs.reverse), IG.laidN (t' := tk) (fun b u e => ?_) ?_ hfree (show ObjOk X.prog X.w _ h' _ (.lst xs.reverse) from ⟨by rw [List.length_reverse]; exact hz, acc.toList, c', vals_rev rv hi, by rw [Array.toArray_toList]; exact hS⟩), rfl, k _ hfree⟩
    · by_cases hb : b = it
      · have e' : G.get? b = some u := e
        rw [g2 b (by simp [hb])] at e'
        cases e'
      · have e' : G.get? b = some u := e
        rw [g1 b (by simpa using hb)] at e'
        exact hk b u (by simpa using hb) e'
    · show G.get? _ = none
      have hb : s.heap.objs.size ≠ it := Nat.ne_of_gt hlt
      rw [g1 _ (by simpa using hb)]
      exact Heap.get?_none_of_le (Nat.le_refl _)
theorem pe_lrev {tup : Bool} {e : Expr} {te : TE} {p p2 pos pos2 : Pos} {x : Str} (hx : x = Str.ofString (if tup then "tuple" else "list")) (hc : X.calm = true) (hg : Gl X x) (hm : X.mg x = none) (hg2 : Gl X "reversed") (hm2 : X.mg "reversed" = none) (he : PE X e te)
    (hs : starEach [e] X.env = (false, eval e X.env) :: starEach [] X.env)
    (hs2 : starEach [.Call (.Name "reversed" p2) [e] [] pos2] X.env = (false, eval (.Call (.Name "reversed" p2) [e] [] pos2) X.env) :: starEach [] X.env := by rfl) :
    PE X (.Call (.Name x p) [.Call (.Name "reversed" p2) [e] [] pos2] [] pos) (tLRev X.K tup te) := by
  refine ⟨fun pins s σ H Q I h => ?_⟩
  have fin : ∀ {s1 : Shared} {H1 : Hp} {u : Value} {v : V}, L2.Inv X pins σ H1 s1 → RelV v u → (∃ (a : Addr) (xs : List V), v = .ref a ∧ (SqL X.K H1 a xs ∨ SqT X.K H1 a xs) ∧ ∀ q, H1 q = none → Q (.ref q) (upd H1 q (if tup then .tup xs.reverse else .lst xs.reverse))) →
      wpAny (model X.prog X.w) X.A (PySem.call (.type "reversed") [u]) (fun r s2 => wpAny (model X.prog X.w) X.A (PySem.call (.type (if tup then "tuple" else "list")) [r]) (EP X pins σ Q) X.xe s2) X.xe s1 := fun {s1 H1 u v} I1 r1 q1 => by
    obtain ⟨a, xs, ev, hq, q⟩ := q1
    subst ev
    obtain rfl : u = Value.ref a := r1
    obtain ⟨f0, f1, f2, f3, f4, f5⟩ := I1.fpOk (H' := H1) (b := s1.heap.objs.size) (Nat.le_refl _) (I1.hok.fresh (Nat.le_refl _))
    rcases hq with hq | hq
    · obtain ⟨its, rv, p', hz⟩ := I1.list hq
      refine call_reversed_list p'.isList ?_
      have k0 : ∀ b o, s1.heap.get? b = some o → (s1.heap.push (revObj a ((its.toArray.size : Int) - 1))).get? b = some o := fun b o e => Heap.get?_push_of_some _ e
      have I2 : L2.Inv X pins σ H1 { s1 with heap := s1.heap.push (revObj a ((its.toArray.size : Int) - 1)) } := I1.kept (t' := s1.toks) k0
      have hl := p'.isList
      obtain ⟨ol, hol, _⟩ := id hl
      have hne : a ≠ s1.heap.objs.size := Nat.ne_of_lt (Heap.lt_size hol)
      refine lrev_end (itok_lri s1.heap.objs.size a hne its.toArray) hc I2 ⟨Nat.zero_le _, ?_, hl.push _⟩ rfl hz rv (fun b hb => ?_) (fun h' tk hk => I2.turned (t' := tk) (fun b o hb e => hk b o hb e) f0 f1 f3 f4 f5) q ?_
      · have e0 : (its.toArray.size : Int) - 1 - ((0 : Nat) : Int) = (its.toArray.size : Int) - 1 := by omega
        rw [e0]
        exact ⟨_, Heap.get?_push_size _ rfl, rfl, rfl⟩
      · have : b = s1.heap.objs.size ∨ b = a := by simpa using hb
        rcases this with rfl | rfl
        · show _ < (s1.heap.push _).objs.size
          simp [Heap.push]
        · exact Nat.lt_of_lt_of_le (Heap.lt_size hol) (by show _ ≤ (s1.heap.push _).objs.size; simp [Heap.push])
      · show _ < (s1.heap.push _).objs.size
        simp [Heap.push]
    · obtain ⟨its, rv, p', hz⟩ := I1.tuple hq
      have hl := rv.length
      have hn := line63
      refine call_reversed_tup p' (fun A E Q k => PyProof.Rows.len_tuple p' (by simp only [List.size_toArray] <;> omega) k) ?_
      have k0 : ∀ b o, s1.heap.get? b = some o → (s1.heap.push (rtObj a ((its.toArray.size : Int) - 1))).get? b = some o := fun b o e => Heap.get?_push_of_some _ e
      have I2 : L2.Inv X pins σ H1 { s1 with heap := s1.heap.push (rtObj a ((its.toArray.size : Int) - 1)), toks := s1.toks + 1 + 1 } := I1.kept (t' := s1.toks + 1 + 1) k0
      obtain ⟨ol, hol, r2⟩ := id p'
      have hne : a ≠ s1.heap.objs.size := Nat.ne_of_lt (Heap.lt_size hol)
      refine lrev_end (itok_rt s1.heap.objs.size a hne its.toArray (by rw [List.size_toArray, ← hl]; exact hz)) hc I2 ⟨Nat.zero_le _, ?_, ol, Heap.get?_push_of_some _ hol, r2⟩ rfl hz rv (fun b hb => ?_) (fun h' tk hk => I2.turned (t' := tk) (fun b o hb e => hk b o hb e) f0 f1 f3 f4 f5) q ?_
      · have e0 : (its.toArray.size : Int) - 1 - ((0 : Nat) : Int) = (its.toArray.size : Int) - 1 := by omega
        rw [e0]
        exact ⟨_, Heap.get?_push_size _ rfl, rfl, rfl⟩
      · have : b = s1.heap.objs.size ∨ b = a := by simpa using hb
        rcases this with rfl | rfl
        · show _ < (s1.heap.push _).objs.size
          simp [Heap.push]
        · exact Nat.lt_of_lt_of_le (Heap.lt_size hol) (by show _ ≤ (s1.heap.push _).objs.size; simp [Heap.push])
      · show _ < (s1.heap.push _).objs.size
        simp [Heap.push]
  cases tup with
  | true =>
    subst hx
    exact Call_ (ld_blt I hg hm PyProof.Rows.boot_tuple (PyProof.Rows.callWith_type1 (args_cons (Call_ (ld_blt I hg2 hm2 PyProof.Rows.boot_reversed (PyProof.Rows.callWith_type1 (args_cons (thn (he.run pins s σ H _ I h) fun u s1 ⟨v, H1, I1, r1, q1⟩ => args_nil (wpAny_mono (fin I1 r1 q1) (fun r s2 z => args_nil z) fun _ _ z => z)) hs) hs rfl))) hs2) hs2 rfl))
  | false =>
    subst hx
    exact Call_ (ld_blt I hg hm PyProof.Rows.boot_list (PyProof.Rows.callWith_type1 (args_cons (Call_ (ld_blt I hg2 hm2 PyProof.Rows.boot_reversed (PyProof.Rows.callWith_type1 (args_cons (thn (he.run pins s σ H _ I h) fun u s1 ⟨v, H1, I1, r1, q1⟩ => args_nil (wpAny_mono (fin I1 r1 q1) (fun r s2 z => args_nil z) fun _ _ z => z)) hs) hs rfl))) hs2) hs2 rfl))
end
end DI
set_option Elab.async false
set_option linter.all false
set_option maxRecDepth 100000
namespace DI
open PySem PySem.Spec PyProof.Rows L2
noncomputable section
/-! the exception that an except suite holds: isinstance, its field -/
def rIsT (K : PySem.W.Frag) (D a : Addr) : List V → Hp → VK → Prop := fun xs H Q => ∃ (t : Addr) (Cs : List Addr) (b : Bool), xs = [.ref a, .ref t] ∧ H t = some (.tup (Cs.map V.ref)) ∧ PySem.W.kitAny K (.ref D) (Cs.map Value.ref) = some b ∧ Q (.bl b) H
theorem vals_refs : ∀ {Cs : List Addr} {us : List Value}, Vals (Cs.map V.ref) us → us = Cs.map Value.ref
  | [], us, h => by cases h; rfl
  | C :: Cs, us, h => by
    cases h with
    | cons r t => rw [vals_refs t]; cases (show _ = Value.ref C from r); rfl
theorem call_isT {X : Cx} {a D : Addr} {oe : Obj} {pn : List (Addr × Obj)} (C : ExcC X.K D) (hz : Zc (.ref D) none oe) (hf : ∃ vs, oe.data = .fields vs) : CallR (X.suite a ((a, oe) :: pn)) (.builtin "isinstance") (rIsT X.K D a) := by
  intro pins s σ H xs us Q I r h
  obtain ⟨t, Cs, b, rfl, ht, e, q⟩ := h
  cases r with
  | cons rx rr =>
    cases rr with
    | cons rt rr =>
      cases rr
      cases rx
      cases rt
      obtain ⟨hget, _⟩ := I.pin (a, oe) (List.mem_append.mpr (.inl List.mem_cons_self))
      obtain ⟨vs, hv⟩ := hf
      have J : PySem.W.InstAt s.heap a oe D none := by
        obtain ⟨oc, od, oda, osl⟩ := oe
        obtain ⟨h1, h2⟩ := hz
        dsimp only at h1 h2 hv
        subst h1 h2 hv
        exact ⟨hget, rfl, rfl, trivial⟩
      obtain ⟨_, us, rv, o, h1, h2, n, h3⟩ := (show ObjOk X.prog X.w H s.heap t (.tup (Cs.map V.ref)) from I.hok t _ ht)
      rw [vals_refs rv] at h3
      obtain ⟨oc, od, oda, osl⟩ := o
      dsimp only at h2 h3
      subst h2 h3
      exact PySem.W.kia_tup (PySem.W.handS_kitx_exc C.hg C.hk C.hs C.hd C.ha C.hn C.ht C.hm) I.kIn J h1 e (fun z => nomatch z) fun tk => ⟨.bl b, H, I.kept (t' := tk) fun _ _ z => z, rfl, q⟩
section
variable {X : Cx} {W : WX} {ca : CA} {c : CE} {fz : Nat → Bool} {F : FC} {k : Nat}
theorem lookup_get {α : Type} {x : Str} {v : α} : ∀ {l : List (Str × α)}, l.lookup x = some v → ∃ i : Nat, l[i]? = some (x, v)
  | [], h => by simp at h
  | (y, w) :: l, h => by
    rw [List.lookup_cons] at h
    split at h
    · rename_i e
      cases h
      exact ⟨0, by rw [beq_iff_eq.mp e]; rfl⟩
    · obtain ⟨i, e⟩ := lookup_get h
      exact ⟨i + 1, by simpa using e⟩
/-- a class's name -/
theorem cls_name (S : SX X W ca c F k) {y : Str} {py : Pos} {r : List Nat} (hl : c.cls.lookup y = some r) (hg : c.sc.lookup y = some .globalImplicit) (hd : (y == ("__debug__" : Str)) = false) :
    ∃ C, PE X (.Name y py) (tC (.ref C)) ∧ ∀ (i : Nat) D, ca.cls i = some D → PySem.W.kitOne X.K (.ref D) (.ref C) = some (r.contains i) ∧ PySem.W.exmOne X.K (.ref D) (.ref C) = some (r.contains i) := by
  obtain ⟨j, ej⟩ := lookup_get hl
  obtain ⟨C, e1, cw⟩ := S.cls.cls j y r ej
  refine ⟨C, pe_glob (S.glb y hg) cw.at_ rfl hd, fun i D hi => ?_⟩
  have hi' := S.cls.inn i D hi
  exact S.cls.sub i j _ (y, r) D C (List.getElem?_eq_getElem hi') ej hi e1
theorem noStar_name {e : Expr} {x : Str} (h : nameOf e = some x) : ∃ p, e = .Name x p := by
  unfold nameOf at h
  split at h
  · cases h; exact ⟨_, rfl⟩
  · cases h
/-- the names in a tuple of classes -/
theorem cls_names (S : SX X W ca c F k) {D : Addr} {i : Nat} (hD : ca.cls i = some D) : ∀ {es : List Expr} {r : List Nat}, subsAll c es = some r → es.all noStar = true ∧ ∃ Cs : List Addr, Cs.length = es.length ∧ PA X es (fun _ H Q => Q (Cs.map V.ref) H) ∧ PySem.W.kitAny X.K (.ref D) (Cs.map Value.ref) = some (r.contains i)
  | [], r, h => by
    cases h
    exact ⟨rfl, [], rfl, pa_nil, rfl⟩
  | e :: es, r, h => by
    unfold subsAll at h
    split at h
    · rename_i x r' hx hr
      split at h
      · rename_i hs
        obtain ⟨r0, h0, rfl⟩ := Option.map_eq_some_iff.mp h
        obtain ⟨p, rfl⟩ := noStar_name hx
        obtain ⟨st, Cs, hl, h1, h2⟩ := cls_names S hD hr
        unfold subsOf at h0
        split at h0
        · rename_i hg
          simp only [Bool.and_eq_true, beq_iff_eq, Bool.not_eq_true'] at hg
          obtain ⟨hg, hd⟩ := hg
          split at h0
          · rename_i hv
            have hv := beq_iff_eq.mp hv
            obtain ⟨r1, hr1⟩ := Option.isSome_iff_exists.mp hs
            exfalso
            obtain ⟨j, ej⟩ := lookup_get hr1
            obtain ⟨C, e1, cw⟩ := S.cls.cls j _ _ ej
            have := S.blt (Str.ofString "ValueError") (by decide)
            have e3 := cw.at_
            rw [show x = Str.ofString "ValueError" from hv, this] at e3
            cases e3
          · obtain ⟨C, q1, q2⟩ := cls_name S (py := p) h0 hg hd
            refine ⟨by simp [noStar, st], C :: Cs, by simp [hl], ?_, ?_⟩
            · exact (pa_cons q1 h1 (star_cons rfl))
            · obtain ⟨q3, _⟩ := q2 i D hD
              show (match PySem.W.kitOne X.K (.ref D) (.ref C) with
                | some true => some true
                | some false => PySem.W.kitAny X.K (.ref D) (Cs.map Value.ref)
                | none => none) = _
              rw [q3, h2]
              cases e1 : r0.contains i with
              | true =>
                have := List.contains_iff_mem.mp e1
                simp [this]
              | false =>
                have : i ∉ r0 := fun m => by rw [List.contains_iff_mem.mpr m] at e1; cases e1
                simp [this]
        · cases h0
      · cases h
    · cases h
/-- the name of the exception: its place -/
theorem exn_name (S : SX X W ca c F k) {e : Expr} (h : isExn c e = true) : ∃ (i : Nat) (x : Str) (p : Pos), e = .Name x p ∧ c.exn = some i ∧ PE X e (tVar i) ∧ noStar e = true := by
  unfold isExn at h
  split at h
  · rename_i x hx
    obtain ⟨p, rfl⟩ := noStar_name hx
    simp only [Bool.and_eq_true, beq_iff_eq, Bool.not_eq_true'] at h
    obtain ⟨⟨⟨⟨h1, h2⟩, h3⟩, h4⟩, h5⟩ := h
    obtain ⟨i, hi⟩ := Option.isSome_iff_exists.mp h1
    rw [hi] at h2
    exact ⟨i, x, p, rfl, hi, pe_var (by rw [S.N]; exact ixOf_get0 h2) (S.loc x h3) h4 h5, rfl⟩
  · cases h
/-- what a reading of the suite's exception has -/
theorem exn_out {x : XA} {j : Nat} {e : EV} {Q : VK} {σ : L2.St} {H : Hp} {g : EV → AH → R D} (hx : ca.xa = some x) (hj : x.j = some j) {m : EVl} (hm : ∀ s h, m s h = g e h) (q : te X.K ca W m σ H Q) :
    σ[j]? = some (some (.ref x.a)) ∧ ∃ M r hp, SR X.K ca ⟨M, r, H⟩ hp ∧ PayOk X.K ⟨M, r, H⟩ x.pay x.dx ∧ Post X.K ca W (Rep X.K) σ ⟨M, r, H⟩ (g e hp) Q := by
  obtain ⟨M, r, hp, sd, ds, h1, h2, h3, h4⟩ := q
  have h5 := h2.2
  rw [hx] at h5
  have h4 : Post X.K ca W (Rep X.K) σ ⟨M, r, H⟩ (m sd hp) Q := h4
  rw [hm] at h4
  exact ⟨h5.1 j hj, M, r, hp, h1, h5.2, h4⟩
theorem s_isE (S : SX X W ca c F k) {e t : Expr} {r : List Nat} {p pos : Pos} (hg : c.sc.lookup (Str.ofString "isinstance") = some .globalImplicit) (he : isExn c e = true) (hs : noStar t = true) (ht : cIsE c t = .isE r) :
    PE X (.Call (.Name "isinstance" p) [e, t] [] pos) (te X.K ca W (ev F (.isE r))) := by
  obtain ⟨j, xn, pn, rfl, hj, pv, hsn⟩ := exn_name S he
  obtain ⟨x, X0, oe, pn, ee, C, hx, hxj, rfl, hz, hf, hF, hp, hC⟩ := (S.exn j hj).ex
  have hm0 := S.blt (Str.ofString "isinstance") (by decide)
  have hi := S.cls.inn _ _ hC
  obtain ⟨CC, e1, cw⟩ := S.cls.cls ee.cls _ _ (List.getElem?_eq_getElem hi)
  rw [hC] at e1
  cases e1
  -- the plain reading
  have out : ∀ {σ : L2.St} {H : Hp} {Q : VK}, te X0.K ca W (ev F (.isE r)) σ H Q → σ[j]? = some (some (.ref x.a)) ∧ x.dx = none ∧ Q (.bl (r.contains ee.cls)) H ∧ ∀ tq o, H tq = none → Q (.bl (r.contains ee.cls)) (upd H tq o) := fun {σ H Q} q => by
    obtain ⟨q1, M, r', hp', q2, q3, q4⟩ := exn_out (g := fun ee h => if ee.pay.isNone then .ok (.bl (r.contains ee.cls)) h else .bad) (e := ee) hx hxj (fun s h => by simp only [ev, hF]) q
    split at q4
    · rename_i hn
      have hn' := Option.isNone_iff_eq_none.mp hn
      rw [hp] at hn'
      rw [hn'] at q3
      exact ⟨q1, q3, q4 _ _ (Step.refl _) q2 rep_bl, fun tq o hn => q4 ⟨M, r', upd H tq o⟩ _ (step_new hn) (sr_new q2 hn) rep_bl⟩
    · exact q4.elim
  unfold cIsE at ht
  split at ht
  · rename_i es kk tp
    split at ht
    · rename_i r' hr
      split at ht
      · rename_i hlen
        cases ht
        obtain ⟨st, Cs, hl, h1, h2⟩ := cls_names S hC hr
        have pt : PE _ (.Tuple es kk tp) _ := pe_tup (pos := tp) (x1 := kk) h1
        by_cases hdx : x.dx = none
        · rw [hdx] at hz
          refine PE.imp (pe_callB (call_isT cw.ec hz hf) (S.glb _ hg) hm0 PyProof.Rows.boot_isinstance (pa_cons pv (pa_cons pt pa_nil (star_cons rfl)) (star_cons hsn)) (by decide) (by decide) (star_cons hsn) (star_any (by simp [noStar]))) fun σ H Q q => ?_
          obtain ⟨q1, q2, q3, q4⟩ := out q
          refine ⟨_, q1, ?_, fun tq hn => ⟨tq, Cs, _, rfl, upd_same, h2, q4 tq _ hn⟩⟩
          rw [List.length_map, hl, sz_eq]
          have := of_decide_eq_true hlen
          omega
        · exact PE.no fun σ H Q q => hdx (out q).2.1
      · cases ht
    · cases ht
  · split at ht
    · rename_i y hy
      obtain ⟨py, rfl⟩ := noStar_name hy
      split at ht
      · rename_i r' hr
        cases ht
        by_cases hdx : x.dx = none
        · rw [hdx] at hz
          have fin : ∀ {v : V} {cv : Value}, PE _ (.Name y py) (tC v) → (∀ u, RelV v u → u = cv) → PySem.W.kitOne X0.K (.ref C) cv = some (r.contains ee.cls) → PE (X0.suite x.a ((x.a, oe) :: pn)) (.Call (.Name "isinstance" p) [.Name xn _, .Name y py] [] pos) (te X0.K ca W (ev F (.isE r))) := fun {v cv} hv hcv hk => by
            refine PE.imp (pe_callB (call_isE cw.ec hz hf) (S.glb _ hg) hm0 PyProof.Rows.boot_isinstance (pa_cons pv (pa_cons hv pa_nil (star_cons rfl)) (star_cons hsn)) (by decide) (by decide) (star_cons hsn) (star_any (by simp [noStar]))) fun σ H Q q => ?_
            obtain ⟨q1, q2, q3, _⟩ := out q
            exact ⟨_, q1, v, cv, _, rfl, hcv, hk, q3⟩
          unfold subsOf at hr
          split at hr
          · rename_i hg2
            simp only [Bool.and_eq_true, beq_iff_eq, Bool.not_eq_true'] at hg2
            split at hr
            · rename_i hy
              have hy : y = Str.ofString "ValueError" := beq_iff_eq.mp hy
              subst hy
              cases hr
              refine fin (v := .ty "ValueError") (cv := .type "ValueError") (pe_bltn (S.glb _ hg2.1) (S.blt _ (by decide)) L2.boot_ValueError rfl (by decide) hg2.2) (fun u z => z) ?_
              rw [cw.kv]
              have hi := S.cls.inn _ _ hC
              have : (List.range c.cls.length).contains ee.cls = true := List.contains_iff_mem.mpr (List.mem_range.mpr hi)
              rw [this]
            · obtain ⟨D, q1, q2⟩ := cls_name S (py := py) hr hg2.1 hg2.2
              exact fin q1 (fun u z => z) (q2 _ C hC).1
          · cases hr
        · exact PE.no fun σ H Q q => hdx (out q).2.1
      · cases ht
    · cases ht
theorem s_exf (S : SX X W ca c F k) {o : Expr} {pos : Pos} (he : isExn c o = true) : PE X (.Attribute o payF pos) (te X.K ca W (ev F .exf)) := by
  obtain ⟨j, xn, pn, rfl, hj, pv, hsn⟩ := exn_name S he
  obtain ⟨x, X0, oe, pn, ee, C, hx, hxj, rfl, hz, hf, hF, hp, hC⟩ := (S.exn j hj).ex
  have hi := S.cls.inn _ _ hC
  obtain ⟨CC, e1, cw⟩ := S.cls.cls ee.cls _ _ (List.getElem?_eq_getElem hi)
  rw [hC] at e1
  cases e1
  refine PE.imp (pe_xf ⟨cw.ec.hg, cw.ec.hk, cw.ec.hs, cw.ec.hd⟩ cw.nr hz hf pv) fun σ H Q q => ?_
  obtain ⟨q1, M, r', hp', q2, q3, q4⟩ := exn_out (g := fun ee h => R.opt ee.pay h) (e := ee) hx hxj (fun s h => by simp only [ev, hF]) q
  obtain ⟨d, e1, q5⟩ := Post.opt q4
  rw [hp] at e1
  rw [e1] at q3
  obtain ⟨a, v, e2, e3, _, e4⟩ := q3
  exact ⟨_, q1, rfl, rfl, a, _, v, e2, e3, by simp [List.lookup], q5 _ _ (Step.refl _) q2 e4⟩
end
end
end DI
set_option Elab.async false
set_option linter.all false
set_option maxRecDepth 100000
namespace DI
open PySem PySem.Spec PyProof.Rows L2
noncomputable section
section
variable {X : Cx} {W : WX} {ca : CA} {c : CE} {fz : Nat → Bool} {F : FC} {k : Nat}
theorem s_bin {op : Operator} {mu : Bool} {a b : Expr} {x y : Ex} {pos : Pos} (ha : SE X W ca fz F a x) (hb : SE X W ca fz F b y) : PE X (.BinOp a op b pos) (te X.K ca W (ev F (.bin op mu x y))) := by
  refine PE.imp (pe_op (opBin (ca := ca) (mu := mu)) ha.v hb.v) fun σ H Q q => ?_
  have q1 := te_1 (m := ev F x) (f := fun d s h => (ev F y s h).bind fun e h => thenMk mu (binop op) h d e) (fun s h => rfl) q
  refine tes_mono q1 fun u H1 q2 => ?_
  have q3 := te_2 (m := ev F y) (g := fun d e s h => thenMk mu (binop op) h d e) (fun d s h => rfl) q2
  refine tes_mono q3 fun w H2 q4 => ?_
  obtain ⟨M, r, hp, sd, d, e, h1, h2, h3, h4, h5⟩ := on2_out q4
  exact ⟨W, σ, M, r, hp, d, e, h1, h3, h4, h5⟩
theorem s_idx (S : SX X W ca c F k) {a b : Expr} {x y : Ex} {pos : Pos} (ha : SE X W ca fz F a x) (hb : SE X W ca fz F b y) (hs : isSlice b = false) : PE X (.Subscript a b pos) (te X.K ca W (ev F (.idx x y))) := by
  refine PE.imp (pe_ix (opIdx2 (ca := ca) S.hu) ha.v hb.v (plainIx hs)) fun σ H Q q => ?_
  have q1 := te_1 (m := ev F x) (f := fun d s h => (ev F y s h).bind fun e h => R.opt (orD (idxD h d e) (dLook h d e)) h) (fun s h => rfl) q
  refine tes_mono q1 fun u H1 q2 => ?_
  have q3 := te_2 (m := ev F y) (g := fun d e s h => R.opt (orD (idxD h d e) (dLook h d e)) h) (fun d s h => rfl) q2
  refine tes_mono q3 fun w H2 q4 => ?_
  obtain ⟨M, r, hp, sd, d, e, h1, h2, h3, h4, h5⟩ := on2_out q4
  exact ⟨W, σ, M, r, hp, d, e, h1, h3, h4, h5⟩
theorem s_neg {a : Expr} {x : Ex} {pos : Pos} (ha : SE X W ca fz F a x) : PE X (.UnaryOp .USub a pos) (te X.K ca W (ev F (.neg x))) := by
  refine PE.imp (pe_un un_neg ha.v) fun σ H Q q => ?_
  have q1 := te_1 (m := ev F x) (f := fun d s h => match d with | .int i => .ok (D.int (-i)) h | _ => .bad) (fun s h => rfl) q
  refine tes_mono q1 fun u H1 q2 => ?_
  obtain ⟨M, r, hp, sd, d, h1, h2, h3, h4⟩ := on1_out q2
  cases d with
  | int i => exact ⟨i, int_of h3, Post.now h1 h4 rep_int⟩
  | _ => exact h4.elim
theorem s_tup {es : List Expr} {rec : Expr → Ex} {n : Nat} {pos : Pos} (ih : ∀ e, SE X W ca fz F e (rec e)) (hs : es.all noStar = true) : PE X (.Tuple es n pos) (te X.K ca W (ev F (.tup (mkExs (es.map rec))))) := by
  refine PE.imp (pe_tup (s_args (fun e => (ih e).v) hs)) fun σ H Q q => ?_
  have q1 := sts_out (m := evs F (mkExs (es.map rec))) (f := fun xs h => @ite _ (xs.length ≤ 16777216) (Classical.propDecidable (xs.length ≤ 16777216)) (.ok (D.tup xs) h) (.bad)) q
  refine tes_mono q1 fun xs H1 ⟨M, r, hp, ds, h1, h2, h3⟩ => ?_
  split at h3
  · rename_i hl
    exact ⟨by rw [h2.length, sz_eq]; exact hl, fun p hn => mk_tup h1 h2 h3 p hn⟩
  · exact h3.elim
theorem s_lst {es : List Expr} {rec : Expr → Ex} {mu : Bool} {pos : Pos} (ih : ∀ e, SE X W ca fz F e (rec e)) (hs : es.all noStar = true) : PE X (.List es pos) (te X.K ca W (ev F (.lst mu (mkExs (es.map rec))))) := by
  refine PE.imp (pe_lst (s_args (fun e => (ih e).v) hs)) fun σ H Q q => ?_
  have q1 := sts_out (m := evs F (mkExs (es.map rec))) (f := fun xs h => @ite _ (xs.length ≤ 16777216) (Classical.propDecidable (xs.length ≤ 16777216)) (mkL mu (D.lst xs) h) (.bad)) q
  refine tes_mono q1 fun xs H1 ⟨M, r, hp, ds, h1, h2, h3⟩ => ?_
  split at h3
  · rename_i hl
    exact ⟨by rw [h2.length, sz_eq]; exact hl, fun p hn => mk_list h1 h2 h3 p hn⟩
  · exact h3.elim
theorem s_own (S : SX X W ca c F k) (hh : c.hot = false) {x : Str} {i : Nat} {es : List Expr} {rec : Expr → Ex} {p pos : Pos} (ih : ∀ e, SE X W ca fz F e (rec e)) (hg : c.sc.lookup x = some .globalImplicit) (hx : c.fns[i]? = some x) (hs : es.all noStar = true) (hne : es ≠ [])
    (hd : (x == "__debug__") = false) : PE X (.Call (.Name x p) es [] pos) (te X.K ca W (ev F (.call i (mkExs (es.map rec))))) := by
  obtain ⟨f, fd, ps, e1, e2, e3, e4⟩ := (S.fns i x hx).ex
  cases es with
  | nil => exact absurd rfl hne
  | cons e es =>
    have hs' := hs
    simp only [List.all_cons, Bool.and_eq_true] at hs'
    refine PE.imp (pe_callS e4 (S.room hh) (S.glb x hg) e1 e2 e3 (fun σ => passAt S.tk σ) (s_args (fun e => (ih e).v) hs) hd (star_cons hs'.1) (star_any hs'.2)) fun σ H Q q => ?_
    have q1 := sts_out (m := evs F (mkExs ((e :: es).map rec))) (f := fun xs h => F i xs h) q
    exact tes_mono q1 fun xs H1 ⟨M, r, hp, ds, h1, h2, h3⟩ => sp_of h1 h2 h3
theorem bi_name (S : SX X W ca c F k) {x : Str} {n : Nat} {b : Bi} (hx : biOf x n = some b) : ((∃ id, biFn b = .builtin id ∧ bootBuiltins x = some (.builtin id)) ∨ ∃ T, biFn b = .type T ∧ bootBuiltins x = some (.type T)) ∧ X.mg x = none := by
  unfold biOf at hx
  split at hx
  · rename_i h; cases hx; rw [beq_iff_eq.mp h]; exact ⟨.inl ⟨_, rfl, PySem.boot_len⟩, S.blt _ (by decide)⟩
  · split at hx
    · rename_i h; cases hx; rw [beq_iff_eq.mp h]; exact ⟨.inr ⟨_, rfl, PyProof.Rows.boot_int⟩, S.blt _ (by decide)⟩
    · split at hx
      · rename_i h; cases hx; rw [beq_iff_eq.mp h]; exact ⟨.inr ⟨"str", rfl, by decide +kernel⟩, S.blt _ (by decide)⟩
      · split at hx
        · rename_i h; cases hx; rw [beq_iff_eq.mp h]; exact ⟨.inr ⟨"list", rfl, by decide +kernel⟩, S.blt _ (by decide)⟩
        · split at hx
          · rename_i h; cases hx; rw [beq_iff_eq.mp h]; exact ⟨.inr ⟨"tuple", rfl, by decide +kernel⟩, S.blt _ (by decide)⟩
          · split at hx
            · rename_i h; cases hx; rw [beq_iff_eq.mp h]; exact ⟨.inl ⟨"sum", rfl, by decide +kernel⟩, S.blt _ (by decide)⟩
            · split at hx
              · rename_i h; rw [beq_iff_eq.mp h]
                split at hx
                · cases hx; exact ⟨.inl ⟨"min", rfl, by decide +kernel⟩, S.blt _ (by decide)⟩
                · cases hx; exact ⟨.inl ⟨"min", rfl, by decide +kernel⟩, S.blt _ (by decide)⟩
              · split at hx
                · rename_i h; rw [beq_iff_eq.mp h]
                  split at hx
                  · cases hx; exact ⟨.inl ⟨"max", rfl, by decide +kernel⟩, S.blt _ (by decide)⟩
                  · cases hx; exact ⟨.inl ⟨"max", rfl, by decide +kernel⟩, S.blt _ (by decide)⟩
                · cases hx
theorem s_bi (S : SX X W ca c F k) {x : Str} {b : Bi} {mu : Bool} {es : List Expr} {rec : Expr → Ex} {p pos : Pos} (ih : ∀ e, SE X W ca fz F e (rec e)) (hg : c.sc.lookup x = some .globalImplicit) (hs : es.all noStar = true) (hne : es ≠ [])
    (hd : (x == "__debug__") = false) (hn : x ≠ "__name__") {n : Nat} (hx : biOf x n = some b) (hh : b ≠ .int → c.hot = false) : PE X (.Call (.Name x p) es [] pos) (te X.K ca W (ev F (.bi b mu (mkExs (es.map rec))))) := by
  cases es with
  | nil => exact absurd rfl hne
  | cons e es =>
    have hs' := hs
    simp only [List.all_cons, Bool.and_eq_true] at hs'
    have fin : ∀ {σ : L2.St} {H : Hp} {Q : VK}, te X.K ca W (ev F (.bi b mu (mkExs ((e :: es).map rec)))) σ H Q → tCB (rn X.K ca fun h ds => (R.opt (orD (biD b h ds) (dBi b h ds)) h).bind fun d h => mkL mu d h) (tas X.K ca W (evs F (mkExs ((e :: es).map rec)))) σ H Q := fun {σ H Q} q => by
      have q1 := sts_out (m := evs F (mkExs ((e :: es).map rec))) (f := fun xs h => (R.opt (orD (biD b h xs) (dBi b h xs)) h).bind fun d h => mkL mu d h) q
      exact tes_mono q1 fun xs H1 ⟨M, r, hp, ds, h1, h2, h3⟩ => ⟨W, σ, M, r, hp, ds, h1, h2, h3⟩
    obtain ⟨hb, hm⟩ := bi_name S hx
    have hc := opBi2 (X := X) (ca := ca) (b := b) (mu := mu) fun z => S.calm (hh z)
    rcases hb with ⟨id, h1, h2⟩ | ⟨T, h1, h2⟩
    · rw [h1] at hc
      exact PE.imp (pe_callB hc (S.glb x hg) hm h2 (s_args (fun e => (ih e).v) hs) hn hd (star_cons hs'.1) (star_any hs'.2)) fun σ H Q q => fin q
    · rw [h1] at hc
      exact PE.imp (pe_callTy hc (S.glb x hg) hm h2 (s_args (fun e => (ih e).v) hs) hn hd (star_cons hs'.1) (star_any hs'.2)) fun σ H Q q => fin q
theorem cl_name (S : SX X W ca c F k) {y : Str} {pos : Pos} {kk : Cl} (h : clOf c y = some kk) : isOwn kk = false ∧ ∃ n, clT kk = .type n ∧ PE X (.Name y pos) (tC (.ty n)) := by
  unfold clOf at h
  split at h
  · rename_i hg
    have hg := S.glb y (beq_iff_eq.mp hg)
    have fin : ∀ {z : Str} {kk : Cl} {n : String}, y = z → clT kk = .type n → isOwn kk = false → bootBuiltins z = some (.type n) → z ∈ bltNames → z ≠ "__name__" → (z == ("__debug__" : Str)) = false → isOwn kk = false ∧ ∃ n, clT kk = .type n ∧ PE X (.Name y pos) (tC (.ty n)) := fun {z kk n} e h1 h2 h3 h4 h5 h6 => by
      subst e
      exact ⟨h2, n, h1, pe_bltn hg (S.blt _ h4) h3 rfl h5 h6⟩
    split at h
    · rename_i e; cases h; exact fin (beq_iff_eq.mp e) rfl rfl (by decide +kernel) (by decide) (by decide) (by decide)
    · split at h
      · rename_i e; cases h; exact fin (beq_iff_eq.mp e) rfl rfl (by decide +kernel) (by decide) (by decide) (by decide)
      · split at h
        · rename_i e; cases h; exact fin (beq_iff_eq.mp e) rfl rfl (by decide +kernel) (by decide) (by decide) (by decide)
        · split at h
          · rename_i e; cases h; exact fin (beq_iff_eq.mp e) rfl rfl (by decide +kernel) (by decide) (by decide) (by decide)
          · split at h
            · rename_i e; cases h; exact fin (beq_iff_eq.mp e) rfl rfl (by decide +kernel) (by decide) (by decide) (by decide)
            · split at h
              · rename_i e; cases h; exact fin (beq_iff_eq.mp e) rfl rfl (by decide +kernel) (by decide) (by decide) (by decide)
              · cases h
  · cases h
theorem s_isi (S : SX X W ca c F k) {e : Expr} {y : Str} {py : Pos} {kk : Cl} {x : Ex} {p pos : Pos} (ha : SE X W ca fz F e x) (hg : c.sc.lookup (Str.ofString "isinstance") = some .globalImplicit) (hs : noStar e = true) (hk : clOf c y = some kk) :
    PE X (.Call (.Name "isinstance" p) [e, .Name y py] [] pos) (te X.K ca W (ev F (.isi x [kk]))) := by
  obtain ⟨ho, n, hn, hp⟩ := cl_name S (pos := py) hk
  refine PE.imp (pe_callB (call_isi (X := X)) (S.glb _ hg) (S.blt _ (by decide)) PyProof.Rows.boot_isinstance (pa_cons ha.v (pa_cons hp pa_nil (star_cons rfl)) (star_cons hs)) (by decide) (by decide) (star_cons hs) (star_any (by simp [noStar]))) fun σ H Q q => ?_
  have q1 := te_1 (m := ev F x) (f := fun d s h => (R.opt (orD (isi1 h [kk] d) (dIsi h [kk] d)) h).bind fun b h => .ok (D.bl b) h) (fun s h => rfl) q
  refine tes_mono q1 fun u H1 q2 => ?_
  obtain ⟨M, r, hp', sd, d, h1, h2, h3, h4⟩ := on1_out q2
  obtain ⟨b, e1, h5⟩ := h4.optb
  have fin : ∀ {t : Value} {b' : Bool}, TyX X.K H1 u t → PySem.W.kitOne X.K t (clT kk) = some b' → b' = b → rIsi X.K [u, .ty n] H1 Q := fun {t b'} ty kt e => by
    subst e
    rw [hn] at kt
    exact ⟨u, .ty n, t, .type n, b', rfl, .ty n, ty, kt, Post.now h1 h5 rep_bl⟩
  show rIsi X.K [u, .ty n] H1 Q
  rcases or_cases e1 with e1 | e1
  · have nr : ∀ n, now hp' d ≠ .ref n := fun n z => by
      unfold isi1 at e1
      rw [z] at e1
      cases e1
    obtain ⟨t, ty, kt⟩ := isi_now h1 h3 nr kk ho
    have e1' : isCl kk (now hp' d) = b := by
      unfold isi1 at e1
      cases z : now hp' d with
      | ref n => exact absurd z (nr n)
      | _ => rw [z] at e1; simpa using e1
    exact fin ty kt e1'
  · unfold dIsi at e1
    split at e1
    · simp only [Rep] at h3
      obtain ⟨a, rfl, ra⟩ := h3
      split at e1
      · rename_i ks e2
        cases e1
        obtain ⟨xs, e3, _⟩ := h1.objs _ a _ ra e2
        refine fin (t := .type "dict") (.base (.dK e3)) ?_ rfl
        clear h4 h5 q1 q2 q fin e1 hk
        cases kk <;> first | (simp [isOwn] at ho; done) | exact kit_ty (by decide +kernel)
      · rename_i ks e2
        cases e1
        obtain ⟨xs, e3, _⟩ := h1.objs _ a _ ra e2
        refine fin (t := .type "dict") (.base (.dT e3)) ?_ rfl
        clear h4 h5 q1 q2 q fin e1 hk
        cases kk <;> first | (simp [isOwn] at ho; done) | exact kit_ty (by decide +kernel)
      · cases e1
    · cases e1
/-- {} -/
theorem s_dnew {t : Bool} {pos : Pos} : PE X (.Dict [] [] pos) (te X.K ca W (ev F (.dnew t))) := by
  cases t with
  | false =>
    refine PE.imp pe_dnewK fun σ H Q q p hn => ?_
    obtain ⟨M, r, hp, sd, ds, h1, h2, h3, h4⟩ := q
    exact h4 ⟨fun a => M a ∨ a = p, r ++ [p], upd H p (.dK [])⟩ (.ref p) (step_mu hn) (sr_muO h1 hn ⟨[], upd_same, .nil⟩) (by
      simp only [Rep]
      exact ⟨p, rfl, by rw [← h1.len]; simp⟩)
  | true =>
    refine PE.imp pe_dnewT fun σ H Q q p hn => ?_
    obtain ⟨M, r, hp, sd, ds, h1, h2, h3, h4⟩ := q
    exact h4 ⟨fun a => M a ∨ a = p, r ++ [p], upd H p (.dT [])⟩ (.ref p) (step_mu hn) (sr_muO h1 hn ⟨[], upd_same, .nil⟩) (by
      simp only [Rep]
      exact ⟨p, rfl, by rw [← h1.len]; simp⟩)

theorem rng_out {e : Expr} {es : List Expr} (he : isRng c e = some es) : ∃ p p2, e = .Call (.Name (Str.ofString "range") p) es [] p2 ∧ c.sc.lookup (Str.ofString "range") = some .globalImplicit ∧ es.all noStar = true ∧ (es.length = 1 ∨ es.length = 2) := by
  unfold isRng at he
  split at he
  · rename_i x p es' p2
    split at he
    · rename_i hx
      cases he
      simp only [Bool.and_eq_true, beq_iff_eq, Bool.or_eq_true] at hx
      obtain ⟨⟨⟨h1, h2⟩, h3⟩, h4⟩ := hx
      have hx' : x = Str.ofString "range" := h1
      subst hx'
      exact ⟨p, p2, rfl, h2, h3, h4⟩
    · cases he
  · cases he
theorem s_lr (S : SX X W ca c F k) (hh : c.hot = false) {rec : Expr → Ex} (ih : ∀ e, SE X W ca fz F e (rec e)) {x : Str} {es es' : List Expr} {mu : Bool} {p pos : Pos} (hg : c.sc.lookup x = some .globalImplicit) (h : lrOf c x es = some es') :
    PE X (.Call (.Name x p) es [] pos) (te X.K ca W (ev F (.lrng mu (es'.length == 2) (mkExs (es'.map rec))))) := by
  unfold lrOf at h
  split at h
  · rename_i hx
    have hx' : x = Str.ofString "list" := beq_iff_eq.mp hx
    subst hx'
    split at h
    · rename_i a
      obtain ⟨p1, p2, rfl, hg2, hs, hl⟩ := rng_out h
      have hm : X.mg (Str.ofString "list") = none := S.blt _ (by decide)
      have hm2 : X.mg (Str.ofString "range") = none := S.blt _ (by decide)
      have ha := s_args (fun e => (ih e).v) hs
      have out : ∀ {two : Bool} {σ : L2.St} {H : Hp} {Q : VK}, te X.K ca W (ev F (.lrng mu two (mkExs (es'.map rec)))) σ H Q → tas X.K ca W (evs F (mkExs (es'.map rec))) σ H fun xs H1 =>
          ∃ M r hp ds, SR X.K ca ⟨M, r, H1⟩ hp ∧ Reps X.K ⟨M, r, H1⟩ ds xs ∧ Post X.K ca W (Rep X.K) σ ⟨M, r, H1⟩ ((R.opt (rngD two ds) hp).bind fun ds h => @ite _ (ds.length ≤ 16777216) (Classical.propDecidable (ds.length ≤ 16777216)) (mkL mu (.lst ds) h) (.bad)) Q := fun {two σ H Q} q =>
        sts_out (m := evs F (mkExs (es'.map rec))) (f := fun xs h => (R.opt (rngD two xs) h).bind fun ds h => @ite _ (ds.length ≤ 16777216) (Classical.propDecidable (ds.length ≤ 16777216)) (mkL mu (.lst ds) h) (.bad)) (by simpa only [ev] using q)
      match es', hl with
      | [], hl => simp at hl
      | [a], hl =>
        simp only [List.all_cons, Bool.and_eq_true] at hs
        refine PE.imp (pe_lr1 (S.calm hh) (S.glb _ hg) hm (S.glb _ hg2) hm2 ha (star_cons hs.1)) fun σ H Q q => tes_mono (out q) fun xs H1 ⟨M, r, hp, ds, k1, k2, k3⟩ => ?_
        obtain ⟨es, e, k4⟩ := Post.optb k3
        unfold rngD at e
        split at e
        · rename_i j _
          split at e
          · rename_i hj
            cases e
            obtain ⟨v, rfl, rv⟩ := k2.one
            split at k4
            · rename_i hl
              refine ⟨j, by rw [int_of rv], by omega, by simpa using hl, fun q hq => mk_list k1 ?_ k4 q hq⟩
              have : ∀ n : Nat, Reps X.K ⟨M, r, H1⟩ ((List.range n).map fun n => D.int (n : Nat)) ((List.range n).map fun k => V.int (0 + (k : Nat))) := fun n => by
                have := scr_reps (K := X.K) (c := ⟨M, r, H1⟩) (List.map (fun (k : Nat) => (k : Int)) (List.range n))
                simpa [List.map_map, Function.comp_def] using this
              simpa [lrV] using this j.toNat
            · exact k4.elim
          · cases e
        · exact absurd ‹([a].length == 2) = true› (by simp)
        · cases e
      | [a, b], hl =>
        simp only [List.all_cons, Bool.and_eq_true] at hs
        refine PE.imp (pe_lr2 (S.calm hh) (S.glb _ hg) hm (S.glb _ hg2) hm2 ha (by rw [star_cons hs.1, star_cons hs.2.1]; rfl) (star_cons hs.2.1)) fun σ H Q q => tes_mono (out q) fun xs H1 ⟨M, r, hp, ds, k1, k2, k3⟩ => ?_
        obtain ⟨es, e, k4⟩ := Post.optb k3
        unfold rngD at e
        split at e
        · exact absurd ‹([a, b].length == 2) = false› (by simp)
        · rename_i i j _
          split at e
          · rename_i hj
            cases e
            obtain ⟨v, w, rfl, rv, rw'⟩ := k2.two
            split at k4
            · rename_i hl
              refine ⟨i, j, by rw [int_of rv, int_of rw'], by omega, by simpa using hl, fun q hq => mk_list k1 ?_ k4 q hq⟩
              have := scr_reps (K := X.K) (c := ⟨M, r, H1⟩) (List.map (fun (k : Nat) => i + (k : Int)) (List.range (j - i).toNat))
              simpa [List.map_map, Function.comp_def, lrV] using this
            · exact k4.elim
          · cases e
        · cases e
      | _ :: _ :: _ :: _, hl => simp at hl
    · cases h
  · cases h
/-! slices -/
theorem s_op {rec : Expr → Ex} (ih : ∀ e, SE X W ca fz F e (rec e)) : ∀ (o : Option Expr), PO X o (tes X.K ca W (fun _ a b => a = b) (fun _ => evO F (cOp rec o)) [])
  | none => ⟨fun pins s σ H Q I q => po_none.run pins s σ H Q I (by
      obtain ⟨M, r, hp, sd, ds, h1, h2, h3, h4⟩ := q
      simp only [cOp, evO] at h4
      exact h4 ⟨M, r, H⟩ none (Step.refl _) h1 rfl)⟩
  | some e => ⟨fun pins s σ H Q I q => (po_some (ih e).v).run pins s σ H Q I (by
      have q1 := te_1 (m := ev F (rec e)) (f := fun d s h => match d with | .int i => .ok (some i) h | _ => .bad) (fun s h => by simp only [cOp, evO]; try rfl) q
      refine tes_mono q1 fun v H1 q2 => ?_
      obtain ⟨M, r, hp, sd, d, h1, h2, h3, h4⟩ := on1_out q2
      cases d with
      | int i => exact ⟨i, int_of h3, h4 ⟨M, r, H1⟩ _ (Step.refl _) h1 rfl⟩
      | _ => exact h4.elim)⟩
theorem s_sli {a : Expr} {lo hi : Option Expr} {x : Ex} {rec : Expr → Ex} {mu : Bool} {p2 pos : Pos} (ih : ∀ e, SE X W ca fz F e (rec e)) (ha : SE X W ca fz F a x) :
    PE X (.Subscript a (.Slice lo hi none p2) pos) (te X.K ca W (ev F (.sli mu x (cOp rec lo) (cOp rec hi)))) := by
  refine PE.imp (pe_slice (opSli (ca := ca) (mu := mu)) ha.v (s_op ih lo) (s_op ih hi)) fun σ H Q q => ?_
  have q1 := te_1 (m := ev F x) (f := fun d s h => (evO F (cOp rec lo) s h).bind fun l h => (evO F (cOp rec hi) s h).bind fun u h => (R.opt (sliD h d l u) h).bind fun d h => mkL mu d h) (fun s h => by simp only [ev]) q
  refine tes_mono q1 fun v H1 q2 => ?_
  obtain ⟨M, r, hp, sd, d, h1, h2, h3, h4⟩ := on1_out q2
  refine ⟨M, r, hp, sd, [], h1, h2, (by simp only [Reps]), ?_⟩
  show Post X.K ca W (fun _ a b => a = b) σ _ (evO F (cOp rec lo) sd hp) _
  cases e1 : evO F (cOp rec lo) sd hp with
  | bad => rw [e1] at h4; exact h4
  | exc e h => rw [e1] at h4; exact h4
  | ok l hp2 =>
    rw [e1] at h4
    intro c2 l' st2 sr2 el
    obtain rfl : l = l' := el
    obtain ⟨M2, r2, H2⟩ := c2
    have h5 := Post.step st2 h4
    simp only [R.bind_ok] at h5
    refine ⟨M2, r2, hp2, sd, [], sr2, h2.step h1.inM st2, (by simp only [Reps]), ?_⟩
    show Post X.K ca W (fun _ a b => a = b) σ _ (evO F (cOp rec hi) sd hp2) _
    cases e2 : evO F (cOp rec hi) sd hp2 with
    | bad => rw [e2] at h5; exact h5
    | exc e h => rw [e2] at h5; exact h5
    | ok u hp3 =>
      rw [e2] at h5
      intro c3 u' st3 sr3 eu
      obtain rfl : u = u' := eu
      obtain ⟨M3, r3, H3⟩ := c3
      have h6 := Post.step st3 h5
      simp only [R.bind_ok] at h6
      exact ⟨W, σ, M3, r3, hp3, d, sr3, (h3.step h1.inM st2).step sr2.inM st3, h6⟩
/-! methods -/
theorem base_ok {o : Expr} {m : Str} {env : Env} (h : okBase o = true) : attributeBase o m env (eval o env) = eval o env := by
  unfold attributeBase
  split
  · simp [okBase] at h
  · rfl
theorem s_me {o e : Expr} {es : List Expr} {m : Str} {km : Me} {x : Ex} {rec : Expr → Ex} {mu : Bool} {apos pos : Pos} (ih : ∀ e, SE X W ca fz F e (rec e)) (ho : SE X W ca fz F o x) (hm : meOf m = some km) (hs : (e :: es).all noStar = true) (hb : okBase o = true)
    (hl : (apos.endLine == pos.line) = true) (hn : (e :: es).length ≤ 3) : PE X (.Call (.Attribute o m apos) (e :: es) [] pos) (te X.K ca W (ev F (.me km mu x (mkExs ((e :: es).map rec))))) := by
  have hs' := hs
  simp only [List.all_cons, Bool.and_eq_true] at hs'
  have hfew : ((backTo pos (starEach (e :: es) X.env)).all (fun x => !x.1) && (backToKw pos (keywordEach [] X.env)).all (fun x => x.1.isSome)
      && decide ((e :: es).length + ([] : List Keyword).length + (if ([] : List Keyword).isEmpty then 0 else 1) < 30)) = true := by
    have h1 := star_any (env := X.env) (pos := pos) hs
    have h2 : (backTo pos (starEach (e :: es) X.env)).all (fun x => !x.1) = true := by
      rw [List.all_eq_not_any_not]
      simpa using h1
    rw [h2]
    simp [backToKw, keywordEach]
    simp at hn
    omega
  have fin : ∀ {T id : String} {name : Str}, PlainAttrs T → Slot T name id → typeOf (.builtin id) = pure (.type "method_descriptor") → meTy km = T → meId km = id → m = name → PE X (.Call (.Attribute o m apos) (e :: es) [] pos) (te X.K ca W (ev F (.me km mu x (mkExs ((e :: es).map rec))))) := fun {T id name} pa sl hty e1 e2 e3 => by
    subst e1 e2 e3
    refine PE.imp (pe_bm pa sl hty (opMe (ca := ca) (mu := mu)) ho.v (s_args (fun e => (ih e).v) hs) (base_ok hb) hfew hl (star_cons hs'.1) (star_any hs'.2)) fun σ H Q q => ?_
    have q1 := te_1 (m := ev F x) (f := fun d s h => if meT km h d then (evs F (mkExs ((e :: es).map rec)) s h).bind fun xs h => thenMe km mu h d xs else .bad) (fun s h => by simp only [ev]; try rfl) q
    refine tes_mono q1 fun v H1 q2 => ?_
    obtain ⟨M, r, hp, sd, d, h1, h2, h3, h4⟩ := on1_out q2
    split at h4
    · rename_i ht
      refine ⟨meT_ty h1 h3 ht, M, r, hp, sd, [], h1, h2, (by simp only [Reps]), ?_⟩
      show Post X.K ca W (Reps X.K) σ _ (evs F (mkExs ((e :: es).map rec)) sd hp) _
      cases e1 : evs F (mkExs ((e :: es).map rec)) sd hp with
      | bad => rw [e1] at h4; exact h4
      | exc e h => rw [e1] at h4; exact h4
      | ok xs hp2 =>
        rw [e1] at h4
        intro c2 ys st2 sr2 rs
        obtain ⟨M2, r2, H2⟩ := c2
        exact ⟨W, σ, M2, r2, hp2, d, xs, sr2, h3.step h1.inM st2, rs, Post.step st2 h4⟩
    · exact h4.elim
  unfold meOf at hm
  split at hm
  · rename_i h; cases hm; exact fin PySem.F.plainAttrs_list PySem.F.slot_list_append PySem.F.type_list_append rfl rfl (beq_iff_eq.mp h)
  · split at hm
    · rename_i h; cases hm; exact fin PySem.F.plainAttrs_str PySem.F.slot_str_join PySem.F.type_str_join rfl rfl (beq_iff_eq.mp h)
    · split at hm
      · rename_i h; cases hm; exact fin PySem.F.plainAttrs_str PySem.F.slot_str_strip PySem.F.type_str_strip rfl rfl (beq_iff_eq.mp h)
      · split at hm
        · rename_i h; cases hm; exact fin PySem.F.plainAttrs_str PySem.F.slot_str_startswith PySem.F.type_str_startswith rfl rfl (beq_iff_eq.mp h)
        · split at hm
          · rename_i h; cases hm; exact fin PySem.F.plainAttrs_list PySem.F.slot_list_pop PySem.F.type_list_pop rfl rfl (beq_iff_eq.mp h)
          · split at hm
            · rename_i h; cases hm; exact fin PySem.F.plainAttrs_list PySem.F.slot_list_insert PySem.F.type_list_insert rfl rfl (beq_iff_eq.mp h)
            · split at hm
              · rename_i h; cases hm; exact fin PySem.F.plainAttrs_list PySem.F.slot_list_reverse PySem.F.type_list_reverse rfl rfl (beq_iff_eq.mp h)
              · split at hm
                · rename_i h; cases hm; exact fin PySem.F.plainAttrs_list PySem.F.slot_list_clear PySem.F.type_list_clear rfl rfl (beq_iff_eq.mp h)
                · split at hm
                  · rename_i h; cases hm; exact fin PySem.F.plainAttrs_str PySem.F.slot_str_split PySem.F.type_str_split rfl rfl (beq_iff_eq.mp h)
                  · split at hm
                    · rename_i h; cases hm; exact fin PySem.F.plainAttrs_str PySem.F.slot_str_partition PySem.F.type_str_partition rfl rfl (beq_iff_eq.mp h)
                    · cases hm
theorem s_me0 {o : Expr} {m : Str} {km : Me} {x : Ex} {mu : Bool} {apos pos : Pos} (ho : SE X W ca fz F o x) (hm : meOf m = some km) (hb : okBase o = true) (hl : (apos.endLine == pos.line) = true) :
    PE X (.Call (.Attribute o m apos) [] [] pos) (te X.K ca W (ev F (.me km mu x .nil))) := by
  have fin : ∀ {T id : String} {name : Str}, PlainAttrs T → Slot T name id → typeOf (.builtin id) = pure (.type "method_descriptor") → meTy km = T → meId km = id → m = name → PE X (.Call (.Attribute o m apos) [] [] pos) (te X.K ca W (ev F (.me km mu x .nil))) := fun {T id name} pa sl hty e1 e2 e3 => by
    subst e1 e2 e3
    refine PE.imp (pe_bm0 pa sl hty (opMe (ca := ca) (mu := mu)) ho.v (base_ok hb) hl) fun σ H Q q => ?_
    have q1 := te_1 (m := ev F x) (f := fun d s h => if meT km h d then thenMe km mu h d [] else .bad) (fun s h => by simp only [ev, evs, R.bind_ok]; rfl) q
    refine tes_mono q1 fun v H1 q2 => ?_
    obtain ⟨M, r, hp, sd, d, h1, h2, h3, h4⟩ := on1_out q2
    split at h4
    · rename_i ht
      exact ⟨meT_ty h1 h3 ht, W, σ, M, r, hp, d, [], h1, h3, (by simp only [Reps]), h4⟩
    · exact h4.elim
  unfold meOf at hm
  split at hm
  · rename_i h; cases hm; exact fin PySem.F.plainAttrs_list PySem.F.slot_list_append PySem.F.type_list_append rfl rfl (beq_iff_eq.mp h)
  · split at hm
    · rename_i h; cases hm; exact fin PySem.F.plainAttrs_str PySem.F.slot_str_join PySem.F.type_str_join rfl rfl (beq_iff_eq.mp h)
    · split at hm
      · rename_i h; cases hm; exact fin PySem.F.plainAttrs_str PySem.F.slot_str_strip PySem.F.type_str_strip rfl rfl (beq_iff_eq.mp h)
      · split at hm
        · rename_i h; cases hm; exact fin PySem.F.plainAttrs_str PySem.F.slot_str_startswith PySem.F.type_str_startswith rfl rfl (beq_iff_eq.mp h)
        · split at hm
          · rename_i h; cases hm; exact fin PySem.F.plainAttrs_list PySem.F.slot_list_pop PySem.F.type_list_pop rfl rfl (beq_iff_eq.mp h)
          · split at hm
            · rename_i h; cases hm; exact fin PySem.F.plainAttrs_list PySem.F.slot_list_insert PySem.F.type_list_insert rfl rfl (beq_iff_eq.mp h)
            · split at hm
              · rename_i h; cases hm; exact fin PySem.F.plainAttrs_list PySem.F.slot_list_reverse PySem.F.type_list_reverse rfl rfl (beq_iff_eq.mp h)
              · split at hm
                · rename_i h; cases hm; exact fin PySem.F.plainAttrs_list PySem.F.slot_list_clear PySem.F.type_list_clear rfl rfl (beq_iff_eq.mp h)
                · split at hm
                  · rename_i h; cases hm; exact fin PySem.F.plainAttrs_str PySem.F.slot_str_split PySem.F.type_str_split rfl rfl (beq_iff_eq.mp h)
                  · split at hm
                    · rename_i h; cases hm; exact fin PySem.F.plainAttrs_str PySem.F.slot_str_partition PySem.F.type_str_partition rfl rfl (beq_iff_eq.mp h)
                    · cases hm
/-! a comprehension's own context -/
theorem lookup_relS_free {sc : Scope} : ∀ {names : List (Str × NameKind)} {x : Str}, names.lookup x = some .free →
    (names.map fun (n, k) => if (k == NameKind.free && sc.kind == .function && sc.names.lookup n == some .cell) then (n, NameKind.cell) else (n, k)).lookup x = some .cell ∨
    (names.map fun (n, k) => if (k == NameKind.free && sc.kind == .function && sc.names.lookup n == some .cell) then (n, NameKind.cell) else (n, k)).lookup x = some .free
  | [], x, h => by simp at h
  | (n, k₀) :: r, x, h => by
    have ih := @lookup_relS_free sc r x
    show List.lookup x ((if (k₀ == NameKind.free && sc.kind == .function && sc.names.lookup n == some .cell) = true then (n, NameKind.cell) else (n, k₀)) :: (r.map _)) = _ ∨ List.lookup x ((if (k₀ == NameKind.free && sc.kind == .function && sc.names.lookup n == some .cell) = true then (n, NameKind.cell) else (n, k₀)) :: (r.map _)) = _
    cases hx : x == n with
    | true =>
      simp only [List.lookup_cons, hx] at h
      cases h
      by_cases hc : (NameKind.free == NameKind.free && sc.kind == .function && sc.names.lookup n == some .cell) = true
      · rw [if_pos hc]; simp only [List.lookup_cons, hx]; exact .inl trivial
      · rw [if_neg hc]; simp only [List.lookup_cons, hx]; exact .inr trivial
    | false =>
      simp only [List.lookup_cons, hx] at h
      by_cases hc : (k₀ == NameKind.free && sc.kind == .function && sc.names.lookup n == some .cell) = true
      · rw [if_pos hc]; simp only [List.lookup_cons, hx]; exact ih h
      · rw [if_neg hc]; simp only [List.lookup_cons, hx]; exact ih h
theorem SX.blk (S : SX X W ca c F k) (hh : c.hot = false) {scope : Scope} (hk : scope.kind = .function) (s : Shared) (H : Hp) (C : Addr) (cl : List (Str × Addr)) (fp : List Addr) :
    SX (X.blk s H scope (compEnvC scope cl C X.env) fp) WN ca { c with sc := scope.names, top := none } F k where
  tk := takes0
  kd := hk
  top := fun sc h => by cases h
  stk := fun h => by cases h
  pass := PassesOwn.never
  calm := S.calm
  room := S.room
  hu := S.hu
  N := S.N
  nd := S.nd
  loc := fun x h => by
    unfold isLoc at h
    show (relS scope X.env.scope).names.lookup x = _ ∨ (relS scope X.env.scope).names.lookup x = _ ∨ (relS scope X.env.scope).names.lookup x = _
    split at h
    · rename_i q; exact .inl (lookup_relS_keep (by decide) q)
    · rename_i q; exact .inr (.inl (lookup_relS_keep (by decide) q))
    · rename_i q; exact .inr (lookup_relS_free q)
    · cases h
  sto := fun x h => by
    have h' : scope.names.lookup x = some .local ∨ scope.names.lookup x = some .cell := h
    rcases h' with h' | h'
    · exact ⟨.inl (lookup_relS_keep (by decide) h'), .inr (lookup_relS_keep (by decide) h')⟩
    · exact ⟨.inr (lookup_relS_keep (by decide) h'), .inl (by show (scope.names.lookup x == some .cell) = true; rw [h']; rfl)⟩
  glb := fun x h => lookup_relS_keep (by decide) h
  cst := S.cst
  fns := fun i x h => ⟨(S.fns i x h).ex⟩
  few := S.few
  blt := S.blt
  cool := S.cool
  xa0 := S.xa0
  frs := S.frs
  exn := fun j h => by
    have h' : c.exn = some j := h
    rw [S.cool hh] at h'; cases h'
  cls := S.cls
  tups := S.tups
theorem set_ok {it : Expr} (hs : noSet it = true) (env : Env) : ∀ x, foldedSetIterable it env x = pure x := fun x => by
  cases it <;> first | rfl | (simp [noSet] at hs; done)
/-- what a comprehension needs -/
theorem s_lc (S : SX X W ca c F k) (hh : c.hot = false) {rec recI : Expr → Ex} (ih : ∀ e, SE X W ca fz F e (rec e)) {elt : Expr} {gs : List Comprehension} {scope : Scope} {pos : Pos}
    (ihI : ∀ (Y : Cx), SX Y WN ca { c with sc := scope.names, top := none } F k → Y.K = X.K → ∀ e, SE Y WN ca fz F e (recI e)) {y : Ex} (hy : y = cLc c rec recI elt gs scope pos) (hb : y ≠ .bad) :
    ∃ tg iter ifs g o, gs = [⟨tg, iter, ifs, 0⟩] ∧ y = .comp (c.isMu pos) ((ownIx c scope).map (·.2)) g (cIx c rec tg iter) o (recI elt) ∧ (∀ i ∈ g.ixs, i ∈ (ownIx c scope).map (·.2)) ∧ BlkOk X.N X.env.scope scope (ownIx c scope) ∧
      (∀ x, foldedSetIterable iter X.env x = pure x) ∧ PI X tg iter (ti X.K ca W (evI F (cIx c rec tg iter))) ∧
      ∀ (s : Shared) (H : Hp) (C : Addr) (cl : List (Str × Addr)) (fp : List Addr), PG (X.blk s H scope (compEnvC scope cl C X.env) fp) tg (tgG X.K g) ∧
        PTs (X.blk s H scope (compEnvC scope cl C X.env) fp) ifs (tes X.K ca WN beq' (fun _ => evC F o) []) ∧ PE (X.blk s H scope (compEnvC scope cl C X.env) fp) elt (te X.K ca WN (ev F (recI elt))) := by
  unfold cLc at hy
  split at hy
  · rename_i tg iter ifs sc hsc
    split at hy
    · rename_i hblk
      simp only [Bool.and_eq_true] at hblk
      obtain ⟨h1, h2⟩ := hblk
      have bo := blkOk_by h1
      obtain ⟨t1, t2⟩ := S.top sc hsc
      split at hy
      · rename_i g o hg ho
        split at hy
        · rename_i hix
          refine ⟨tg, iter, ifs, g, o, rfl, hy, fun i hi => by simpa using List.all_eq_true.mp hix i hi, ?_, set_ok h2 _, s_it S ih tg iter, fun s H C cl fp => ?_⟩
          · rw [S.N, t1]; exact bo
          · have SB := S.blk hh bo.kind s H C cl fp
            have i2 := ihI _ SB rfl
            refine ⟨s_tg SB hh hg, ?_, (i2 elt).v⟩
            unfold cIf at ho
            split at ho
            · cases ho
              exact ⟨fun pins s σ H Q I q => pts_nil.run pins s σ H Q I (by
                obtain ⟨M, r, hp, sd, ds, k1, k2, k3, k4⟩ := q
                simp only [evC] at k4
                exact k4 ⟨M, r, H⟩ true (Step.refl _) k1 rfl)⟩
            · rename_i e1
              cases ho
              exact ⟨fun pins s σ H Q I q => (pts_one (i2 e1).t).run pins s σ H Q I (by simp only [evC] at q; exact q)⟩
            · cases ho
        · exact absurd hy hb
      · exact absurd hy hb
    · exact absurd hy hb
  · exact absurd hy hb

theorem s_lv (S : SX X W ca c F k) (hh : c.hot = false) {rec : Expr → Ex} (ih : ∀ e, SE X W ca fz F e (rec e)) {x : Str} {es : List Expr} {e : Expr} {tup mu : Bool} {p pos : Pos} (hg : c.sc.lookup x = some .globalImplicit) (h : lvOf c x es = some (tup, e)) :
    PE X (.Call (.Name x p) es [] pos) (te X.K ca W (ev F (.lrev mu tup (rec e)))) := by
  have fin : ∀ {a : Expr} {tup : Bool}, x = Str.ofString (if tup then "tuple" else "list") → x ∈ bltNames → isRev c a = some e → PE X (.Call (.Name x p) [a] [] pos) (te X.K ca W (ev F (.lrev mu tup (rec e)))) := fun {a tup} hx hb hr => by
    obtain ⟨p1, p2, rfl, hg2, hs⟩ := rev_out hr
    refine PE.imp (pe_lrev (tup := tup) hx (S.calm hh) (S.glb _ hg) (S.blt _ hb) (S.glb _ hg2) (S.blt _ (by decide)) (ih e).v (star_cons hs)) fun σ H Q q => ?_
    have q1 := te_1 (m := ev F (rec e)) (f := fun d s h => (R.opt (lrevD h d) h).bind fun ds h => if tup then .ok (.tup ds) h else mkL mu (.lst ds) h) (fun s h => rfl) q
    refine tes_mono q1 fun u H1 q2 => ?_
    obtain ⟨M, r, hp, sd, d, h1, h2, h3, h4⟩ := on1_out q2
    obtain ⟨ds, e1, k4⟩ := Post.optb h4
    have inM : ∀ a ∈ r, M a := h1.inM
    have go : ∀ {xs : List V} {as : List D}, Reps X.K ⟨M, r, H1⟩ as xs → as.reverse = ds → ∀ q, H1 q = none → Q (.ref q) (upd H1 q (if tup then .tup xs.reverse else .lst xs.reverse)) := fun {xs as} rr e2 qq hn => by
      have rrev : Reps X.K ⟨M, r, H1⟩ ds xs.reverse := by
        rw [← e2]
        clear e2 k4
        induction as generalizing xs with
        | nil => simp only [Reps] at rr; subst rr; simp [Reps]
        | cons d ds ih =>
          simp only [Reps] at rr
          obtain ⟨y, ys, rfl, r1, r2⟩ := rr
          rw [List.reverse_cons, List.reverse_cons]
          exact (ih r2).snoc r1
      cases tup with
      | true => exact mk_tup h1 rrev k4 qq hn
      | false => exact mk_list h1 rrev k4 qq hn
    have lists : asL hp d = some ds.reverse → ∃ (a : Addr) (xs : List V), u = .ref a ∧ (SqL X.K H1 a xs ∨ SqT X.K H1 a xs) ∧ ∀ q, H1 q = none → Q (.ref q) (upd H1 q (if tup then .tup xs.reverse else .lst xs.reverse)) := fun e => by
      obtain ⟨a, xs, rfl, hq, rr⟩ := asL_rep h1 h3 e
      exact ⟨a, xs, rfl, .inl (.of hq), go rr (by simp)⟩
    cases d with
    | tup as =>
      cases e1
      simp only [Rep] at h3
      obtain ⟨a, xs, rfl, t, rr⟩ := h3
      exact ⟨a, xs, rfl, .inr t.sq, go rr rfl⟩
    | scr ns =>
      cases e1
      simp only [Rep] at h3
      obtain ⟨a, rfl, t⟩ := h3
      exact ⟨a, _, rfl, .inl t.sq, go (scr_reps ns) rfl⟩
    | lst as => cases e1; exact lists (by simp [asL])
    | ref n =>
      simp only [lrevD, Option.map_eq_some_iff] at e1
      obtain ⟨as, e2, rfl⟩ := e1
      exact lists (by rw [e2]; simp)
    | _ => simp [lrevD, asL] at e1
  unfold lvOf at h
  split at h
  · rename_i a
    split at h
    · rename_i hx
      obtain ⟨e', hr, e2⟩ := Option.map_eq_some_iff.mp h
      cases e2
      exact fin (tup := false) (beq_iff_eq.mp hx) (by rw [beq_iff_eq.mp hx]; decide) hr
    · split at h
      · rename_i hx
        obtain ⟨e', hr, e2⟩ := Option.map_eq_some_iff.mp h
        cases e2
        exact fin (tup := true) (beq_iff_eq.mp hx) (by rw [beq_iff_eq.mp hx]; decide) hr
      · cases h
  · cases h
theorem isE_or {t : Expr} : cIsE c t = .bad ∨ ∃ r, cIsE c t = .isE r := by
  unfold cIsE
  split
  · split
    · split
      · exact .inr ⟨_, rfl⟩
      · exact .inl rfl
    · exact .inl rfl
  · split
    · split
      · exact .inr ⟨_, rfl⟩
      · exact .inl rfl
    · exact .inl rfl
theorem sE : ∀ (n : Nat) {X : Cx} {W : WX} {c : CE} (S : SX X W ca c F k) (e : Expr), SE X W ca fz F e (cE c n e)
  | 0, X, W, c, S, e => SE.no rfl
  | n + 1, X, W, c, S, e => by
    have ih := fun e => sE n S e
    have ihI : ∀ (scope : Scope) (Y : Cx), SX Y WN ca { c with sc := scope.names, top := none } F k → Y.K = X.K → ∀ e, SE Y WN ca fz F e (cE { c with sc := scope.names, top := none } n e) := fun scope Y SY _ e => sE n SY e
    unfold cE
    cases e with
    | Name x p => exact SE.plain (s_name S x p) fun _ => rfl
    | Constant kc m p => exact SE.plain (s_const kc m p) fun _ => rfl
    | BinOp a op b p => exact SE.plain (s_bin (ih a) (ih b)) fun _ => rfl
    | UnaryOp op a p =>
      cases op with
      | Not => exact s_not (ih a)
      | USub => exact ⟨s_neg (ih a), PT.imp (pt_truth (s_neg (ih a)) fun _ => rfl) fun σ H Q q => tt_te q⟩
      | _ => exact SE.no rfl
    | BoolOp op es p =>
      cases es with
      | nil => exact SE.no rfl
      | cons a r =>
        obtain ⟨h1, h2⟩ := s_bool (op := op) (pos := p) ih (a :: r) (by simp)
        exact ⟨h1, h2.pt⟩
    | Compare a ops bs p =>
      match ops, bs with
      | [op], [b] => exact s_cmp S (ih a) (ih b)
      | [o1, o2], [b, d] =>
        simp only
        split
        · rename_i h
          simp only [Bool.and_eq_true] at h
          exact s_chn S (ih a) (ih b) (ih d) h.2
        · exact SE.no rfl
      | [], _ => exact SE.no rfl
      | [_], [] => exact SE.no rfl
      | [_], _ :: _ :: _ => exact SE.no rfl
      | [_, _], [] => exact SE.no rfl
      | [_, _], [_] => exact SE.no rfl
      | [_, _], _ :: _ :: _ :: _ => exact SE.no rfl
      | _ :: _ :: _ :: _, _ => exact SE.no rfl
    | Tuple es m p =>
      simp only
      split
      · rename_i h; exact SE.plain (s_tup ih h) fun _ => rfl
      · exact SE.no rfl
    | List es p =>
      simp only
      split
      · rename_i h; exact SE.plain (s_lst ih h) fun _ => rfl
      · exact SE.no rfl
    | Dict ks vs p =>
      match ks, vs with
      | [], [] => exact SE.plain s_dnew fun _ => rfl
      | [], _ :: _ => exact SE.no rfl
      | _ :: _, _ => exact SE.no rfl
    | Subscript a i p =>
      cases i with
      | Slice lo hi st p2 =>
        cases st with
        | none => exact SE.plain (s_sli ih (ih a)) fun _ => rfl
        | some _ => exact SE.no rfl
      | _ => first | exact SE.plain (s_idx S (ih a) (ih _) rfl) fun _ => rfl | exact SE.no rfl
    | Attribute o f p =>
      simp only
      split
      · rename_i h
        simp only [Bool.and_eq_true] at h
        have hf : f = payF := beq_iff_eq.mp h.2
        subst hf
        exact SE.plain (s_exf S h.1) fun _ => rfl
      · exact SE.no rfl
    | ListComp elt gs scope p =>
      simp only
      split
      · exact SE.no rfl
      · rename_i hh
        have hh : c.hot = false := by simpa using hh
        by_cases hb : cLc c (cE c n) (cE { c with sc := scope.names, top := none } n) elt gs scope p = .bad
        · rw [hb]; exact SE.no rfl
        · obtain ⟨tg, iter, ifs, g, o, rfl, hy, hv, bo, hset, pi, hh'⟩ := s_lc S hh ih (ihI scope) rfl hb
          rw [hy]
          exact SE.plain (PE.imp (pe_lc (S.calm hh) (by rw [S.N]; exact S.nd) pi bo (fun s H C cl fp => (hh' s H C cl fp).1) (fun s H C cl fp => (hh' s H C cl fp).2.1) (fun s H C cl fp => (hh' s H C cl fp).2.2) hset) fun σ H Q q => lc_out (S.free hh) hv q) fun _ => rfl
    | Call f es ks p =>
      simp only
      unfold cCall
      split
      · rename_i x p'
        split
        · rename_i h
          simp only [Bool.and_eq_true, Bool.not_eq_true', beq_iff_eq] at h
          obtain ⟨⟨⟨⟨h1, h2⟩, h3⟩, h4⟩, h5⟩ := h
          have hne : es ≠ [] := by intro z; subst z; simp at h3
          have h5' : x ≠ "__name__" := by intro z; subst z; simp at h5
          split
          · rename_i i hi
            split
            · exact SE.no rfl
            · rename_i hh
              exact SE.plain (s_own S (by simpa using hh) ih h1 (ixOf_get0 hi) h2 hne h4) fun _ => rfl
          · split
            · rename_i es' hlr
              split
              · exact SE.no rfl
              · rename_i hh
                exact SE.plain (s_lr S (by simpa using hh) ih h1 hlr) fun _ => rfl
            rename_i hlr
            clear hlr
            split
            · rename_i tup e hlv
              split
              · exact SE.no rfl
              · rename_i hh
                exact SE.plain (s_lv S (by simpa using hh) ih h1 hlv) fun _ => rfl
            rename_i hlv
            clear hlv
            split
            · rename_i hx
              have hx := beq_iff_eq.mp hx
              subst hx
              split
              · rename_i e t
                simp only [List.all_cons, Bool.and_eq_true] at h2
                split
                · rename_i he
                  rcases isE_or (c := c) (t := t) with ht | ⟨r, ht⟩
                  · rw [ht]; exact SE.no rfl
                  · rw [ht]; exact SE.plain (s_isE S h1 he h2.2.1 ht) fun _ => rfl
                split
                · rename_i y hy
                  split
                  · rename_i kk hk
                    obtain ⟨py, rfl⟩ : ∃ py, t = .Name y py := by
                      unfold nameOf at hy
                      split at hy
                      · cases hy; exact ⟨_, rfl⟩
                      · cases hy
                    exact SE.plain (s_isi S (ih e) h1 h2.1 hk) fun _ => rfl
                  · exact SE.no rfl
                · exact SE.no rfl
              · exact SE.no rfl
            · split
              · rename_i b hb
                split
                · exact SE.no rfl
                · rename_i hh
                  exact SE.plain (s_bi S ih h1 h2 hne h4 h5' hb fun z => by
                    cases hhot : c.hot with
                    | false => rfl
                    | true =>
                      exfalso
                      apply hh
                      rw [hhot]
                      simpa using z) fun _ => rfl
              · exact SE.no rfl
        · exact SE.no rfl
      · rename_i o m apos
        split
        · rename_i h
          simp only [Bool.and_eq_true, Bool.not_eq_true', beq_iff_eq, decide_eq_true_eq] at h
          obtain ⟨⟨⟨h1, h2⟩, h3⟩, h4⟩ := h
          split
          · rename_i km hm
            cases es with
            | nil => exact SE.plain (s_me0 (ih o) hm h2 (by rw [h3]; simp)) fun _ => rfl
            | cons e es => exact SE.plain (s_me ih (ih o) hm h1 h2 (by rw [h3]; simp) h4) fun _ => rfl
          · exact SE.no rfl
        · exact SE.no rfl
      · exact SE.no rfl
    | _ => exact SE.no rfl
end
end
end DI
set_option Elab.async false
set_option linter.all false
set_option maxRecDepth 100000
namespace DI
open PySem PySem.Spec PyProof.Rows L2
noncomputable section

/-! ## 11. statements -/
section
variable {K : PySem.W.Frag} {ca : CA} {W : WX} {σ : L2.St} {H : Hp}
theorem PostO.mono {c : Cf} {o : O} {D1 D2 : Ends} (h : PostO K ca W c o D1) (h1 : ∀ σ H, D1.nx σ H → D2.nx σ H) (h2 : ∀ v H, D1.rt v H → D2.rt v H) (h3 : ∀ σ H, D1.bk σ H → D2.bk σ H) (h4 : ∀ σ H, D1.ct σ H → D2.ct σ H) : PostO K ca W c o D2 := by
  cases o with
  | nx _ _ => exact fun c2 y s a b => h1 _ _ (h c2 y s a b)
  | rt _ _ => exact fun c2 y s a b => h2 _ _ (h c2 y s a b)
  | bk _ _ => exact fun c2 y s a b => h3 _ _ (h c2 y s a b)
  | ct _ _ => exact fun c2 y s a b => h4 _ _ (h c2 y s a b)
  | ex _ _ _ => exact h
  | bad => exact h
/-- what a loop goes through, then something -/
theorem tst_i {α β : Type} {Rel : Cf → α → β → Prop} {m : Sl → AH → R α} {f : α → Sl → AH → O} {g : Sl → AH → O} {Dn : Ends} (e : ∀ s h, g s h = (m s h).to s fun d h => f d s h) (q : tst K ca W g Dn σ H) :
    tes K ca W Rel (fun _ => m) [] σ H fun x H1 => ∃ M r hp sd d, SR K ca ⟨M, r, H1⟩ hp ∧ RepS K ca ⟨M, r, H1⟩ sd σ ∧ Rel ⟨M, r, H1⟩ d x ∧ PostO K ca W ⟨M, r, H1⟩ (f d sd hp) Dn := by
  obtain ⟨M, r, hp, sd, h1, h2, h3⟩ := q
  refine ⟨M, r, hp, sd, [], h1, h2, (by simp only [Reps]), ?_⟩
  rw [e] at h3
  show Post K ca W Rel σ _ (m sd hp) _
  cases q : m sd hp with
  | ok d h =>
    rw [q] at h3
    intro c' x s sr rx
    exact ⟨c'.M, c'.r, h, sd, d, sr, h2.step h1.inM s, rx, PostO.step s h3⟩
  | exc e' h =>
    rw [q] at h3
    intro c' cls dx s sr rx
    exact h3 c' σ cls dx s sr (h2.step h1.inM s) rx
  | bad => rw [q] at h3; exact h3
/-- an expression, then something -/
theorem tst_e {m : EVl} {f : D → Sl → AH → O} {g : Sl → AH → O} {Dn : Ends} (e : ∀ s h, g s h = (m s h).to s fun d h => f d s h) (q : tst K ca W g Dn σ H) :
    te K ca W m σ H fun x H1 => ∃ M r hp sd d, SR K ca ⟨M, r, H1⟩ hp ∧ RepS K ca ⟨M, r, H1⟩ sd σ ∧ Rep K ⟨M, r, H1⟩ d x ∧ PostO K ca W ⟨M, r, H1⟩ (f d sd hp) Dn := by
  obtain ⟨M, r, hp, sd, h1, h2, h3⟩ := q
  refine ⟨M, r, hp, sd, [], h1, h2, (by simp only [Reps]), ?_⟩
  rw [e] at h3
  show Post K ca W (Rep K) σ _ (m sd hp) _
  cases q : m sd hp with
  | ok d h =>
    rw [q] at h3
    intro c' x s sr rx
    exact ⟨c'.M, c'.r, h, sd, d, sr, h2.step h1.inM s, rx, PostO.step s h3⟩
  | exc e' h =>
    rw [q] at h3
    intro c' cls dx s sr rx
    exact h3 c' σ cls dx s sr (h2.step h1.inM s) rx
  | bad => rw [q] at h3; exact h3
theorem tst_t {m : EVl} {f : Bool → Sl → AH → O} {g : Sl → AH → O} {Dn : Ends} (e : ∀ s h, g s h = (tr (m s h)).to s fun b h => f b s h) (q : tst K ca W g Dn σ H) :
    tt K ca W m σ H fun b H1 => ∃ M r hp sd, SR K ca ⟨M, r, H1⟩ hp ∧ RepS K ca ⟨M, r, H1⟩ sd σ ∧ PostO K ca W ⟨M, r, H1⟩ (f b sd hp) Dn := by
  obtain ⟨M, r, hp, sd, h1, h2, h3⟩ := q
  refine ⟨M, r, hp, sd, [], h1, h2, (by simp only [Reps]), ?_⟩
  rw [e] at h3
  show Post K ca W beq' σ _ (tr (m sd hp)) _
  cases q : tr (m sd hp) with
  | ok d h =>
    rw [q] at h3
    intro c' x s sr rx
    obtain rfl : d = x := rx
    exact ⟨c'.M, c'.r, h, sd, sr, h2.step h1.inM s, PostO.step s h3⟩
  | exc e' h =>
    rw [q] at h3
    intro c' cls dx s sr rx
    exact h3 c' σ cls dx s sr (h2.step h1.inM s) rx
  | bad => rw [q] at h3; exact h3
theorem tst_now {m : Sl → AH → O} {M : Addr → Prop} {r : List Addr} {hp : AH} {sd : Sl} {Dn : Ends} (h1 : SR K ca ⟨M, r, H⟩ hp) (h2 : RepS K ca ⟨M, r, H⟩ sd σ) (h : PostO K ca W ⟨M, r, H⟩ (m sd hp) Dn) : tst K ca W m Dn σ H := ⟨M, r, hp, sd, h1, h2, h⟩
theorem nx_now {M : Addr → Prop} {r : List Addr} {hp : AH} {sd : Sl} {Dn : Ends} (h1 : SR K ca ⟨M, r, H⟩ hp) (h2 : RepS K ca ⟨M, r, H⟩ sd σ) (h : PostO K ca W ⟨M, r, H⟩ (.nx sd hp) Dn) : Dn.nx σ H := h ⟨M, r, H⟩ σ (Step.refl _) h1 h2
theorem rt_now {M : Addr → Prop} {r : List Addr} {hp : AH} {d : D} {v : V} {Dn : Ends} (h1 : SR K ca ⟨M, r, H⟩ hp) (h2 : Rep K ⟨M, r, H⟩ d v) (h : PostO K ca W ⟨M, r, H⟩ (.rt d hp) Dn) : Dn.rt v H := h ⟨M, r, H⟩ v (Step.refl _) h1 h2
end

/-! loops: the rest of the run is told by the plain loop -/
def LoopW (K : PySem.W.Frag) (ca : CA) (W : WX) (body : Sl → AH → O) (g : Tg) (gs : List (Nat × List D)) (xs : List D) (M0 : Addr → Prop) (r0 : List Addr) (H0 : Hp) (Dn : Ends) (i : Nat) (σ : L2.St) (H : Hp) : Prop :=
  i ≤ xs.length ∧ ∃ M r hp sd, Step ⟨M0, r0, H0⟩ ⟨M, r, H⟩ ∧ SR K ca ⟨M, r, H⟩ hp ∧ RepS K ca ⟨M, r, H⟩ sd σ ∧ PostO K ca W ⟨M, r, H⟩ (loopG gs body g (xs.drop i) sd hp) Dn
section
variable {K : PySem.W.Frag} {ca : CA} {W : WX}
theorem body_turn {body : Sl → AH → O} {g : Tg} {gs : List (Nat × List D)} {xs : List D} {M0 : Addr → Prop} {r0 : List Addr} {H0 : Hp} {Dn : Ends} {i : Nat} {M : Addr → Prop} {r : List Addr} {H : Hp} {o : O} (hi : i < xs.length)
    (st : Step ⟨M0, r0, H0⟩ ⟨M, r, H⟩) (h : PostO K ca W ⟨M, r, H⟩ (o.turn (loopG gs body g (xs.drop (i + 1)))) Dn) :
    PostO K ca W ⟨M, r, H⟩ o { Dn with nx := LoopW K ca W body g gs xs M0 r0 H0 Dn (i + 1), ct := LoopW K ca W body g gs xs M0 r0 H0 Dn (i + 1), bk := Dn.nx } := by
  cases o with
  | nx s2 h2 => exact fun c' σ' s sr rs => ⟨hi, c'.M, c'.r, h2, s2, st.trans s, sr, rs, PostO.step s h⟩
  | ct s2 h2 => exact fun c' σ' s sr rs => ⟨hi, c'.M, c'.r, h2, s2, st.trans s, sr, rs, PostO.step s h⟩
  | bk s2 h2 => exact h
  | rt d h2 => exact h
  | ex e s2 h2 => exact h
  | bad => exact h
end
section
variable {X : Cx} {W : WX} {ca : CA} {c : CE} {fz : Nat → Bool} {F : FC} {k : Nat}
abbrev SS (X : Cx) (W : WX) (ca : CA) (fz : Nat → Bool) (F : FC) (st : Stmt) (x : Sx) : Prop := PS X st (tst X.K ca W (evS F x))
abbrev SSs (X : Cx) (W : WX) (ca : CA) (fz : Nat → Bool) (F : FC) (st : List Stmt) (x : Sxs) : Prop := PSs X st (tst X.K ca W (evSs F x))
theorem SS.no {st : Stmt} {x : Sx} (hx : x = .bad) : SS X W ca fz F st x := by
  subst hx
  exact PS.no fun _ _ _ => tst_bad
theorem s_block {rec : Stmt → Sx} (ih : ∀ s, SS X W ca fz F s (rec s)) : ∀ sts : List Stmt, SSs X W ca fz F sts (mkSxs rec sts)
  | [] => PSs.imp pss_nil fun Dn σ H ⟨M, r, hp, sd, h1, h2, h3⟩ => nx_now h1 h2 h3
  | s :: sts => by
    refine PSs.imp (pss_cons (ih s) (s_block ih sts)) fun Dn σ H ⟨M, r, hp, sd, h1, h2, h3⟩ => ?_
    refine ⟨M, r, hp, sd, h1, h2, ?_⟩
    have h3' : PostO X.K ca W ⟨M, r, H⟩ ((evS F (rec s) sd hp).seq fun s h => evSs F (mkSxs rec sts) s h) Dn := h3
    cases e : evS F (rec s) sd hp with
    | nx s2 h2' =>
      rw [e] at h3'
      exact fun c' σ' st sr rs => ⟨c'.M, c'.r, h2', s2, sr, rs, PostO.step st h3'⟩
    | rt _ _ => rw [e] at h3'; exact h3'
    | bk _ _ => rw [e] at h3'; exact h3'
    | ct _ _ => rw [e] at h3'; exact h3'
    | ex _ _ _ => rw [e] at h3'; exact h3'
    | bad => rw [e] at h3'; exact h3'
theorem noLc_sw {e : Expr} {t : Option Expr} {l : Nat} {env : Env} (h : noLc e = true) : swapsWith e t l env = pure false := by
  cases e <;> first | rfl | (simp [noLc] at h; done)
theorem loop_guard {c : Cf} {gs : List (Nat × List D)} {body : Sl → AH → O} {g : Tg} {ds : List D} {s : Sl} {h : AH} {Dn : Ends} (po : PostO X.K ca W c (loopG gs body g ds s h) Dn) : Gd gs h := by
  cases ds with
  | nil =>
    rw [loopG] at po
    split at po
    · assumption
    · exact po.elim
  | cons d r =>
    rw [loopG] at po
    split at po
    · assumption
    · exact po.elim
/-- a loop through plain items -/
theorem loop_core (S : SX X W ca c F k) (hh : c.hot = false) {g : Tg} {gs : List (Nat × List D)} {y : Sxs} {Dn : Ends} {M : Addr → Prop} {r : List Addr} {H1 : Hp} {hp : AH} {sd : Sl} {σ : L2.St} {ds : List D} {J : It} (h1 : SR X.K ca ⟨M, r, H1⟩ hp) (h2 : RepS X.K ca ⟨M, r, H1⟩ sd σ)
    (wk : WalkD X.K ca ⟨M, r, H1⟩ (ds, gs) J) (h5 : PostO X.K ca W ⟨M, r, H1⟩ (loopG gs (evSs F y) g ds sd hp) Dn) :
      ∃ W' : Nat → Nat → L2.St → Hp → Prop, (∃ m, W' 0 m σ H1) ∧ ∀ i m σ H, W' i m σ H →
        (J.stop i H ∧ Dn.nx σ H) ∨ (J.go i H ∧ ∃ N : L2.St → Hp → Prop, (∀ σ' H', N σ' H' → ∃ m', m' < m ∧ W' (i + 1) m' σ' H') ∧ ∀ x H', J.yld i H x H' → tgG X.K g x σ H' fun σ2 H2 => tst X.K ca W (evSs F y) { Dn with nx := N, ct := N, bk := Dn.nx } σ2 H2) := by
  refine for_it wk (LoopW X.K ca W (evSs F y) g gs ds M r H1 Dn) ⟨Nat.zero_le _, M, r, hp, sd, Step.refl _, h1, h2, h5⟩ (fun i σ H hi ⟨_, M', r', hp', sd', st, sr, rs, po⟩ => ⟨M', r', hp', st, sr, loop_guard po⟩) (fun i x σ H H' hlt w yd => ?_) (fun σ H w => ?_)
  · obtain ⟨hi, M2, r2, hp2, sd2, st, sr, rsd, po⟩ := w
    have gd := loop_guard po
    obtain ⟨d, M', r', ed, s', sr', rd⟩ := yd M2 r2 hp2 sr st gd
    have hdrop : ds.drop i = d :: ds.drop (i + 1) := by
      rw [List.drop_eq_getElem_cons hlt]
      congr 1
      exact (List.getElem?_eq_some_iff.mp ed).2
    rw [hdrop, loopG, if_pos gd] at po
    cases e : asg g d sd2 with
    | none => rw [e] at po; exact po.elim
    | some s1 =>
      rw [e] at po
      exact asg_out (S.free hh) (rsd.step sr.inM s') rd e fun σ1 rs1 _ => ⟨M', r', hp2, s1, sr', rs1, body_turn hlt (st.trans s') (PostO.step s' po)⟩
  · obtain ⟨_, M', r', hp', sd', st, sr, rsd, po⟩ := w
    have gd := loop_guard po
    have po : PostO X.K ca W ⟨M', r', H⟩ (loopG gs (evSs F y) g (ds.drop ds.length) sd' hp') Dn := po
    rw [List.drop_length, loopG, if_pos gd] at po
    exact nx_now sr rsd po
theorem s_for (S : SX X W ca c F k) (hh : c.hot = false) {t it : Expr} {b : List Stmt} {g : Tg} {rec : Expr → Ex} {y : Sxs} {pos : Pos} (ih : ∀ e, SE X W ca fz F e (rec e)) (hg : cTg c t = some g) (hb : SSs X W ca fz F b y) (hs : noSet it = true) :
    SS X W ca fz F (.For t it b [] pos) (.for_ g (cIx c rec t it) y) := by
  refine PS.imp (ps_for S.pass (S.calm hh) (s_it S ih t it) (s_tg S hh hg) hb (set_ok hs _)) fun Dn σ H q => ?_
  have q1 := tst_i (Rel := WalkD X.K ca) (m := evI F (cIx c rec t it)) (f := fun ds s h => loopG ds.2 (evSs F y) g ds.1 s h) (fun s h => by simp only [evS]) q
  exact tes_mono q1 fun J H1 ⟨M, r, hp, sd, ds, h1, h2, wk, h5⟩ => loop_core S hh h1 h2 wk h5
theorem s_forA (S : SX X W ca c F k) (hh : c.hot = false) {t it : Expr} {b : List Stmt} {g : Tg} {x : Ex} {y : Sxs} {pos : Pos} (he : SE X W ca fz F it x) (hg : cTg c t = some g) (hb : SSs X W ca fz F b y) (hs : noSet it = true) :
    SS X W ca fz F (.For t it b [] pos) (.forA g x y) := by
  refine PS.imp (ps_for S.pass (S.calm hh) (pi_any he.v) (s_tg S hh hg) hb (set_ok hs _)) fun Dn σ H q => ?_
  have q1 := tst_e (m := ev F x) (f := fun d s h => match d with
    | .ref n => loopR (evSs F y) g n 100000 0 s h
    | d => match items h d with
      | some ds => loop (evSs F y) g ds.1 s h
      | none => .bad) (fun s h => by simp only [evS]; try rfl) q
  refine tes_mono q1 fun v H1 ⟨M, r, hp, sd, d, h1, h2, h3, h4⟩ => ?_
  have inM : ∀ a ∈ r, M a := h1.inM
  -- by the plain items
  have plain : ∀ (ds : List D) (J : It), WalkD X.K ca ⟨M, r, H1⟩ (ds, []) J → PostO X.K ca W ⟨M, r, H1⟩ (loop (evSs F y) g ds sd hp) Dn →
      ∃ W' : Nat → Nat → L2.St → Hp → Prop, (∃ m, W' 0 m σ H1) ∧ ∀ i m σ H, W' i m σ H →
        (J.stop i H ∧ Dn.nx σ H) ∨ (J.go i H ∧ ∃ N : L2.St → Hp → Prop, (∀ σ' H', N σ' H' → ∃ m', m' < m ∧ W' (i + 1) m' σ' H') ∧ ∀ x H', J.yld i H x H' → tgG X.K g x σ H' fun σ2 H2 => tst X.K ca W (evSs F y) { Dn with nx := N, ct := N, bk := Dn.nx } σ2 H2) := fun ds J wk h5 =>
    loop_core S hh h1 h2 wk (by rw [loopG_nil]; exact h5)
  cases d with
  | tup es =>
    simp only [Rep] at h3
    obtain ⟨a, xs, rfl, t, rr⟩ := h3
    exact .inl ⟨a, rfl, ⟨xs, t.sq⟩, plain _ _ (wd_tup inM t rr) h4⟩
  | lst es =>
    simp only [Rep] at h3
    obtain ⟨a, xs, rfl, n, t, rr⟩ := h3
    exact .inr (.inl ⟨a, rfl, ⟨xs, .of t⟩, plain _ _ (wd_list fun M' r' H' hp' st _ _ => ⟨xs, .of (st.keep a _ t fun m => n (inM a m)), rr.step inM st⟩) h4⟩)
  | scr ns =>
    simp only [Rep] at h3
    obtain ⟨a, rfl, t⟩ := h3
    exact .inr (.inl ⟨a, rfl, ⟨_, t.sq⟩, plain _ _ (wd_list fun M' r' H' hp' st _ _ => ⟨_, (t.step (c' := ⟨M', r', H'⟩) inM st).sq, scr_reps ns⟩) h4⟩)
  | str z =>
    obtain ⟨k1, k2, rfl⟩ := str_of h3
    exact .inr (.inr ⟨_, rfl, plain _ _ (wd_str inM k1) h4⟩)
  | ref n =>
    have h4 : PostO X.K ca W ⟨M, r, H1⟩ (loopR (evSs F y) g n 100000 0 sd hp) Dn := h4
    have h3' := h3
    simp only [Rep] at h3'
    obtain ⟨a, rfl, ra⟩ := h3'
    -- the list as it is at a turn
    have at_ : ∀ {M : Addr → Prop} {r : List Addr} {H : Hp} {hp : AH} {sd : Sl} {f i : Nat}, SR X.K ca ⟨M, r, H⟩ hp → r[n]? = some a → PostO X.K ca W ⟨M, r, H⟩ (loopR (evSs F y) g n (f + 1) i sd hp) Dn →
        ∃ ds xs, hp[n]? = some (.lst ds) ∧ H a = some (.lst xs) ∧ Reps X.K ⟨M, r, H⟩ ds xs := fun {M r H hp sd f i} sr ra po => by
      rw [loopR] at po
      cases e : hp[n]? with
      | none => rw [e] at po; exact po.elim
      | some o =>
        rw [e] at po
        cases o with
        | lst ds =>
          obtain ⟨xs, e1, e2⟩ := sr.objs n a _ ra e
          exact ⟨ds, xs, rfl, e1, e2⟩
        | _ => exact po.elim
    obtain ⟨ds0, xs0, _, ha0, _⟩ := at_ h1 ra h4
    refine .inr (.inl ⟨a, rfl, ⟨xs0, .of ha0⟩, fun i f σ H => ∃ M r hp sd, SR X.K ca ⟨M, r, H⟩ hp ∧ r[n]? = some a ∧ RepS X.K ca ⟨M, r, H⟩ sd σ ∧ PostO X.K ca W ⟨M, r, H⟩ (loopR (evSs F y) g n f i sd hp) Dn, ⟨100000, M, r, hp, sd, h1, ra, h2, h4⟩, ?_⟩)
    rintro i f σ H ⟨M, r, hp, sd, sr, ra, rs, po⟩
    cases f with
    | zero => exact po.elim
    | succ f =>
      obtain ⟨ds, xs, e1, ha, rr⟩ := at_ sr ra po
      rw [loopR, e1] at po
      simp only at po
      cases ed : ds[i]? with
      | none =>
        rw [ed] at po
        refine .inl ⟨⟨xs, .of ha, ?_⟩, nx_now sr rs po⟩
        rw [rr.length]
        exact List.getElem?_eq_none_iff.mp ed
      | some d =>
        rw [ed] at po
        obtain ⟨xv, ex, rx⟩ := rr.get ed
        refine .inr ⟨⟨xs, xv, .of ha, ex⟩, fun σ H => ∃ M r hp sd, SR X.K ca ⟨M, r, H⟩ hp ∧ r[n]? = some a ∧ RepS X.K ca ⟨M, r, H⟩ sd σ ∧ PostO X.K ca W ⟨M, r, H⟩ (loopR (evSs F y) g n f (i + 1) sd hp) Dn, fun σ' H' w => ⟨f, Nat.lt_succ_self f, w⟩, fun x H' yl => ?_⟩
        obtain ⟨rfl, hx⟩ := yl
        have exx := hx xs (.of ha)
        rw [ex] at exx
        cases exx
        simp only at po
        cases ea : asg g d sd with
        | none => rw [ea] at po; exact po.elim
        | some s1 =>
          rw [ea] at po
          simp only at po
          refine asg_out (S.free hh) rs rx ea fun σ1 rs1 _ => ⟨M, r, hp, s1, sr, rs1, ?_⟩
          cases eb : evSs F y s1 hp with
          | nx s2 h2' => rw [eb] at po; exact fun c' σ' s sr rs => ⟨c'.M, c'.r, h2', s2, sr, s.pre n a ra, rs, PostO.step s po⟩
          | ct s2 h2' => rw [eb] at po; exact fun c' σ' s sr rs => ⟨c'.M, c'.r, h2', s2, sr, s.pre n a ra, rs, PostO.step s po⟩
          | bk s2 h2' => rw [eb] at po; exact po
          | rt d h2' => rw [eb] at po; exact po
          | ex e' s2 h2' => rw [eb] at po; exact po
          | bad => rw [eb] at po; exact po
  | non => exact h4.elim
  | bl _ => exact h4.elim
  | int _ => exact h4.elim
theorem s_aug (S : SX X W ca c F k) (hh : c.hot = false) {neg : Bool} {op : Operator} {e : Expr} {x : Ex} {y : Str} {i : Nat} {py pos : Pos} (hop : op = if neg then .Sub else .Add) (he : SE X W ca fz F e x) (hx : c.sc.lookup y = some .local ∨ c.sc.lookup y = some .cell) (hi : ixOf y c.N 0 = some i) :
    SS X W ca fz F (.AugAssign (.Name y py) op e pos) (.aug neg i x) := by
  obtain ⟨l1, l2⟩ := S.sto y hx
  have go : ∀ {g : Int → Int → Int}, (∀ a b : Int, g a b = if neg then a - b else a + b) → PIp X op (ipI g) → SS X W ca fz F (.AugAssign (.Name y py) op e pos) (.aug neg i x) := fun {g} hg hp => by
    refine PS.imp (ps_aug (i := i) (by rw [S.N]; exact S.nd) (by rw [S.N]; exact ixOf_get0 hi) l1 he.v hp l2) fun Dn σ H ⟨M, r, hp, sd, h1, h2, h3⟩ => ?_
    simp only [evS] at h3
    cases es : sd[i]? with
    | none => rw [es] at h3; exact h3.elim
    | some o =>
      rw [es] at h3
      cases o with
      | none => exact h3.elim
      | some d =>
        obtain ⟨v, ev', rv⟩ := h2.1.2 i d es
        cases d with
        | int a =>
          refine ⟨v, ev', ?_⟩
          have q1 := tst_e (K := X.K) (ca := ca) (W := W) (m := ev F x) (f := fun d s h => match d with | .int b => .nx (s.set i (some (.int (if neg then a - b else a + b)))) h | _ => .bad) (g := fun s h => (ev F x s h).to s fun d h => match d with | .int b => .nx (s.set i (some (.int (if neg then a - b else a + b)))) h | _ => .bad) (fun s h => rfl) ⟨M, r, hp, sd, h1, h2, h3⟩
          refine tes_mono q1 fun w H1 ⟨M, r, hp, sd, d, h1, h2, h3, h4⟩ => ?_
          cases d with
          | int b =>
            refine ⟨a, b, int_of rv, int_of h3, ?_⟩
            rw [hg]
            exact nx_now h1 (h2.set (S.free hh i) rep_int) h4
          | _ => exact h4.elim
        | _ => exact h3.elim
  subst hop
  cases neg with
  | false => exact go (g := fun a b => a + b) (fun _ _ => rfl) ip_add
  | true => exact go (g := fun a b => a - b) (fun _ _ => rfl) ip_sub
theorem s_while (S : SX X W ca c F k) {e : Expr} {x : Ex} {b : List Stmt} {y : Sxs} {pos : Pos} (he : SE X W ca fz F e x) (hb : SSs X W ca fz F b y) : SS X W ca fz F (.While e b [] pos) (.while_ x y) := by
  refine PS.imp (ps_while S.pass he.t hb) fun Dn σ H ⟨M, r, hp, sd, h1, h2, h3⟩ => ?_
  simp only [evS] at h3
  refine ⟨fun n σ H => ∃ M r hp sd, SR X.K ca ⟨M, r, H⟩ hp ∧ RepS X.K ca ⟨M, r, H⟩ sd σ ∧ PostO X.K ca W ⟨M, r, H⟩ (whiles (fun s h => tr (ev F x s h)) (evSs F y) n sd hp) Dn, ⟨100000, M, r, hp, sd, h1, h2, h3⟩, ?_⟩
  rintro n σ H ⟨M, r, hp, sd, h1, h2, h3⟩
  cases n with
  | zero => exact h3.elim
  | succ n =>
    have q1 := tst_t (m := ev F x) (f := fun b s h => match b with | true => (evSs F y s h).turn (whiles (fun s h => tr (ev F x s h)) (evSs F y) n) | false => .nx s h)
      (g := whiles (fun s h => tr (ev F x s h)) (evSs F y) (n + 1)) (fun s h => rfl) ⟨M, r, hp, sd, h1, h2, h3⟩
    refine tes_mono q1 fun b H1 ⟨M, r, hp, sd, h1, h2, h3⟩ => ?_
    cases b with
    | false => exact nx_now h1 h2 h3
    | true =>
      simp only [if_true]
      refine ⟨fun σ H => ∃ M r hp sd, SR X.K ca ⟨M, r, H⟩ hp ∧ RepS X.K ca ⟨M, r, H⟩ sd σ ∧ PostO X.K ca W ⟨M, r, H⟩ (whiles (fun s h => tr (ev F x s h)) (evSs F y) n sd hp) Dn, fun σ' H' w => ⟨n, Nat.lt_succ_self n, w⟩, M, r, hp, sd, h1, h2, ?_⟩
      simp only at h3
      cases e : evSs F y sd hp with
      | nx s2 h2' => rw [e] at h3; exact fun c' σ' s sr rs => ⟨c'.M, c'.r, h2', s2, sr, rs, PostO.step s h3⟩
      | ct s2 h2' => rw [e] at h3; exact fun c' σ' s sr rs => ⟨c'.M, c'.r, h2', s2, sr, rs, PostO.step s h3⟩
      | bk s2 h2' => rw [e] at h3; exact h3
      | rt d h2' => rw [e] at h3; exact h3
      | ex e' s2 h2' => rw [e] at h3; exact h3
      | bad => rw [e] at h3; exact h3
/-- o[i] = e -/
theorem set_either (hu : X.A.units + 1 < cLine) : PSet X fun o i v H Q => rSetL o i v H Q ∨ rSetD o i v H Q := fun pins s σ H o i v ov iv u Q I r1 r2 r3 h => by
  rcases h with h | h
  · exact set_list pins s σ H o i v ov iv u Q I r1 r2 r3 h
  · exact set_dict hu pins s σ H o i v ov iv u Q I r1 r2 r3 h
theorem s_setI (S : SX X W ca c F k) {o i e : Expr} {xo xi xe : Ex} {ps pos : Pos} (ho : SE X W ca fz F o xo) (hi : SE X W ca fz F i xi) (he : SE X W ca fz F e xe) (hs : isSlice i = false) (hn : noLc e = true) : SS X W ca fz F (.Assign [.Subscript o i ps] e pos) (.setI xo xi xe) := by
  have ha : ∀ v, assign (.Subscript o i ps) X.env v = (do
      let ov ← holding [v] (eval o X.env)
      let iv ← holding [v, ov] (eval i X.env)
      standAt ps
      holding [v, ov, iv] (setItem ov iv v)
      release [v, ov, iv] []) := fun v => by
    cases i <;> first | rfl | (simp [isSlice] at hs; done)
  have hsw : swapsWithSole [.Subscript o i ps] e pos.line X.env = pure false := by cases e <;> first | rfl | (simp [noLc] at hn; done)
  refine PS.imp (ps_asg he.v (pg_sub ho.v hi.v (set_either (by have := S.hu; omega)) ha) hsw rfl) fun Dn σ H q => ?_
  have q1 := tst_e (m := ev F xe) (f := fun d s h => (ev F xo s h).to s fun o h => (ev F xi s h).to s fun i h => match orD (setD h o i d) (dPut h o i d) with | some h => .nx s h | none => .bad) (fun s h => by simp only [evS]; try rfl) q
  refine tes_mono q1 fun v H1 ⟨M, r, hp, sd, d, h1, h2, h3, h4⟩ => ?_
  refine ⟨M, r, hp, sd, [], h1, h2, (by simp only [Reps]), ?_⟩
  show Post X.K ca W (Rep X.K) σ _ (ev F xo sd hp) _
  cases e1 : ev F xo sd hp with
  | bad => rw [e1] at h4; exact h4
  | exc e' h => rw [e1] at h4; exact fun c' cls dx s sr rx => h4 c' σ cls dx s sr (h2.step h1.inM s) rx
  | ok od hp2 =>
    rw [e1] at h4
    intro c2 ov st2 sr2 ro
    obtain ⟨M2, r2, H2⟩ := c2
    have h5 := PostO.step st2 h4
    have h2' := h2.step h1.inM st2
    simp only [R.to_ok] at h5
    refine ⟨M2, r2, hp2, sd, [], sr2, h2', (by simp only [Reps]), ?_⟩
    show Post X.K ca W (Rep X.K) σ _ (ev F xi sd hp2) _
    cases e2 : ev F xi sd hp2 with
    | bad => rw [e2] at h5; exact h5
    | exc e' h => rw [e2] at h5; exact fun c' cls dx s sr rx => h5 c' σ cls dx s sr (h2'.step sr2.inM s) rx
    | ok id hp3 =>
      rw [e2] at h5
      intro c3 iv st3 sr3 ri
      obtain ⟨M3, r3, H3⟩ := c3
      have h6 := PostO.step st3 h5
      simp only [R.to_ok] at h6
      cases e3 : orD (setD hp3 od id d) (dPut hp3 od id d) with
      | none => rw [e3] at h6; exact h6.elim
      | some hp4 =>
        rw [e3] at h6
        rcases or_cases e3 with e3 | e3
        · exact .inl (setD_out sr3 (ro.step sr2.inM st3) ri ((h3.step h1.inM st2).step sr2.inM st3) e3 fun c' st sr => h6 c' σ st sr ((h2'.step sr2.inM st3).step sr3.inM st))
        · exact .inr (dPut_out sr3 (ro.step sr2.inM st3) ri ((h3.step h1.inM st2).step sr2.inM st3) e3 fun c' st sr => h6 c' σ st sr ((h2'.step sr2.inM st3).step sr3.inM st))
/-- a, b = e -/
theorem sw_none {ts : List Expr} {kk : Nat} {p : Pos} {e : Expr} {env : Env} (h : noTup e = true) : swappedStores [.Tuple ts kk p] e env = pure none := by
  cases e <;> first | rfl | (simp [noTup] at h; done)
theorem s_unp (S : SX X W ca c F k) (hh : c.hot = false) {es : List Expr} {kk : Nat} {p pos : Pos} {e : Expr} {is : List Nat} {x : Ex} (he : SE X W ca fz F e x) (hg : cTg c (.Tuple es kk p) = some (.tp is)) (h1 : noTup e = true) (h2 : noLc e = true) :
    SS X W ca fz F (.Assign [.Tuple es kk p] e pos) (.unp is x) := by
  have hsw : swapsWithSole [.Tuple es kk p] e pos.line X.env = pure false := by cases e <;> first | rfl | (simp [noLc] at h2; done)
  refine PS.imp (ps_asg he.v (s_tg S hh hg) hsw (sw_none h1)) fun Dn σ H q => ?_
  have q1 := tst_e (m := ev F x) (f := fun d s h => match asg (.tp is) d s with | some s => .nx s h | none => .bad) (fun s h => by simp only [evS]; try rfl) q
  refine tes_mono q1 fun v H1 ⟨M, r, hp, sd, d, h1, h2, h3, h4⟩ => ?_
  cases e1 : asg (.tp is) d sd with
  | none => rw [e1] at h4; exact h4.elim
  | some s1 =>
    rw [e1] at h4
    exact asg_out (S.free hh) h2 h3 e1 fun σ1 rs1 _ => nx_now h1 rs1 h4
/-- name = [..] -/
theorem s_setLc (S : SX X W ca c F k) (hh : c.hot = false) {n : Nat} {e : Expr} {y : Str} {i : Nat} {py pos : Pos} (hsw : swaps c y py e = true) (hi : ixOf y c.N 0 = some i) : SS X W ca fz F (.Assign [.Name y py] e pos) (.set i (cE c (n + 1) e)) := by
  unfold swaps at hsw
  split at hsw
  · rename_i elt gs scope p
    simp only [Bool.and_eq_true, beq_iff_eq, Bool.not_eq_true'] at hsw
    obtain ⟨⟨⟨h1, h2⟩, h3⟩, h4⟩ := hsw
    obtain ⟨sc, hsc⟩ := Option.isSome_iff_exists.mp h1
    obtain ⟨t1, t2⟩ := S.top sc hsc
    have hyl : X.env.scope.names.lookup y = some .local := by rw [t1, ← t2]; exact h2
    have ih := fun e => sE (fz := fz) n S e
    have tail : ∀ {x : Ex} {Dn : Ends} {σ : L2.St} {H : Hp}, tst X.K ca W (evS F (.set i x)) Dn σ H → te X.K ca W (ev F x) σ H fun v H1 => gName i v σ H1 Dn.nx := fun {x Dn σ H} q => by
      have q1 := tst_e (m := ev F x) (f := fun d s h => .nx (s.set i (some d)) h) (fun s h => by simp only [evS]) q
      exact tes_mono q1 fun v H1 ⟨M, r, hp, sd, d, h1, h2, h3, h4⟩ => nx_now h1 (h2.set (S.free hh i) h3) h4
    have ec : cE c (n + 1) (.ListComp elt gs scope p) = cLc c (cE c n) (cE { c with sc := scope.names, top := none } n) elt gs scope p := by simp [cE, hh]
    by_cases hb : cLc c (cE c n) (cE { c with sc := scope.names, top := none } n) elt gs scope p = .bad
    · rw [ec, hb]
      refine PS.no fun Dn σ H q => ?_
      exact te_bad (tail q)
    · obtain ⟨tg, iter, ifs, g, o, rfl, hy, hv, bo, hset, pi, hg⟩ := s_lc S hh ih (fun Y SY _ e => sE n SY e) rfl hb
      rw [ec, hy]
      exact PS.imp (ps_setLc (S.calm hh) (by rw [S.N]; exact S.nd) (by rw [S.N]; exact ixOf_get0 hi) hyl (sw_true S.kd hyl (by simpa using h3) h4) pi bo (fun s H C cl fp => (hg s H C cl fp).1) (fun s H C cl fp => (hg s H C cl fp).2.1) (fun s H C cl fp => (hg s H C cl fp).2.2) hset) fun Dn σ H q => lc_out (S.free hh) hv (tail q)
  · cases hsw
end
end
end DI
set_option Elab.async false
set_option linter.all false
set_option maxRecDepth 100000
namespace DI
open PySem PySem.Spec PyProof.Rows L2
noncomputable section
/-! raise, try .. except -/
section
variable {X : Cx} {W : WX} {ca : CA} {c : CE} {fz : Nat → Bool} {F : FC} {k : Nat}
theorem cls_at (S : SX X W ca c F k) {x : Str} {n : Nat} (h : ixOf x (c.cls.map (·.1)) 0 = some n) : ∃ C, ca.cls n = some C ∧ ClsW X.K X.mg C x := by
  have e := ixOf_get0 h
  rw [List.getElem?_map] at e
  obtain ⟨p, e1, e2⟩ := Option.map_eq_some_iff.mp e
  obtain ⟨y, subs⟩ := p
  simp only at e2
  subst e2
  exact S.cls.cls n y subs e1
theorem s_raise (S : SX X W ca c F k) {e : Expr} {pos : Pos} : SS X W ca fz F (.Raise (some e) none pos) (cRaise c e) := by
  unfold cRaise
  split
  · rename_i x p m j p2 pos2
    split
    · rename_i h
      simp only [Bool.and_eq_true, beq_iff_eq, Bool.not_eq_true'] at h
      obtain ⟨⟨⟨h1, h2⟩, h3⟩, h4⟩ := h
      split
      · rename_i n hn
        obtain ⟨C, e1, cw⟩ := cls_at S hn
        refine PS.imp (ps_raise (S.calm h2) S.tk (pmk_own PySem.F.excBase_ValueError (cw.exc h4) cw.at_ cw.kp (raises_own cw.sb cw.ty) (S.glb x h1) h3)) fun Dn σ H ⟨M, r, hp, sd, q1, q2, q3⟩ => ?_
        exact q3 ⟨M, r, H⟩ σ (.ref C) none (Step.refl _) q1 q2 ⟨⟨C, e1, rfl⟩, rfl⟩
      · exact SS.no rfl
    · exact SS.no rfl
  · exact SS.no rfl
/-- in a try's body -/
theorem SX.tr (S : SX X W ca c F k) (hh : c.hot = false) {W' : WX} {pn : List (Addr × Obj)} {xe : Value → Shared → Prop} (tk : Takes (X.tr pn xe) W') (ps : PassesOwn (model X.prog X.w) X.A X.env xe) : SX (X.tr pn xe) W' ca c F k where
  tk := tk
  kd := S.kd
  top := S.top
  stk := S.stk
  pass := ps
  calm := S.calm
  room := S.room
  hu := S.hu
  N := S.N
  nd := S.nd
  loc := S.loc
  sto := S.sto
  glb := S.glb
  cst := S.cst
  fns := fun i x h => (S.fns i x h).imp rfl rfl rfl rfl rfl fun _ _ _ _ z => z
  few := S.few
  blt := S.blt
  cool := S.cool
  xa0 := S.xa0
  frs := S.frs
  exn := fun j h => by rw [S.cool hh] at h; cases h
  cls := S.cls
  tups := S.tups
/-- in an except suite -/
theorem SX.suite (S : SX X W ca c F k) {x : XA} {oe : Obj} {pn : List (Addr × Obj)} {e : EV} {C : Addr} {j : Option Nat} (hj : x.j = j) (hz : Zc (.ref C) x.dx oe) (hf : ∃ vs, oe.data = .fields vs) (hp : e.pay = x.pay) (hC : ca.cls e.cls = some C) :
    SX (X.suite x.a ((x.a, oe) :: pn)) WN { ca with xa := some x } { c with hot := true, exn := j } (withE e F) k where
  tk := fun _ _ ⟨_, _, _, _, _, _, _, _, _, _, _, _, _, _, _, _, w⟩ => w.elim
  kd := S.kd
  top := S.top
  stk := S.stk
  pass := PassesOwn.never
  calm := fun h => by cases h
  room := fun h => by cases h
  hu := S.hu
  N := S.N
  nd := S.nd
  loc := S.loc
  sto := S.sto
  glb := S.glb
  cst := S.cst
  fns := fun i nm h => (S.fns i nm h).imp rfl rfl rfl rfl rfl fun vs H Q E ⟨M, r, hp, ds, q1, q2, q3⟩ => by
    have hi : i ≠ XI := by
      have h' : c.fns[i]? = some nm := h
      have := (List.getElem?_eq_some_iff.mp h').1
      have := S.few
      omega
    have e1 : withE e F i ds hp = F i ds hp := by simp only [withE, if_neg hi]
    rw [e1] at q3
    exact ⟨M, r, hp, ds, q1, q2, q3⟩
  few := S.few
  tups := S.tups
  blt := S.blt
  cool := fun h => by cases h
  xa0 := fun h => by cases h
  frs := fun i hi y hy => by
    cases hy
    rw [hj]
    exact hi
  exn := fun j' h => by
    have h' : j = some j' := h
    exact ⟨x, X, oe, pn, e, C, rfl, by rw [hj]; exact h', rfl, hz, hf, fun _ => by simp [withE], hp, hC⟩
  cls := ⟨S.cls.cls, S.cls.sub, S.cls.inn⟩
def hideV (j : Option Nat) (a : Addr) (σ : L2.St) : L2.St := match j with
  | some i => σ.set i (some (.ref a))
  | none => σ
theorem RepS.hide {K : PySem.W.Frag} {cf : Cf} {sd : Sl} {σ : L2.St} {a : Addr} {j : Option Nat} {e : EV} {dx : Option Addr} (hn : ca.xa = none) (h : RepS K ca cf sd σ) (hl : ∀ i, j = some i → i < σ.length) (hp : PayOk K cf e.pay dx) :
    RepS K { ca with xa := some ⟨j, a, e.cls, dx, e.pay⟩ } cf (hide j sd) (hideV j a σ) := by
  cases j with
  | none => exact ⟨h.1, (show XOk K cf (some ⟨none, a, e.cls, dx, e.pay⟩) σ from ⟨fun j z => (nomatch z), hp⟩)⟩
  | some i =>
    refine ⟨⟨by simp [DI.hide, hideV, h.1.1], fun i' d q => ?_⟩, (show XOk K cf (some ⟨some i, a, e.cls, dx, e.pay⟩) (σ.set i (some (.ref a))) from ⟨fun j z => ?_, hp⟩)⟩
    · simp only [DI.hide] at q
      by_cases hi : i = i'
      · subst hi
        rw [List.getElem?_set] at q
        simp only [if_true] at q
        split at q <;> cases q
      · rw [List.getElem?_set_ne hi] at q
        show ∃ v, (σ.set i _)[i']? = _ ∧ _
        rw [List.getElem?_set_ne hi]
        exact h.1.2 i' d q
    · cases z
      show (σ.set i _)[i]? = _
      rw [List.getElem?_set_self (hl i rfl)]
theorem RepS.gone {K : PySem.W.Frag} {cf : Cf} {sd : Sl} {σ : L2.St} {x : XA} {i : Nat} (hn : ca.xa = none) (h : RepS K { ca with xa := some x } cf sd σ) : RepS K ca cf (sd.set i none) (σ.set i none) := by
  refine ⟨⟨by simp [h.1.1], fun i' d q => ?_⟩, by rw [hn]; trivial⟩
  by_cases hi : i = i'
  · subst hi
    rw [List.getElem?_set] at q
    simp only [if_true] at q
    split at q <;> cases q
  · rw [List.getElem?_set_ne hi] at q ⊢
    exact h.1.2 i' d q
theorem RepS.gone0 {K : PySem.W.Frag} {cf : Cf} {sd : Sl} {σ : L2.St} {x : XA} (hn : ca.xa = none) (h : RepS K { ca with xa := some x } cf sd σ) : RepS K ca cf sd σ := ⟨h.1, by rw [hn]; trivial⟩
/-- what an except suite makes of an exception -/
def tsH (X : Cx) (ca : CA) (F : FC) (j : Option Nat) (xh : Sxs) (a : Addr) (cls : Value) (d : Option Addr) : TS := fun Dn σ H =>
  ∃ (e : EV) (C : Addr), ca.cls e.cls = some C ∧ cls = .ref C ∧ tst X.K { ca with xa := some ⟨j, a, e.cls, d, e.pay⟩ } WN (evSs (withE e F) xh) Dn σ H
theorem s_tsH (S : SX X W ca c F k) {b : List Stmt} {xh : Sxs} {j : Option Nat} (ih : ∀ (Y : Cx) (cb : CA) (G : FC), SX Y WN cb { c with hot := true, exn := j } G k → SSs Y WN cb fz G b xh)
    (a : Addr) (oe : Obj) (cls : Value) (d : Option Addr) (pn : List (Addr × Obj)) (hz : Zc cls d oe) (hf : ∃ vs, oe.data = .fields vs) : PSs (X.suite a ((a, oe) :: pn)) b (tsH X ca F j xh a cls d) := by
  refine ⟨fun pins s σ H D I q => ?_⟩
  obtain ⟨e, C, hC, rfl, q⟩ := q
  have SU := S.suite (x := ⟨j, a, e.cls, d, e.pay⟩) (pn := pn) rfl hz hf rfl hC
  exact (ih _ _ _ SU).run pins s σ H D I q
/-- the heart of a try: what its body wishes of an exception -/
def hEnds (j : Option Nat) (Dn : Ends) : Ends := match j with
  | some i => { nx := fun σ' H' => Dn.nx (σ'.set i none) H', rt := Dn.rt, bk := fun σ' H' => Dn.bk (σ'.set i none) H', ct := fun σ' H' => Dn.ct (σ'.set i none) H' }
  | none => Dn
theorem gone_post {K : PySem.W.Frag} {cf : Cf} {j : Option Nat} {o : O} {Dn : Ends} {x : XA} (hn : ca.xa = none) (h : PostO K ca W cf (o.gone j) Dn) : PostO K { ca with xa := some x } WN cf o (hEnds j Dn) := by
  cases o with
  | rt d h' =>
    cases j with
    | none => exact h
    | some i => exact h
  | ex e s h' => exact h.elim
  | bad => exact h.elim
  | nx s h' =>
    cases j with
    | none => exact fun c' σ' st sr rs => h c' σ' st sr (rs.gone0 hn)
    | some i => exact fun c' σ' st sr rs => h c' (σ'.set i none) st sr (rs.gone hn)
  | bk s h' =>
    cases j with
    | none => exact fun c' σ' st sr rs => h c' σ' st sr (rs.gone0 hn)
    | some i => exact fun c' σ' st sr rs => h c' (σ'.set i none) st sr (rs.gone hn)
  | ct s h' =>
    cases j with
    | none => exact fun c' σ' st sr rs => h c' σ' st sr (rs.gone0 hn)
    | some i => exact fun c' σ' st sr rs => h c' (σ'.set i none) st sr (rs.gone hn)
/-- the heart of a try: what its body wishes of an exception -/
theorem try_core (S : SX X W ca c F k) (hh : c.hot = false) {subs : List Nat} {j : Option Nat} {xb xh : Sxs} {D : Addr} {Dn : Ends} {σ : L2.St} {H : Hp} {W' : WX}
    (hx : ∀ (i : Nat) C, ca.cls i = some C → PySem.W.exmOne X.K (.ref C) (.ref D) = some (subs.contains i))
    (hW : ∀ cls d σ H, (∃ b, PySem.W.exmOne X.K cls (.ref D) = some b ∧ (b = true → ∀ a, H a = none → tsH X ca F j xh a cls d (hEnds j Dn) (hideV j a σ) H) ∧ (b = false → W cls d σ H)) → W' cls d σ H)
    (q : tst X.K ca W (evS F (.try_ xb subs j xh)) Dn σ H) : tst X.K ca W' (evSs F xb) Dn σ H := by
  obtain ⟨M, r, hp, sd, h1, h2, h3⟩ := q
  refine ⟨M, r, hp, sd, h1, h2, ?_⟩
  simp only [evS] at h3
  cases eb : evSs F xb sd hp with
  | nx s h => rw [eb] at h3; exact h3
  | rt d h => rw [eb] at h3; exact h3
  | bk s h => rw [eb] at h3; exact h3
  | ct s h => rw [eb] at h3; exact h3
  | bad => rw [eb] at h3; exact h3.elim
  | ex e s h =>
    rw [eb] at h3
    intro c' σ' cls dx st sr rs rx
    obtain ⟨⟨C, hC, rfl⟩, hpay⟩ := rx
    refine hW _ _ _ _ ⟨_, hx e.cls C hC, fun hb a hn => ?_, fun hb => ?_⟩
    · simp only [O.caught, hb, if_true] at h3
      by_cases hok : slotOk j s = true
      rotate_left
      · rw [if_neg hok] at h3; exact h3.elim
      rw [if_pos hok] at h3
      have hls : ∀ i, j = some i → i < σ'.length := fun i hi => by
        subst hi
        rw [← rs.1.1]
        exact of_decide_eq_true hok
      exact ⟨e, C, hC, rfl, c'.M, c'.r, h, hide j s, sr, rs.hide (S.xa0 hh) hls hpay, gone_post (S.xa0 hh) (PostO.step st h3)⟩
    · simp only [O.caught, hb, Bool.false_eq_true, if_false] at h3
      exact h3 c' σ' (.ref C) dx st sr rs ⟨⟨C, hC, rfl⟩, hpay⟩
theorem s_try (S : SX X W ca c F k) {b hb : List Stmt} {b0 : Stmt} {x : Str} {nm : Option Str} {xp p1 p2 : Pos} {recB recH : Stmt → Sx} {j : Option Nat} {subs : List Nat}
    (hh : c.hot = false) (ht : c.top.isSome = true) (hd : (x == ("__debug__" : Str)) = false) (hg : c.sc.lookup x = some .globalImplicit) (hj : hdSlot c nm = some j) (hs : c.cls.lookup x = some subs)
    (ihb : ∀ (Y : Cx) (W' : WX), SX Y W' ca c F k → ∀ s, SS Y W' ca fz F s (recB s))
    (ihh : ∀ (Y : Cx) (cb : CA) (G : FC), SX Y WN cb { c with hot := true, exn := j } G k → ∀ s, SS Y WN cb fz G s (recH s)) :
    SS X W ca fz F (.Try b [.ExceptHandler (some (.Name x xp)) nm (b0 :: hb) p1] [] [] p2) (.try_ (mkSxs recB b) subs j (mkSxs recH (b0 :: hb))) := by
  obtain ⟨D, hn, hD⟩ := cls_name S (py := xp) hs hg hd
  obtain ⟨i0, ei⟩ := lookup_get hs
  obtain ⟨D', e1, cw⟩ := S.cls.cls i0 x subs ei
  have hD' : ∀ (i : Nat) C, ca.cls i = some C → PySem.W.exmOne X.K (.ref C) (.ref D') = some (subs.contains i) := fun i C hi => by
    have hi' := S.cls.inn i C hi
    exact (S.cls.sub i i0 _ (x, subs) C D' (List.getElem?_eq_getElem hi') ei hi e1).2
  have nms : Names X x (.ref D') := ⟨S.glb x hg, hd, .inl cw.at_⟩
  obtain ⟨k1, k2⟩ := S.stk ht
  have body : ∀ (W' : WX) (pn : List (Addr × Obj)) (xe : Value → Shared → Prop), Takes (X.tr pn xe) W' → PassesOwn (model X.prog X.w) X.A X.env xe → PSs (X.tr pn xe) b (tst X.K ca W' (evSs F (mkSxs recB b))) := fun W' pn xe tk ps =>
    s_block (fz := fz) (ihb _ _ (S.tr hh tk ps)) b
  have suite := fun a oe cls d pn hz hf => s_tsH (fz := fz) S (b := b0 :: hb) (xh := mkSxs recH (b0 :: hb)) (j := j) (fun Y cb G SY => s_block (fz := fz) (ihh Y cb G SY) (b0 :: hb)) a oe cls d pn hz hf
  cases nm with
  | none =>
    cases hj
    refine PS.imp (ps_try_only k1 k2 nms S.tk (tb := fun W' => tst X.K ca W' (evSs F (mkSxs recB b))) body suite) fun Dn σ H q => ?_
    exact try_core S hh hD' (fun cls d σ H w => w) q
  | some n =>
    simp only [hdSlot] at hj
    · split at hj
      · rename_i hloc
        obtain ⟨i, hi, rfl⟩ := Option.map_eq_some_iff.mp hj
        obtain ⟨sc, hsc⟩ := Option.isSome_iff_exists.mp ht
        obtain ⟨t1, t2⟩ := S.top sc hsc
        have hk : X.env.kindOf n = some .local := by
          show X.env.scope.names.lookup n = _
          rw [t1, ← t2]
          exact beq_iff_eq.mp hloc
        refine PS.imp (ps_try_as (i := i) k1 k2 (by rw [S.N]; exact S.nd) (by rw [S.N]; exact ixOf_get0 hi) hk nms S.tk (tb := fun W' => tst X.K ca W' (evSs F (mkSxs recB b))) body suite) fun Dn σ H q => ?_
        exact try_core S hh hD' (fun cls d σ H w => w) q
      · cases hj
end
end
end DI
set_option Elab.async false
set_option linter.all false
set_option maxRecDepth 100000
namespace DI
open PySem PySem.Spec PyProof.Rows L2
section
variable {X : Cx} {W : WX} {ca : CA} {c : CE} {fz : Nat → Bool} {F : FC} {k : Nat}
theorem s_ret {e : Expr} {x : Ex} {pos : Pos} (he : SE X W ca fz F e x) : SS X W ca fz F (.Return (some e) pos) (.ret x) := by
  refine PS.imp (ps_ret he.v) fun Dn σ H q => ?_
  have q1 := tst_e (m := ev F x) (f := fun d s h => .rt d h) (fun s h => rfl) q
  exact tes_mono q1 fun v H1 ⟨M, r, hp, sd, d, h1, h2, h3, h4⟩ => rt_now h1 h3 h4
theorem s_retN {pos : Pos} : SS X W ca fz F (.Return none pos) .retN := by
  refine PS.imp ps_retN fun Dn σ H ⟨M, r, hp, sd, h1, h2, h3⟩ => ?_
  exact rt_now h1 rep_non h3
theorem s_pass {pos : Pos} : SS X W ca fz F (.Pass pos) .pass := PS.imp ps_pass fun Dn σ H ⟨M, r, hp, sd, h1, h2, h3⟩ => nx_now h1 h2 h3
theorem s_expr {e : Expr} {x : Ex} {pos : Pos} (he : SE X W ca fz F e x) (hn : noLc e = true) : SS X W ca fz F (.Expr e pos) (.expr x) := by
  refine PS.imp (ps_expr he.v (noLc_sw hn)) fun Dn σ H q => ?_
  have q1 := tst_e (m := ev F x) (f := fun d s h => .nx s h) (fun s h => rfl) q
  exact tes_mono q1 fun v H1 ⟨M, r, hp, sd, d, h1, h2, h3, h4⟩ => nx_now h1 h2 h4
theorem s_set (S : SX X W ca c F k) {e : Expr} {x : Ex} {y : Str} {i : Nat} {py pos : Pos} (he : SE X W ca fz F e x) (hn : noLc e = true) (hx : c.sc.lookup y = some .local ∨ c.sc.lookup y = some .cell) (hi : ixOf y c.N 0 = some i) (fr : ca.free i) :
    SS X W ca fz F (.Assign [.Name y py] e pos) (.set i x) := by
  obtain ⟨l1, l2⟩ := S.sto y hx
  refine PS.imp (ps_set (i := i) (by rw [S.N]; exact S.nd) (by rw [S.N]; exact ixOf_get0 hi) l1 he.v (noLc_sw hn) l2) fun Dn σ H q => ?_
  have q1 := tst_e (m := ev F x) (f := fun d s h => .nx (s.set i (some d)) h) (fun s h => rfl) q
  exact tes_mono q1 fun v H1 ⟨M, r, hp, sd, d, h1, h2, h3, h4⟩ => nx_now h1 (h2.set fr h3) h4
theorem s_if {e : Expr} {x : Ex} {a b : List Stmt} {y z : Sxs} {pos : Pos} (he : SE X W ca fz F e x) (ha : SSs X W ca fz F a y) (hb : SSs X W ca fz F b z) : SS X W ca fz F (.If e a b pos) (.ifs x y z) := by
  refine PS.imp (ps_if he.t ha hb) fun Dn σ H q => ?_
  have q1 := tst_t (m := ev F x) (f := fun t s h => if t = true then evSs F y s h else evSs F z s h) (fun s h => ?_) q
  · refine tes_mono q1 fun t H1 ⟨M, r, hp, sd, h1, h2, h3⟩ => ?_
    cases t with
    | true => exact ⟨M, r, hp, sd, h1, h2, h3⟩
    | false => exact ⟨M, r, hp, sd, h1, h2, h3⟩
  · simp only [evS, tr]
    cases ev F x s h with
    | ok d h' =>
      simp only [R.to_ok, R.bind_ok]
      cases e2 : truth h' d with
      | none => rfl
      | some t => cases t <;> rfl
    | exc _ _ => rfl
    | bad => rfl
theorem cIx_any {rec : Expr → Ex} {tg e : Expr} {x : Ex} (h : cIx c rec tg e = .any x) : x = rec e := by
  unfold cIx at h
  split at h
  · cases h
  · split at h
    · split at h <;> cases h
    · split at h
      · split at h <;> cases h
      · cases h; rfl
theorem s_forC (S : SX X W ca c F k) (hh : c.hot = false) {t it : Expr} {b : List Stmt} {g : Tg} {y : Sxs} {pos : Pos} (hg : cTg c t = some g) (hb : SSs X W ca fz F b y) (hs : noSet it = true) :
    SS X W ca fz F (.For t it b [] pos) (match cIx c (cE c 100) t it with
      | .any e => .forA g e y
      | ix => .for_ g ix y) := by
  have sf := s_for (pos := pos) S hh (fun e => sE (fz := fz) 100 S e) hg hb hs
  cases hx : cIx c (cE c 100) t it with
  | any e =>
    have := cIx_any hx
    subst this
    exact s_forA S hh (sE 100 S it) hg hb hs
  | _ => rw [hx] at sf; exact sf
theorem sS : ∀ (n : Nat) {X : Cx} {W : WX} {ca : CA} {c : CE} {F : FC} (S : SX X W ca c F k) (st : Stmt), SS X W ca fz F st (cS c n st)
  | 0, X, W, ca, c, F, S, st => SS.no rfl
  | n + 1, X, W, ca, c, F, S, st => by
    have ih := fun s => sS n S s
    unfold cS
    split
    · exact s_ret (sE _ S _)
    · exact s_retN
    · exact s_pass
    · split
      · rename_i h; exact s_expr (sE _ S _) h
      · exact SS.no rfl
    · split
      · rename_i h
        simp only [Bool.and_eq_true, Bool.or_eq_true, beq_iff_eq, Bool.not_eq_true'] at h
        split
        · rename_i i hi
          split
          · exact SS.no rfl
          · rename_i hx
            rcases h.1 with h1 | h1
            · exact s_set S (sE _ S _) h1 h.2 hi (S.frs i (by simpa using hx))
            · exact s_setLc (n := 99) S h1.2 h1.1 hi
        · exact SS.no rfl
      · exact SS.no rfl
    · split
      · exact SS.no rfl
      · rename_i h
        simp only [Bool.or_eq_true, Bool.not_eq_true', not_or, Bool.not_eq_false] at h
        exact s_setI S (sE _ S _) (sE _ S _) (sE _ S _) (by simpa using h.1) h.2
    · split
      · rename_i h
        simp only [Bool.and_eq_true, Bool.not_eq_true'] at h
        split
        · rename_i is hg
          exact s_unp S h.2 (sE _ S _) hg h.1.1 h.1.2
        · exact SS.no rfl
      · exact SS.no rfl
    · exact s_if (sE _ S _) (s_block ih _) (s_block ih _)
    · split
      · exact SS.no rfl
      · rename_i hh
        simp only [Bool.not_eq_true] at hh
        split
        · rename_i g hg
          split
          · rename_i hs
            exact s_forC S hh hg (s_block ih _) hs
          · exact SS.no rfl
        · exact SS.no rfl
    · split
      · rename_i h
        simp only [Bool.and_eq_true, Bool.or_eq_true, beq_iff_eq, Bool.not_eq_true'] at h
        split
        · rename_i i hi; exact s_aug (neg := false) S h.2 rfl (sE _ S _) h.1 hi
        · exact SS.no rfl
      · exact SS.no rfl
    · split
      · rename_i h
        simp only [Bool.and_eq_true, Bool.or_eq_true, beq_iff_eq, Bool.not_eq_true'] at h
        split
        · rename_i i hi; exact s_aug (neg := true) S h.2 rfl (sE _ S _) h.1 hi
        · exact SS.no rfl
      · exact SS.no rfl
    · split
      · exact SS.no rfl
      · exact s_while S (sE _ S _) (s_block ih _)
    · exact s_raise S
    · split
      · exact SS.no rfl
      · rename_i h
        simp only [Bool.or_eq_true, not_or, Bool.not_eq_true, Bool.not_eq_true', Bool.not_eq_false] at h
        obtain ⟨⟨⟨h1, h2⟩, h3⟩, h4⟩ := h
        split
        · rename_i j subs hj hs
          exact s_try S h1 h2 h3 (beq_iff_eq.mp h4) hj hs (fun Y W' SY s => sS n SY s) fun Y cb G SY s => sS n SY s
        · exact SS.no rfl
    · exact SS.no rfl
end

/-! ## 12. defs -/
/-- what is told of a def of the text by hand: its statement, its parameters, whether what it hands back is frozen -/
structure FnT where
  name : Str
  ps : List Str
  frz : Bool
  xs : List Str
  st : Stmt
/-- the def's own names: the parameters, then the others -/
def ownNames (ps : List Str) (sc : List (Str × NameKind)) : List Str :=
  ps ++ (sc.filterMap fun p => match p.2 with
    | .local | .cell => if ps.contains p.1 then none else some p.1
    | _ => none)
def FnT.N (f : FnT) : List Str := ownNames f.ps (defScope f.st).names ++ f.xs
structure PT0 where
  fns : List FnT
  consts : List (Str × D)
  mu : List (Nat × Nat)
  cls : List (Str × List Nat) := []
  tups : List (Str × List Str) := []
  dts : List (Nat × Nat) := []
def PT0.ce (p : PT0) (f : FnT) : CE := ⟨f.N, (defScope f.st).names, some (defScope f.st), p.fns.map (·.name), p.consts, p.mu, p.cls, false, none, p.tups, p.dts⟩
/-- where the classes stand -/
def caOf (K : PySem.W.Frag) (p : PT0) : CA := ⟨fun i => (p.cls[i]?).bind fun q => match PySem.W.nsIn K mainGlobals q.1 with
  | some (some (.ref C)) => some C
  | _ => none, none⟩
def PT0.fn (p : PT0) (f : FnT) : Fn := cFn (p.ce f) f.ps.length f.frz (defBody f.st)
def PT0.prog (p : PT0) : List Fn := p.fns.map p.fn
/-- what is to be seen of a def's scope -/
def scopeOk (f : FnT) : Bool :=
  (defScope f.st).kind == .function && !(defScope f.st).isCoroutine && !(defScope f.st).isGenerator &&
  decide f.N.Nodup && f.ps.all (fun x => (defScope f.st).names.lookup x == some .local || (defScope f.st).names.lookup x == some .cell) &&
  (defScope f.st).names.all fun y => y.2 != .free
theorem take_own (ps : List Str) (sc : List (Str × NameKind)) : (ownNames ps sc).take ps.length = ps := by simp [ownNames]
theorem scope_of {f : FnT} (h : scopeOk f = true) : FnScope f.N f.ps (defScope f.st) := by
  simp only [scopeOk, Bool.and_eq_true, Bool.not_eq_true', beq_iff_eq, decide_eq_true_eq, List.all_eq_true, Bool.or_eq_true, bne_iff_ne] at h
  obtain ⟨⟨⟨⟨⟨h1, h2⟩, h3⟩, h4⟩, h5⟩, h6⟩ := h
  exact ⟨h1, h2, h3, h4, by simp [FnT.N, ownNames], h5, h6⟩
/-- where a def of the text stands -/
structure FnW (K : PySem.W.Frag) (mg : Str → Option Value) (t : FnT) (f : Addr) (fd : FuncData) : Prop where
  fn : Fun K t.name t.name t.st f fd
  at_ : mg t.name = some (.ref f)
  b : Binds K fd t.ps []
structure PW0 (K : PySem.W.Frag) (mg : Str → Option Value) (p : PT0) : Prop where
  fns : ∀ (i : Nat) t, p.fns[i]? = some t → ∃ f fd, FnW K mg t f fd
  sc : ∀ t ∈ p.fns, scopeOk t = true
  cst : ∀ x d, p.consts.lookup x = some d → ∃ v u, mg x = some u ∧ RelV v u ∧ ∀ cf, Rep K cf d v
  blt : ∀ x ∈ bltNames, mg x = none
  few : p.fns.length ≤ XI
  cls : Clss K mg (caOf K p) p.cls
  tups : ∀ x l, p.tups.lookup x = some l → l.all (fun x => PyData.strOk x && decide (x.cps.size ≤ 16777216)) = true ∧ ∃ a, mg x = some (.ref a) ∧ ∀ H, SqT K H a (l.map V.str)

section
variable {P : Program} {w : World} {K : PySem.W.Frag} {mg : Str → Option Value} {base : Heap} {ca : CA}
end
end DI
set_option Elab.async false
set_option linter.all false
set_option maxRecDepth 100000
namespace DI
open PySem PySem.Spec PyProof.Rows L2
section
variable {P : Program} {w : World} {K : PySem.W.Frag} {mg : Str → Option Value} {base : Heap} {ca : CA}
theorem ran_post {E : XK} {c : Cf} {o : O} {Q : VK} (q : Post K ca (fun cls d _ H => E cls d H) (Rep K) ([] : L2.St) c (ran o) Q) :
    PostO K ca (fun cls d _ H => E cls d H) c o { nx := fun _ H' => Q .non H', rt := Q } := by
  cases o with
  | nx s h => exact fun c' σ' st sr _ => q c' .non st sr rep_non
  | rt d h => exact q
  | bk _ _ => exact q.elim
  | ct _ _ => exact q.elim
  | ex e s h => exact fun c' σ' cls dx st sr _ rx => q c' cls dx st sr rx
  | bad => exact q.elim
theorem reps_start {c : Cf} {ds : List D} {vs : List V} {N : List Str} (hn : ca.xa = none) (h : Reps K c ds vs) : RepS K ca c (ds.map some ++ List.replicate (N.length - ds.length) none) (L2.start N vs) := by
  have hl := h.length
  unfold L2.start
  refine ⟨⟨by simp [hl], fun i d e => ?_⟩, by rw [hn]; trivial⟩
  by_cases hi : i < ds.length
  · rw [List.getElem?_append_left (by simpa using hi), List.getElem?_map] at e
    cases q : ds[i]? with
    | none => rw [q] at e; cases e
    | some d' =>
      rw [q] at e
      cases e
      obtain ⟨x, ex, rx⟩ := h.get q
      refine ⟨x, ?_, rx⟩
      rw [List.getElem?_append_left (by simp; omega), List.getElem?_map, ex]
      rfl
  · rw [List.getElem?_append_right (by simpa using hi), List.getElem?_replicate] at e
    split at e <;> cases e
theorem sx_of {p : PT0} (pw : PW0 K mg p) {t : FnT} {f : Addr} {cdv : Value} {A : Around} {outer : List Env} {s : Shared} {H : Hp} {E : XK} {k : Nat} (ht : t ∈ p.fns)
    (hr : Room k (A.deeper (envOfC t.name (defScope t.st) s.heap.objs.size f cdv)))
    (ih : ∀ (i : Nat) (x : Str), (p.fns.map (·.name))[i]? = some x → FnAt (cxOf (L2.CX P w) P w K mg base t.N t.name (defScope t.st) f cdv A outer s H E) (caOf K p) (call p.prog k) k i x) :
    SX (cxOf (L2.CX P w) P w K mg base t.N t.name (defScope t.st) f cdv A outer s H E) (fun cls d _ H => E cls d H) (caOf K p) (p.ce t) (apart (fzs p.prog) (call p.prog k)) k where
  tk := takes_of rfl rfl rfl rfl
  kd := (scope_of (pw.sc t ht)).kind
  top := fun sc h => by
    cases h
    exact ⟨rfl, rfl⟩
  stk := fun _ => ⟨rfl, rfl⟩
  pass := PassesOwn.leaving
  calm := fun _ => rfl
  room := fun _ => hr
  hu := by
    have h1 := hr.un
    have h2 : (A.deeper (envOfC t.name (defScope t.st) s.heap.objs.size f cdv)).units + 200 < cLine := by omega
    exact h2
  N := rfl
  nd := (scope_of (pw.sc t ht)).nd
  loc := fun x h => by
    unfold isLoc at h
    have e : (p.ce t).sc = (defScope t.st).names := rfl
    rw [e] at h
    unfold Vis
    show (defScope t.st).names.lookup x = _ ∨ (defScope t.st).names.lookup x = _ ∨ (defScope t.st).names.lookup x = _
    split at h
    · rename_i q; exact .inl q
    · rename_i q; exact .inr (.inl q)
    · rename_i q; exact .inr (.inr q)
    · cases h
  sto := fun x h => ⟨h, .inl rfl⟩
  glb := fun x h => h
  cst := pw.cst
  fns := fun i x h => (ih i x h).apart
  few := by
    show (p.fns.map (·.name)).length ≤ XI
    rw [List.length_map]
    exact pw.few
  blt := pw.blt
  cool := fun _ => rfl
  xa0 := fun _ => rfl
  frs := fun i _ x h => by cases h
  exn := fun j h => by cases h
  cls := pw.cls
  tups := pw.tups
theorem sound (p : PT0) (pw : PW0 K mg p) : ∀ (k i : Nat) (t : FnT) (f : Addr) (fd : FuncData), p.fns[i]? = some t → FnW K mg t f fd → FnOk P w K mg base (L2.CX P w) k f fd t.ps (spF K (caOf K p) (call p.prog k) i)
  | 0, i, t, f, fd, _, _ => ⟨fun vs H Q E ⟨_, _, _, _, _, _, h⟩ => h.elim, fun A outer s H args us vs Q E _ _ _ _ ⟨_, _, _, _, _, _, h⟩ => h.elim⟩
  | k + 1, i, t, f, fd, hi, fw => by
    have hp : p.prog[i]? = some (p.fn t) := by simp [PT0.prog, hi]
    have out : ∀ {vs H Q E}, spF K (caOf K p) (call p.prog (k + 1)) i vs H Q E → ∃ M r hp ds, SR K (caOf K p) ⟨M, r, H⟩ hp ∧ Reps K ⟨M, r, H⟩ ds vs ∧ ds.length = t.ps.length ∧
        Post K (caOf K p) (fun cls d _ H => E cls d H) (Rep K) ([] : L2.St) ⟨M, r, H⟩ (ran (evSs (apart (fzs p.prog) (call p.prog k)) (p.fn t).body (ds.map some ++ List.replicate ((p.fn t).n - ds.length) none) hp)) Q := fun {vs H Q E} ⟨M, r, hp', ds, h1, h2, h3⟩ => by
      simp only [call, hp] at h3
      split at h3
      · rename_i hl
        exact ⟨M, r, hp', ds, h1, h2, hl, h3⟩
      · exact h3.elim
    refine fw.fn.okX (scope_of (pw.sc t (List.mem_of_getElem? hi))) (fun vs H Q E h => ?_) fun cdv A outer s H vs Q E hr h => ?_
    · obtain ⟨M, r, hp', ds, h1, h2, hl, _⟩ := out h
      rw [h2.length, hl]
    · obtain ⟨M, r, hp', ds, h1, h2, hl, h3⟩ := out h
      have S := sx_of (P := P) (w := w) (base := base) (E := E) (outer := outer) (H := H) pw (List.mem_of_getElem? hi) hr fun j x hx => by
        rw [List.getElem?_map] at hx
        cases q : p.fns[j]? with
        | none => rw [q] at hx; cases hx
        | some t' =>
          rw [q] at hx
          cases hx
          obtain ⟨f', fd', fw'⟩ := pw.fns j t' q
          exact ⟨f', fd', t'.ps, fw'.at_, fw'.fn.kp, fw'.b, sound p pw k j t' f' fd' q fw'⟩
      refine ⟨_, s_block (fz := fzs p.prog) (fun st => sS 50 S st) (defBody t.st), M, r, hp', _, h1, reps_start rfl h2, ran_post h3⟩
end
/-- the end: the law's def is the one at il -/
theorem law_walk {l : PySem.W.OpenLaw} {q : Program} {loose : List Str} {XP : (Str → Option Value) → Heap → Prop} {YP : World → Heap → Prop} {d : DefRec} {K : Params → PySem.W.Frag} (p : PT0) (il : Nat) (t : FnT) (k : Nat)
    (hn : l.most = some 63) (hdf : d.params.defaults = []) (hr : Room k callerA) (hil : p.fns[il]? = some t) (ht : t.name = d.name) (hps : t.ps = [Str.ofString "script"])
    (hY : ∀ (w : World) (h : Heap), YP w h → (K w.params).In h)
    (F : ∀ (w : World) (mg : Str → Option Value) (h : Heap), (K w.params).In h → h.Ns mainGlobals mg → PW0 (K w.params) mg p)
    (hb : ∀ (K : PySem.W.Frag) (f : Addr) (fd : FuncData), Fun K t.name t.name t.st f fd → ∀ (s : Shared) (u : Value), BindsTo s fd ⟨[u], []⟩ [(Str.ofString "script", u)])
    (law : ∀ ns : List Int, ns.length ≤ 63 → ∃ h, call p.prog k il [.scr ns] [] = .ok (.bl true) h) :
    PySem.W.WalkO q loose XP YP l.row.toRowW d [] (fun f vs => PySem.call f vs) := by
  refine L2.walk_of (n := 63) (k := k) (x := "script") (K := K) (CX := fun w => L2.CX l.prog w) (sp := fun w => spF (K w.params) (caOf (K w.params) p) (call p.prog k) il) hn (by rw [sz_eq]; decide) hdf hr hY (fun w mg fa h KX G hmg => ?_) (fun w H a ns hl hO hS => ?_) fun w H s e s' h => ?_
  · have pw := F w mg h KX G
    obtain ⟨f, fd, fw⟩ := pw.fns il t hil
    have e := fw.at_
    rw [ht, hmg] at e
    cases e
    refine ⟨fd, hb _ _ fd fw.fn, fun base _ _ => ?_⟩
    have := sound (P := l.prog) (w := w) (base := base) p pw k il t fa fd hil fw
    rw [hps] at this
    exact this
  · obtain ⟨h, e⟩ := law ns hl
    refine ⟨fun _ => False, [], [], [.scr ns], ⟨rfl, List.nodup_nil, fun a m => by simp at m, fun a m => m.elim, fun i a o e => by simp at e⟩, ?_, ?_⟩
    · simp only [Reps, Rep]
      refine ⟨_, _, rfl, ⟨a, rfl, ?_⟩, rfl⟩
      rcases hS with (hS | ⟨o, hS⟩) | hS
      · rcases hO a with z | ⟨o, xs, z⟩
        · rw [hS] at z; cases z
        · rw [hS] at z; cases z
      · exact .inl ⟨fun z => z, o, hS⟩
      · exact .inr hS
    · rw [e]
      intro c' y _ _ ry
      exact bl_of ry
  · obtain ⟨_, _, _, _, _, _, _, _, _, _, _, _, z⟩ := h
    exact z
/-- a def of the text, by what the head has found -/
theorem fnw_mk {K : PySem.W.Frag} {h : Heap} {mg : Str → Option Value} {n : Str} {ps xs : List Str} {z : Bool} {st : Stmt} {f : Addr} {oc : Value} {od an : Option Addr} {osl : Array (Option Value)} {kV doc pm cdv ct : Value} (X : K.In h) (G : h.Ns mainGlobals mg)
    (a : PySem.W.nsIn K mainGlobals n = some (some (.ref f)))
    (l : K.lookup f = some ⟨oc, od, .func (PySem.W.fnOf n n (defArgs st) (defBody st) (defScope st) .none kV doc pm an cdv ct), osl⟩)
    (c : PySem.W.codeIn K cdv n = true) (k : PySem.W.keepIn K (.ref f) = true)
    (b : ∀ (kV doc pm : Value) (an : Option Addr) (cdv ct : Value) (us : List Value), us.length = ps.length → bindArgs (PySem.W.fnOf n n (defArgs st) (defBody st) (defScope st) .none kV doc pm an cdv ct) ⟨us, []⟩ = pure (ps.zip us)) :
    ∃ f fd, FnW K mg ⟨n, ps, z, xs, st⟩ f fd :=
  ⟨f, _, fun_mk l c k, PySem.W.mg_of X G a, (fun_mk l c k).binds b⟩
def AllP {α : Type} (P : α → Prop) : List α → Prop
  | [] => True
  | x :: r => P x ∧ AllP P r
theorem AllP.cons {α : Type} {P : α → Prop} {x : α} {r : List α} (h : P x) (t : AllP P r) : AllP P (x :: r) := ⟨h, t⟩
theorem AllP.nil {α : Type} {P : α → Prop} : AllP P [] := trivial
theorem AllP.mem {α : Type} {P : α → Prop} : ∀ {l : List α}, AllP P l → ∀ x ∈ l, P x
  | [], _, _, h => by cases h
  | y :: r, ⟨h1, h2⟩, x, h => by
    rcases List.mem_cons.mp h with rfl | h
    · exact h1
    · exact AllP.mem h2 x h
def CstW (K : PySem.W.Frag) (mg : Str → Option Value) (p : Str × D) : Prop := ∃ v u, mg p.1 = some u ∧ RelV v u ∧ ∀ cf, Rep K cf p.2 v
theorem cst_int {K : PySem.W.Frag} {h : Heap} {mg : Str → Option Value} {n : Str} {i : Int} {tk : Tok} (X : K.In h) (G : h.Ns mainGlobals mg) (a : PySem.W.nsIn K mainGlobals n = some (some (.int i tk))) : CstW K mg (n, .int i) :=
  ⟨.int i, _, PySem.W.mg_of X G a, ⟨tk, rfl⟩, fun _ => rep_int⟩
theorem cst_str {K : PySem.W.Frag} {h : Heap} {mg : Str → Option Value} {n x : Str} {tk : Tok} (X : K.In h) (G : h.Ns mainGlobals mg) (a : PySem.W.nsIn K mainGlobals n = some (some (.str x tk))) (ok : PyData.strOk x = true) (hl : x.cps.size ≤ 16777216) : CstW K mg (n, strD x) :=
  ⟨.str x, _, PySem.W.mg_of X G a, ⟨tk, rfl⟩, fun _ => by
    simp only [Rep, strD, mkS]
    exact ⟨ok, by rw [sz_eq]; simpa using hl, trivial⟩⟩
def TupW (K : PySem.W.Frag) (mg : Str → Option Value) (p : Str × List Str) : Prop := p.2.all (fun x => PyData.strOk x && decide (x.cps.size ≤ 16777216)) = true ∧ ∃ a, mg p.1 = some (.ref a) ∧ ∀ H, SqT K H a (p.2.map V.str)
theorem cst_tup {K : PySem.W.Frag} {h : Heap} {mg : Str → Option Value} {n : Str} {p : Addr} {od : Option Addr} {its : Array Value} {m : Nat} {sl : Array (Option Value)} {l : List Str} (X : K.In h) (G : h.Ns mainGlobals mg) (a : PySem.W.nsIn K mainGlobals n = some (some (.ref p)))
    (lk : K.lookup p = some ⟨.type "tuple", od, .seq its m, sl⟩) (hv : Vals (l.map V.str) its.toList) (hs : l.all (fun x => PyData.strOk x && decide (x.cps.size ≤ 16777216)) = true) (hz : its.size ≤ sizeLine) : TupW K mg (n, l) :=
  ⟨hs, p, PySem.W.mg_of X G a, fun H => .inr ⟨_, its, m, lk, rfl, rfl, hz, hv⟩⟩
theorem pw_mk {K : PySem.W.Frag} {mg : Str → Option Value} {p : PT0} (h1 : AllP (fun t => ∃ f fd, FnW K mg t f fd) p.fns) (h2 : p.fns.all scopeOk = true) (h3 : AllP (CstW K mg) p.consts) (h4 : AllP (fun x => mg x = none) bltNames) (h5 : Clss K mg (caOf K p) p.cls) (h7 : AllP (TupW K mg) p.tups) (h6 : p.fns.length ≤ XI := by decide) : PW0 K mg p where
  fns := fun i t h => h1.mem t (List.mem_of_getElem? h)
  sc := fun t h => List.all_eq_true.mp h2 t h
  cst := fun x d h => by
    have : (x, d) ∈ p.consts := PySem.mem_of_lookup h
    exact h3.mem _ this
  blt := fun x h => h4.mem x h
  few := h6
  cls := h5
  tups := fun x l h => by
    have : (x, l) ∈ p.tups := PySem.mem_of_lookup h
    exact h7.mem _ this
/-- what the head tells of a class -/
structure ClsF (K : PySem.W.Frag) (n : Str) (C : Addr) : Prop where
  ns : PySem.W.nsIn K mainGlobals n = some (some (.ref C))
  exc : (n == "Ring") = false → PySem.W.excIn K C [.type "ValueError", .type "Exception", .type "BaseException", .type "object"] "ValueError.__new__" = true
  kp : PySem.W.keepIn K (.ref C) = true
  sb : PySem.W.subIn K (.ref C) (.type "BaseException") = some true
  ve : PySem.W.subIn K (.ref C) (.type "ValueError") = some true
  ty : PySem.W.typeIn K (.ref C) = some (.type "type")
  hg : PySem.W.findIn K (.ref C) "__getattribute__" = some (some (.builtin "BaseException.__getattribute__"))
  hk : PySem.W.findIn K (.ref C) "__getattr__" = some none
  hd : PySem.W.hasDictIn K C = true
  ha : PySem.W.findIn K (.ref C) "__class__" = some (some (.builtin "object.__class__"))
  hn : PySem.W.specialIn K (.builtin "object.__class__") "__get__" = some (some (.builtin "getset_descriptor.__get__"))
  ht : PySem.W.takesIn K (.builtin "object.__class__") = some true
  hm : PySem.W.mroIn K C (.type "object") = some true
  nr : PySem.W.findIn K (.ref C) payF = some none
def ClsFs (K : PySem.W.Frag) : List (Str × List Nat) → List Addr → Prop
  | [], [] => True
  | p :: r, C :: Cs => ClsF K p.1 C ∧ ClsFs K r Cs
  | _, _ => False
def SubRow (K : PySem.W.Frag) (C : Addr) (i : Nat) : List (Str × List Nat) → List Addr → Prop
  | [], [] => True
  | p :: r, D :: Ds => (∃ b, p.2.contains i = b ∧ PySem.W.subIn K (.ref C) (.ref D) = some b ∧ (b = true ∨ C ≠ D)) ∧ SubRow K C i r Ds
  | _, _ => False
def SubAll (K : PySem.W.Frag) (l : List (Str × List Nat)) (Cs : List Addr) : Nat → List Addr → Prop
  | _, [] => True
  | i, C :: r => SubRow K C i l Cs ∧ SubAll K l Cs (i + 1) r
theorem ClsFs.cons {K : PySem.W.Frag} {p : Str × List Nat} {r : List (Str × List Nat)} {C : Addr} {Cs : List Addr} (h : ClsF K p.1 C) (t : ClsFs K r Cs) : ClsFs K (p :: r) (C :: Cs) := ⟨h, t⟩
theorem ClsFs.nil {K : PySem.W.Frag} : ClsFs K [] [] := trivial
theorem SubRow.cons {K : PySem.W.Frag} {C D : Addr} {i : Nat} {p : Str × List Nat} {r : List (Str × List Nat)} {Ds : List Addr} (b : Bool) (h1 : p.2.contains i = b) (h2 : PySem.W.subIn K (.ref C) (.ref D) = some b) (h3 : b = true ∨ C ≠ D) (t : SubRow K C i r Ds) : SubRow K C i (p :: r) (D :: Ds) := ⟨⟨b, h1, h2, h3⟩, t⟩
theorem SubRow.nil {K : PySem.W.Frag} {C : Addr} {i : Nat} : SubRow K C i [] [] := trivial
theorem SubAll.cons {K : PySem.W.Frag} {l : List (Str × List Nat)} {Cs r : List Addr} {i : Nat} {C : Addr} (h : SubRow K C i l Cs) (t : SubAll K l Cs (i + 1) r) : SubAll K l Cs i (C :: r) := ⟨h, t⟩
theorem SubAll.nil {K : PySem.W.Frag} {l : List (Str × List Nat)} {Cs : List Addr} {i : Nat} : SubAll K l Cs i [] := trivial
theorem ClsFs.get {K : PySem.W.Frag} : ∀ {l : List (Str × List Nat)} {Cs : List Addr} {i : Nat} {p : Str × List Nat}, ClsFs K l Cs → l[i]? = some p → ∃ C, Cs[i]? = some C ∧ ClsF K p.1 C
  | [], _, _, _, _, e => by simp at e
  | q :: r, [], _, _, h, _ => h.elim
  | q :: r, C :: Cs, 0, p, h, e => by simp at e; subst e; exact ⟨C, rfl, h.1⟩
  | q :: r, C :: Cs, i + 1, p, h, e => by
    obtain ⟨D, e1, h1⟩ := ClsFs.get h.2 (by simpa using e)
    exact ⟨D, by simpa using e1, h1⟩
theorem SubRow.get {K : PySem.W.Frag} {C : Addr} {i : Nat} : ∀ {l : List (Str × List Nat)} {Ds : List Addr} {j : Nat} {p : Str × List Nat} {D : Addr}, SubRow K C i l Ds → l[j]? = some p → Ds[j]? = some D → PySem.W.subIn K (.ref C) (.ref D) = some (p.2.contains i) ∧ (p.2.contains i = true ∨ C ≠ D)
  | [], _, _, _, _, _, e, _ => by simp at e
  | q :: r, [], _, _, _, h, _, _ => h.elim
  | q :: r, D' :: Ds, 0, p, D, h, e, e2 => by
    simp at e e2
    subst e e2
    obtain ⟨⟨b, h1, h2, h3⟩, _⟩ := h
    rw [h1]
    exact ⟨h2, h3⟩
  | q :: r, D' :: Ds, j + 1, p, D, h, e, e2 => SubRow.get h.2 (by simpa using e) (by simpa using e2)
theorem SubAll.get {K : PySem.W.Frag} {l : List (Str × List Nat)} {Cs : List Addr} : ∀ {r : List Addr} {i k : Nat} {C : Addr}, SubAll K l Cs i r → r[k]? = some C → SubRow K C (i + k) l Cs
  | [], _, _, _, _, e => by simp at e
  | D :: r, i, 0, C, h, e => by simp at e; subst e; exact h.1
  | D :: r, i, k + 1, C, h, e => by
    have := SubAll.get h.2 (by simpa using e)
    rw [show i + (k + 1) = i + 1 + k by omega]
    exact this
theorem clss_mk {K : PySem.W.Frag} {h : Heap} {mg : Str → Option Value} {p : PT0} {Cs : List Addr} (X : K.In h) (G : h.Ns mainGlobals mg) (hf : ClsFs K p.cls Cs) (hs : SubAll K p.cls Cs 0 Cs) : Clss K mg (caOf K p) p.cls := by
  have at_ : ∀ (i : Nat) q, p.cls[i]? = some q → ∃ C, Cs[i]? = some C ∧ (caOf K p).cls i = some C ∧ ClsF K q.1 C := fun i q e => by
    obtain ⟨C, e1, f⟩ := hf.get e
    refine ⟨C, e1, ?_, f⟩
    simp [caOf, e, f.ns]
  refine ⟨fun i x subs e => ?_, fun i j q q' C D e1 e2 e3 e4 => ?_, fun i C e => ?_⟩
  · obtain ⟨C, _, e1, f⟩ := at_ i _ e
    refine ⟨C, e1, PySem.W.mg_of X G f.ns, f.exc, f.kp, f.sb, f.ty, ⟨f.hg, f.hk, f.sb, f.hd, f.ha, f.hn, f.ht, f.hm⟩, ?_, f.nr⟩
    show (if (Value.ref C == Value.type "ValueError") = true then some true else (if PySem.W.kitMeta "ValueError" = true then PySem.W.subIn K (.ref C) (.type "ValueError") else none)) = some true
    rw [f.ve, if_pos (show PySem.W.kitMeta "ValueError" = true by decide +kernel)]
    split <;> rfl
  · obtain ⟨C', c1, c2, f⟩ := at_ i _ e1
    obtain ⟨D', d1, d2, g⟩ := at_ j _ e2
    rw [e3] at c2; cases c2
    rw [e4] at d2; cases d2
    obtain ⟨h1, h2⟩ := (hs.get c1).get e2 d1
    rw [Nat.zero_add] at h1 h2
    refine ⟨?_, PySem.W.exm_ref g.sb g.hd g.ty h1⟩
    have hk := PySem.W.exm_ref g.sb g.hd g.ty h1
    have hk2 : PySem.W.kitCls K (.ref C) (.ref D) = some (q'.2.contains i) := by
      unfold PySem.W.exmOne at hk
      rw [if_pos (by rw [g.sb]; rfl)] at hk
      exact hk
    unfold PySem.W.kitOne
    split
    · rename_i e
      have : C = D := Value.ref.inj (beq_iff_eq.mp e)
      rcases h2 with h2 | h2
      · rw [h2]
      · exact absurd this h2
    · exact hk2
  · simp only [caOf] at e
    cases q : p.cls[i]? with
    | none => rw [q] at e; cases e
    | some _ => exact (List.getElem?_eq_some_iff.mp q).1
theorem clss_nil {K : PySem.W.Frag} {mg : Str → Option Value} {p : PT0} (h : p.cls = []) : Clss K mg (caOf K p) p.cls := by
  rw [h]
  refine ⟨fun i x s e => by simp at e, fun i j p q C D e => by simp at e, fun i C e => ?_⟩
  simp [caOf, h] at e
theorem binds_law {K : PySem.W.Frag} {n : Str} {st : Stmt} (h : ∀ (kV doc pm : Value) (an : Option Addr) (cdv ct u : Value), bindArgs (PySem.W.fnOf n n (defArgs st) (defBody st) (defScope st) .none kV doc pm an cdv ct) ⟨[u], []⟩ = pure [(Str.ofString "script", u)])
    (f : Addr) (fd : FuncData) (F : Fun K n n st f fd) (s : Shared) (u : Value) : BindsTo s fd ⟨[u], []⟩ [(Str.ofString "script", u)] := by
  obtain ⟨oc, od, kV, doc, pm, an, cdv, ct, osl, rfl, lk, hcd⟩ := F.ex
  exact .of_eq (h _ _ _ _ _ _ _)
end DI
set_option Elab.async false
set_option linter.all false
set_option maxRecDepth 100000
namespace DI
open PySem
/-! ## 13. words for the plain side -/
def S (s : String) : List Nat := s.toList.map Char.toNat
theorem S_inj {a b : String} (h : S a = S b) : a = b := by
  have : Function.Injective Char.toNat := fun x y h => Char.ext (UInt32.toNat.inj h)
  have e : a.toList = b.toList := (List.map_inj_right (fun x y h => this h)).mp h
  exact String.toList_inj.mp e
@[simp] theorem S_beq (a b : String) : (S a == S b) = (a == b) := by
  by_cases h : a = b
  · subst h; simp
  · have : S a ≠ S b := fun z => h (S_inj z)
    rw [beq_eq_false_iff_ne.mpr h, beq_eq_false_iff_ne.mpr this]
@[simp] theorem S_eq (a b : String) : (S a = S b) = (a = b) := propext ⟨S_inj, fun h => h ▸ rfl⟩
@[simp] theorem ev_var {F : FC} {s : Sl} {h : AH} {i : Nat} : ev F (.var i) s h = (match s[i]? with | some (some d) => .ok d h | _ => .bad) := by first | rfl | simp only [ev, evs, evS, evSs, evO, evC, evI]
@[simp] theorem ev_cst {F : FC} {s : Sl} {h : AH} {d : D} : ev F (.cst d) s h = .ok d h := by first | rfl | simp only [ev, evs, evS, evSs, evO, evC, evI]
@[simp] theorem ev_bin {F : FC} {s : Sl} {h : AH} {op : Operator} {mu : Bool} {a b : Ex} : ev F (.bin op mu a b) s h = ((ev F a s h).bind fun x h => (ev F b s h).bind fun y h => (R.opt (binop op h x y) h).bind fun d h => mkL mu d h) := by first | rfl | simp only [ev, evs, evS, evSs, evO, evC, evI]
@[simp] theorem ev_cmp {F : FC} {s : Sl} {h : AH} {op : CmpOp} {a b : Ex} : ev F (.cmp op a b) s h = ((ev F a s h).bind fun x h => (ev F b s h).bind fun y h => R.opt (orD (cmpop op h x y) (dCmp op h x y)) h) := by first | rfl | simp only [ev, evs, evS, evSs, evO, evC, evI]
@[simp] theorem ev_isN {F : FC} {s : Sl} {h : AH} {a : Ex} : ev F (.isN a) s h = ((ev F a s h).bind fun x h => .ok (.bl x.isNon) h) := by first | rfl | simp only [ev, evs, evS, evSs, evO, evC, evI]
@[simp] theorem ev_notN {F : FC} {s : Sl} {h : AH} {a : Ex} : ev F (.notN a) s h = ((ev F a s h).bind fun x h => .ok (.bl (!x.isNon)) h) := by first | rfl | simp only [ev, evs, evS, evSs, evO, evC, evI]
@[simp] theorem ev_and {F : FC} {s : Sl} {h : AH} {a b : Ex} : ev F (.and_ a b) s h = ((ev F a s h).bind fun x h => match truth h x with | some true => ev F b s h | some false => .ok x h | none => .bad) := by first | rfl | simp only [ev, evs, evS, evSs, evO, evC, evI]
@[simp] theorem ev_or {F : FC} {s : Sl} {h : AH} {a b : Ex} : ev F (.or_ a b) s h = ((ev F a s h).bind fun x h => match truth h x with | some true => .ok x h | some false => ev F b s h | none => .bad) := by first | rfl | simp only [ev, evs, evS, evSs, evO, evC, evI]
@[simp] theorem ev_not {F : FC} {s : Sl} {h : AH} {a : Ex} : ev F (.not_ a) s h = ((ev F a s h).bind fun x h => (R.opt (truth h x) h).bind fun b h => .ok (.bl (!b)) h) := by first | rfl | simp only [ev, evs, evS, evSs, evO, evC, evI]
@[simp] theorem ev_tup {F : FC} {s : Sl} {h : AH} {es : Exs} : ev F (.tup es) s h = ((evs F es s h).bind fun xs h => @ite _ (xs.length ≤ 16777216) (Classical.propDecidable (xs.length ≤ 16777216)) (.ok (.tup xs) h) (.bad)) := by first | rfl | simp only [ev, evs, evS, evSs, evO, evC, evI]
@[simp] theorem ev_lst {F : FC} {s : Sl} {h : AH} {mu : Bool} {es : Exs} : ev F (.lst mu es) s h = ((evs F es s h).bind fun xs h => @ite _ (xs.length ≤ 16777216) (Classical.propDecidable (xs.length ≤ 16777216)) (mkL mu (.lst xs) h) (.bad)) := by first | rfl | simp only [ev, evs, evS, evSs, evO, evC, evI]
@[simp] theorem ev_idx {F : FC} {s : Sl} {h : AH} {a i : Ex} : ev F (.idx a i) s h = ((ev F a s h).bind fun x h => (ev F i s h).bind fun y h => R.opt (orD (idxD h x y) (dLook h x y)) h) := by first | rfl | simp only [ev, evs, evS, evSs, evO, evC, evI]
@[simp] theorem ev_call {F : FC} {s : Sl} {h : AH} {f : Nat} {es : Exs} : ev F (.call f es) s h = ((evs F es s h).bind fun xs h => F f xs h) := by first | rfl | simp only [ev, evs, evS, evSs, evO, evC, evI]
@[simp] theorem ev_isi {F : FC} {s : Sl} {h : AH} {e : Ex} {cs : List Cl} : ev F (.isi e cs) s h = ((ev F e s h).bind fun x h => (R.opt (orD (isi1 h cs x) (dIsi h cs x)) h).bind fun b h => .ok (.bl b) h) := by first | rfl | simp only [ev, evs, evS, evSs, evO, evC, evI]
@[simp] theorem ev_bi {F : FC} {s : Sl} {h : AH} {b : Bi} {mu : Bool} {es : Exs} : ev F (.bi b mu es) s h = ((evs F es s h).bind fun xs h => (R.opt (orD (biD b h xs) (dBi b h xs)) h).bind fun d h => mkL mu d h) := by first | rfl | simp only [ev, evs, evS, evSs, evO, evC, evI]
@[simp] theorem ev_neg {F : FC} {s : Sl} {h : AH} {a : Ex} : ev F (.neg a) s h = ((ev F a s h).bind fun x h => match x with | .int i => .ok (.int (-i)) h | _ => .bad) := by first | rfl | simp only [ev, evs, evS, evSs, evO, evC, evI]
@[simp] theorem ev_sli {F : FC} {s : Sl} {h : AH} {mu : Bool} {a : Ex} {lo hi : Op} : ev F (.sli mu a lo hi) s h = ((ev F a s h).bind fun x h => (evO F lo s h).bind fun l h => (evO F hi s h).bind fun u h => (R.opt (sliD h x l u) h).bind fun d h => mkL mu d h) := by first | rfl | simp only [ev, evs, evS, evSs, evO, evC, evI]
@[simp] theorem ev_me {F : FC} {s : Sl} {h : AH} {m : Me} {mu : Bool} {o : Ex} {es : Exs} : ev F (.me m mu o es) s h = ((ev F o s h).bind fun x h => if meT m h x then (evs F es s h).bind fun xs h => match meD m h x xs with | some (d, h) => mkL (mu && m.fresh) d h | none => .bad else .bad) := by first | rfl | simp only [ev, evs, evS, evSs, evO, evC, evI]
@[simp] theorem ev_lrng {F : FC} {s : Sl} {h : AH} {mu two : Bool} {es : Exs} : ev F (.lrng mu two es) s h = ((evs F es s h).bind fun xs h => (R.opt (rngD two xs) h).bind fun ds h => @ite _ (ds.length ≤ 16777216) (Classical.propDecidable (ds.length ≤ 16777216)) (mkL mu (.lst ds) h) (.bad)) := by first | rfl | simp only [ev, evs, evS, evSs, evO, evC, evI]
@[simp] theorem ev_comp {F : FC} {s : Sl} {h : AH} {mu : Bool} {vs : List Nat} {g : Tg} {it : Ix} {c : Op} {e : Ex} : ev F (.comp mu vs g it c e) s h = ((evI F it s h).bind fun ds h => (compG ds.2 g (evC F c) (ev F e) (wipes s vs) ds.1 h).quiet.bind fun ys h => @ite _ (ys.length ≤ 16777216) (Classical.propDecidable (ys.length ≤ 16777216)) (mkL mu (.lst ys) h) (.bad)) := by first | rfl | simp only [ev, evs, evS, evSs, evO, evC, evI]
@[simp] theorem ev_lrev {F : FC} {s : Sl} {h : AH} {mu tup : Bool} {a : Ex} : ev F (.lrev mu tup a) s h = ((ev F a s h).bind fun x h => (R.opt (lrevD h x) h).bind fun ds h => if tup then .ok (.tup ds) h else mkL mu (.lst ds) h) := by first | rfl | simp only [ev, evs, evS, evSs, evO, evC, evI]
@[simp] theorem ev_dnew {F : FC} {s : Sl} {h : AH} {t : Bool} : ev F (.dnew t) s h = .ok (.ref h.length) (h ++ [if t then .dt [] else .dk []]) := by first | rfl | simp only [ev, evs, evS, evSs, evO, evC, evI]
@[simp] theorem ev_inC {F : FC} {s : Sl} {h : AH} {neg : Bool} {a : Ex} {ds : List D} : ev F (.inC neg a ds) s h = ((ev F a s h).bind fun x h => R.opt ((inL x ds).map fun b => .bl (if neg then !b else b)) h) := by first | rfl | simp only [ev, evs, evS, evSs, evO, evC, evI]
@[simp] theorem ev_isE {F : FC} {s : Sl} {h : AH} {subs : List Nat} : ev F (.isE subs) s h = (match F XI [] h with | .exc e _ => if e.pay.isNone then .ok (.bl (subs.contains e.cls)) h else .bad | _ => .bad) := by first | rfl | simp only [ev, evs, evS, evSs, evO, evC, evI]
@[simp] theorem ev_exf {F : FC} {s : Sl} {h : AH} : ev F .exf s h = (match F XI [] h with | .exc e _ => R.opt e.pay h | _ => .bad) := by first | rfl | simp only [ev, evs, evS, evSs, evO, evC, evI]
@[simp] theorem evO_no {F : FC} {s : Sl} {h : AH} : evO F .no s h = .ok none h := by first | rfl | simp only [ev, evs, evS, evSs, evO, evC, evI]
@[simp] theorem evO_yes {F : FC} {s : Sl} {h : AH} {e : Ex} : evO F (.yes e) s h = ((ev F e s h).bind fun x h => match x with | .int i => .ok (some i) h | _ => .bad) := by first | rfl | simp only [ev, evs, evS, evSs, evO, evC, evI]
@[simp] theorem evC_no {F : FC} {s : Sl} {h : AH} : evC F .no s h = .ok true h := by first | rfl | simp only [ev, evs, evS, evSs, evO, evC, evI]
@[simp] theorem evC_yes {F : FC} {s : Sl} {h : AH} {e : Ex} : evC F (.yes e) s h = ((ev F e s h).bind fun x h => R.opt (truth h x) h) := by first | rfl | simp only [ev, evs, evS, evSs, evO, evC, evI]
@[simp] theorem evI_any {F : FC} {s : Sl} {h : AH} {e : Ex} : evI F (.any e) s h = ((ev F e s h).bind fun x h => R.opt (items h x) h) := by first | rfl | simp only [ev, evs, evS, evSs, evO, evC, evI]
@[simp] theorem evI_rng {F : FC} {s : Sl} {h : AH} {two : Bool} {es : Exs} : evI F (.rng two es) s h = ((evs F es s h).bind fun xs h => R.opt ((rngD two xs).map fun ds => (ds, [])) h) := by first | rfl | simp only [ev, evs, evS, evSs, evO, evC, evI]
@[simp] theorem ev_chn {F : FC} {s : Sl} {h : AH} {o1 o2 : CmpOp} {a b c : Ex} : ev F (.chn o1 o2 a b c) s h = ((ev F a s h).bind fun x h => (ev F b s h).bind fun y h => (R.opt (cmpop o1 h x y) h).bind fun t h => match t with | .bl true => (ev F c s h).bind fun z h => R.opt (cmpop o2 h y z) h | .bl false => .ok (.bl false) h | _ => .bad) := by first | rfl | simp only [ev, evs, evS, evSs, evO, evC, evI]
@[simp] theorem evI_zip {F : FC} {s : Sl} {h : AH} {es : Exs} : evI F (.zip es) s h = ((evs F es s h).bind fun xs h => R.opt (zipD h xs) h) := by first | rfl | simp only [ev, evs, evS, evSs, evO, evC, evI]
@[simp] theorem evI_rev {F : FC} {s : Sl} {h : AH} {e : Ex} : evI F (.rev e) s h = ((ev F e s h).bind fun x h => R.opt (revD h x) h) := by first | rfl | simp only [ev, evs, evS, evSs, evO, evC, evI]
@[simp] theorem evI_rrng {F : FC} {s : Sl} {h : AH} {two : Bool} {es : Exs} : evI F (.rrng two es) s h = ((evs F es s h).bind fun xs h => R.opt ((rngD two xs).map fun ds => (ds.reverse, [])) h) := by first | rfl | simp only [ev, evs, evS, evSs, evO, evC, evI]
@[simp] theorem evs_nil {F : FC} {s : Sl} {h : AH} : evs F .nil s h = .ok [] h := by first | rfl | simp only [ev, evs, evS, evSs, evO, evC, evI]
@[simp] theorem evs_cons {F : FC} {s : Sl} {h : AH} {e : Ex} {es : Exs} : evs F (.cons e es) s h = ((ev F e s h).bind fun x h => (evs F es s h).bind fun xs h => .ok (x :: xs) h) := by first | rfl | simp only [ev, evs, evS, evSs, evO, evC, evI]
@[simp] theorem evS_pass {F : FC} {s : Sl} {h : AH} : evS F .pass s h = .nx s h := by first | rfl | simp only [ev, evs, evS, evSs, evO, evC, evI]
@[simp] theorem evS_ret {F : FC} {s : Sl} {h : AH} {e : Ex} : evS F (.ret e) s h = ((ev F e s h).to s fun d h => .rt d h) := by first | rfl | simp only [ev, evs, evS, evSs, evO, evC, evI]
@[simp] theorem evS_retN {F : FC} {s : Sl} {h : AH} : evS F .retN s h = .rt .non h := by first | rfl | simp only [ev, evs, evS, evSs, evO, evC, evI]
@[simp] theorem evS_expr {F : FC} {s : Sl} {h : AH} {e : Ex} : evS F (.expr e) s h = ((ev F e s h).to s fun _ h => .nx s h) := by first | rfl | simp only [ev, evs, evS, evSs, evO, evC, evI]
@[simp] theorem evS_set {F : FC} {s : Sl} {h : AH} {i : Nat} {e : Ex} : evS F (.set i e) s h = ((ev F e s h).to s fun d h => .nx (s.set i (some d)) h) := by first | rfl | simp only [ev, evs, evS, evSs, evO, evC, evI]
@[simp] theorem evS_ifs {F : FC} {s : Sl} {h : AH} {c : Ex} {t e : Sxs} : evS F (.ifs c t e) s h = ((ev F c s h).to s fun d h => match truth h d with | some true => evSs F t s h | some false => evSs F e s h | none => .bad) := by first | rfl | simp only [ev, evs, evS, evSs, evO, evC, evI]
@[simp] theorem evS_for {F : FC} {s : Sl} {h : AH} {g : Tg} {it : Ix} {b : Sxs} : evS F (.for_ g it b) s h = ((evI F it s h).to s fun ds h => loopG ds.2 (evSs F b) g ds.1 s h) := by first | rfl | simp only [ev, evs, evS, evSs, evO, evC, evI]
@[simp] theorem evS_forA {F : FC} {s : Sl} {h : AH} {g : Tg} {e : Ex} {b : Sxs} : evS F (.forA g e b) s h = ((ev F e s h).to s fun d h => match d with | .ref n => loopR (evSs F b) g n 100000 0 s h | d => match items h d with | some ds => loop (evSs F b) g ds.1 s h | none => .bad) := by first | rfl | simp only [ev, evs, evS, evSs, evO, evC, evI]
@[simp] theorem evS_aug {F : FC} {s : Sl} {h : AH} {neg : Bool} {i : Nat} {e : Ex} : evS F (.aug neg i e) s h = (match s[i]? with | some (some (.int a)) => (ev F e s h).to s fun d h => (match d with | .int b => .nx (s.set i (some (.int (if neg then a - b else a + b)))) h | _ => .bad) | _ => .bad) := by first | rfl | simp only [ev, evs, evS, evSs, evO, evC, evI]
@[simp] theorem evS_setI {F : FC} {s : Sl} {h : AH} {o i e : Ex} : evS F (.setI o i e) s h = ((ev F e s h).to s fun x h => (ev F o s h).to s fun o h => (ev F i s h).to s fun i h => match orD (setD h o i x) (dPut h o i x) with | some h => .nx s h | none => .bad) := by first | rfl | simp only [ev, evs, evS, evSs, evO, evC, evI]
@[simp] theorem evS_unp {F : FC} {s : Sl} {h : AH} {is : List Nat} {e : Ex} : evS F (.unp is e) s h = ((ev F e s h).to s fun d h => match asg (.tp is) d s with | some s => .nx s h | none => .bad) := by first | rfl | simp only [ev, evs, evS, evSs, evO, evC, evI]
@[simp] theorem evS_while {F : FC} {s : Sl} {h : AH} {c : Ex} {b : Sxs} : evS F (.while_ c b) s h = whiles (fun s h => tr (ev F c s h)) (evSs F b) 100000 s h := by first | rfl | simp only [ev, evs, evS, evSs, evO, evC, evI]
@[simp] theorem evS_raise {F : FC} {s : Sl} {h : AH} {n : Nat} : evS F (.raise_ n) s h = .ex ⟨n, none⟩ s h := by first | rfl | simp only [ev, evs, evS, evSs, evO, evC, evI]
@[simp] theorem evS_try {F : FC} {s : Sl} {h : AH} {b hb : Sxs} {subs : List Nat} {j : Option Nat} : evS F (.try_ b subs j hb) s h = ((evSs F b s h).caught subs j fun e s h => evSs (withE e F) hb s h) := by first | rfl | simp only [ev, evs, evS, evSs, evO, evC, evI]
@[simp] theorem evSs_nil {F : FC} {s : Sl} {h : AH} : evSs F .nil s h = .nx s h := by first | rfl | simp only [ev, evs, evS, evSs, evO, evC, evI]
@[simp] theorem evSs_cons {F : FC} {s : Sl} {h : AH} {x : Sx} {xs : Sxs} : evSs F (.cons x xs) s h = ((evS F x s h).seq fun s h => evSs F xs s h) := by first | rfl | simp only [ev, evs, evS, evSs, evO, evC, evI]
@[simp] theorem loopG_nil' {body : Sl → AH → O} {g : Tg} {ds : List D} {s : Sl} {h : AH} : loopG [] body g ds s h = loop body g ds s h := loopG_nil body g ds s h
@[simp] theorem compG_nil' {g : Tg} {cond : Sl → AH → R Bool} {elt : EVl} {s : Sl} {ds : List D} {h : AH} : compG [] g cond elt s ds h = compL g cond elt s ds h := compG_nil g cond elt s ds h
@[simp] theorem withE_at {e : EV} {F : FC} {h : AH} : withE e F XI [] h = .exc e h := by simp [withE]
@[simp] theorem caught_nx {s : Sl} {h : AH} {subs : List Nat} {j : Option Nat} {f : EV → Sl → AH → O} : (O.nx s h).caught subs j f = .nx s h := rfl
@[simp] theorem caught_rt {d : D} {h : AH} {subs : List Nat} {j : Option Nat} {f : EV → Sl → AH → O} : (O.rt d h).caught subs j f = .rt d h := rfl
@[simp] theorem caught_ex {e : EV} {s : Sl} {h : AH} {subs : List Nat} {j : Option Nat} {f : EV → Sl → AH → O} : (O.ex e s h).caught subs j f = if subs.contains e.cls then (if slotOk j s then (f e (hide j s) h).gone j else .bad) else .ex e s h := rfl
@[simp] theorem gone_nxs {s : Sl} {h : AH} {j : Nat} : (O.nx s h).gone (some j) = .nx (s.set j none) h := rfl
@[simp] theorem gone_nxn {s : Sl} {h : AH} : (O.nx s h).gone none = .nx s h := rfl
@[simp] theorem gone_rt {d : D} {h : AH} {j : Option Nat} : (O.rt d h).gone j = .rt d h := rfl
@[simp] theorem hide_s {s : Sl} {j : Nat} : hide (some j) s = s.set j none := rfl
@[simp] theorem hide_n {s : Sl} : hide none s = s := rfl
@[simp] theorem slotOk_s {s : Sl} {j : Nat} : slotOk (some j) s = decide (j < s.length) := rfl
@[simp] theorem slotOk_n {s : Sl} : slotOk none s = true := rfl
/-! dicts -/
@[simp] theorem kOf_int {i : Int} : kOf (.int i) = some (.inl i) := rfl
@[simp] theorem kOf_str {x : List Nat} : kOf (.str x) = some (.inr x) := rfl
@[simp] theorem dGet_ref {h : AH} {n : Nat} {i : D} : dGet h (.ref n) i = (match h[n]? with | some (.dk ks) => (kOf i).map (getKV ks) | some (.fk ks) => (kOf i).map (getKV ks) | some (.dt ks) => (tOf i).map (getKV ks) | some (.ft ks) => (tOf i).map (getKV ks) | _ => none) := rfl
@[simp] theorem dLook_eq {h : AH} {o i : D} : dLook h o i = (dGet h o i).bind id := rfl
@[simp] theorem dPut_ref {h : AH} {n : Nat} {i x : D} : dPut h (.ref n) i x = (match h[n]? with | some (.dk ks) => @ite _ (ks.length < 16777216) (Classical.propDecidable (ks.length < 16777216)) ((kOf i).map fun k => h.set n (.dk (putKV ks k x))) none | some (.dt ks) => @ite _ (ks.length < 16777216) (Classical.propDecidable (ks.length < 16777216)) ((tOf i).map fun k => h.set n (.dt (putKV ks k x))) none | _ => none) := rfl
@[simp] theorem dCmp_in {h : AH} {x y : D} : dCmp .In h x y = (dGet h y x).map fun o => .bl o.isSome := rfl
@[simp] theorem dCmp_nin {h : AH} {x y : D} : dCmp .NotIn h x y = (dGet h y x).map fun o => .bl (!o.isSome) := rfl
@[simp] theorem dBi_len {h : AH} {n : Nat} : dBi .len h [.ref n] = (match h[n]? with | some (.dk ks) => some (.int ks.length) | some (.dt ks) => some (.int ks.length) | _ => none) := rfl
@[simp] theorem dBi_list {h : AH} {n : Nat} : dBi .list h [.ref n] = (match h[n]? with | some (.dk ks) => some (.lst (ks.map fun p => kD p.1)) | some (.dt ks) => some (.lst (ks.map fun p => .tup (p.1.map kD))) | _ => none) := rfl
@[simp] theorem bi_list_ref {h : AH} {n : Nat} : biD .list h [.ref n] = (match h[n]? with | some (.lst ds) => some (.lst ds) | _ => none) := by
  show (asL h (.ref n)).map D.lst = _
  simp only [asL]
  cases h[n]? with
  | none => rfl
  | some o => cases o <;> rfl
@[simp] theorem tOf_two {a b : D} : tOf (.tup [a, b]) = (match kOf a, kOf b with | some k, some l => some [k, l] | _, _ => none) := by
  simp only [tOf, kOfs]
  cases kOf a <;> cases kOf b <;> rfl
@[simp] theorem add_rl {h : AH} {n : Nat} {b : List D} : binop .Add h (.ref n) (.lst b) = (match h[n]? with | some (.lst a) => @ite _ (a.length + b.length ≤ 16777216) (Classical.propDecidable (a.length + b.length ≤ 16777216)) (some (.lst (a ++ b))) (none) | _ => none) := by
  show (match asL h (.ref n), asL h (.lst b) with | some a, some b => @ite _ (a.length + b.length ≤ 16777216) (Classical.propDecidable (a.length + b.length ≤ 16777216)) (some (D.lst (a ++ b))) (none) | _, _ => none) = _
  simp only [asL]
  cases h[n]? with
  | none => rfl
  | some o => cases o <;> rfl
@[simp] theorem dIsi_ref {h : AH} {n : Nat} {cs : List Cl} : dIsi h cs (.ref n) = (match h[n]? with | some (.dk _) => some (cs.contains .dict) | some (.dt _) => some (cs.contains .dict) | _ => none) := rfl
@[simp] theorem idx_rs {h : AH} {n : Nat} {x : List Nat} : idxD h (.ref n) (.str x) = none := rfl
@[simp] theorem idx_rt {h : AH} {n : Nat} {x : List D} : idxD h (.ref n) (.tup x) = none := rfl
@[simp] theorem idx_ri {h : AH} {n : Nat} {i : Int} : idxD h (.ref n) (.int i) = (match h[n]? with | some (.lst ds) => atL ds i | _ => none) := by
  show (asL h (.ref n)).bind _ = _
  simp only [asL]
  cases h[n]? with
  | none => rfl
  | some o => cases o <;> rfl
@[simp] theorem setD_rs {h : AH} {n : Nat} {x : List Nat} {d : D} : setD h (.ref n) (.str x) d = none := rfl
@[simp] theorem setD_rt {h : AH} {n : Nat} {x : List D} {d : D} : setD h (.ref n) (.tup x) d = none := rfl
@[simp] theorem in_ref {h : AH} {x : D} {n : Nat} : inD h x (.ref n) = (match h[n]? with | some (.lst ds) => inA h x ds | _ => none) := by
  show (asL h (.ref n)).bind _ = _
  simp only [asL]
  cases h[n]? with
  | none => rfl
  | some o => cases o <;> rfl
@[simp] theorem isi_ref {h : AH} {n : Nat} {cs : List Cl} : isi1 h cs (.ref n) = (match h[n]? with | some (.lst ds) => some (cs.any fun c => isCl c (.lst ds)) | _ => none) := by
  simp only [isi1, now]
  cases h[n]? with
  | none => rfl
  | some o => cases o <;> rfl
@[simp] theorem bi_len_ref {h : AH} {n : Nat} : biD .len h [.ref n] = (match h[n]? with | some (.lst ds) => some (.int ds.length) | _ => none) := by
  show lenD h (.ref n) = _
  simp only [lenD, asL]
  cases h[n]? with
  | none => rfl
  | some o => cases o <;> rfl
@[simp] theorem truth_bl {h : AH} {b : Bool} : truth h (.bl b) = some b := rfl
@[simp] theorem truth_non {h : AH} : truth h .non = some false := rfl
@[simp] theorem truth_int {h : AH} {i : Int} : truth h (.int i) = some (i != 0) := rfl
@[simp] theorem eqD_int {h : AH} {i j : Int} : eqD h (.int i) (.int j) = some (decide (i = j)) := by simp [eqD, now, D.dat, D.dep, eqv]; rfl
@[simp] theorem eqD_str {h : AH} {x y : List Nat} : eqD h (.str x) (.str y) = some (decide (x = y)) := by simp [eqD, now, D.dat, D.dep, eqv, Bool.beq_eq_decide_eq]
@[simp] theorem cmp_eq {h : AH} {x y : D} : cmpop .Eq h x y = (eqD h x y).map D.bl := rfl
@[simp] theorem cmp_ne {h : AH} {x y : D} : cmpop .NotEq h x y = (eqD h x y).map fun b => D.bl (!b) := rfl
@[simp] theorem cmp_in {h : AH} {x y : D} : cmpop .In h x y = (inD h x y).map D.bl := rfl
@[simp] theorem cmp_notin {h : AH} {x y : D} : cmpop .NotIn h x y = (inD h x y).map fun b => D.bl (!b) := rfl
@[simp] theorem in_str1 {h : AH} {c : Nat} {z : List Nat} : inD h (.str [c]) (.str z) = some (decide (c ∈ z)) := rfl
@[simp] theorem in_tup {h : AH} {x : D} {ds : List D} : inD h x (.tup ds) = inL x ds := rfl
@[simp] theorem in_lst {h : AH} {x : D} {ds : List D} : inD h x (.lst ds) = inA h x ds := rfl
@[simp] theorem bin_muls {h : AH} {a : List Nat} {k : Int} : binop .Mult h (.str a) (.int k) = @ite _ (-1000000 < k ∧ k < 1000000 ∧ a.length * k.toNat ≤ 16777216) (Classical.propDecidable (-1000000 < k ∧ k < 1000000 ∧ a.length * k.toNat ≤ 16777216)) (some (.str (repL k a))) (none) := rfl
@[simp] theorem bi_int_str {h : AH} {a : List Nat} : biD .int h [.str a] = (intD a).map D.int := rfl
@[simp] theorem zip_tup {h : AH} {a b : List D} : zipD h [.tup a, .tup b] = some (List.zipWith (fun x y => D.tup [x, y]) a b, []) := rfl
@[simp] theorem zip_lst {h : AH} {a b : List D} : zipD h [.lst a, .lst b] = some (List.zipWith (fun x y => D.tup [x, y]) a b, []) := rfl
@[simp] theorem rev_tup {h : AH} {a : List D} : revD h (.tup a) = some (a.reverse, []) := rfl
@[simp] theorem rev_lst {h : AH} {a : List D} : revD h (.lst a) = some (a.reverse, []) := rfl
@[simp] theorem lrev_tup {h : AH} {a : List D} : lrevD h (.tup a) = some a.reverse := rfl
@[simp] theorem lrev_lst {h : AH} {a : List D} : lrevD h (.lst a) = some a.reverse := rfl
@[simp] theorem cmp_lt {h : AH} {x y : Int} : cmpop .Lt h (.int x) (.int y) = some (.bl (decide (x < y))) := rfl
@[simp] theorem cmp_le {h : AH} {x y : Int} : cmpop .LtE h (.int x) (.int y) = some (.bl (decide (x ≤ y))) := rfl
@[simp] theorem cmp_gt {h : AH} {x y : Int} : cmpop .Gt h (.int x) (.int y) = some (.bl (decide (y < x))) := rfl
@[simp] theorem cmp_ge {h : AH} {x y : Int} : cmpop .GtE h (.int x) (.int y) = some (.bl (decide (y ≤ x))) := rfl
@[simp] theorem bin_add {h : AH} {x y : Int} : binop .Add h (.int x) (.int y) = some (.int (x + y)) := rfl
@[simp] theorem bin_sub {h : AH} {x y : Int} : binop .Sub h (.int x) (.int y) = some (.int (x - y)) := rfl
/-- small enough to be multiplied by anything -/
def sm (x : Int) : Prop := -18446744073709551616 < x ∧ x < 18446744073709551616
instance (x : Int) : Decidable (sm x) := inferInstanceAs (Decidable (_ ∧ _))
theorem sm_of {x : Int} (h1 : -18446744073709551616 < x) (h2 : x < 18446744073709551616) : sm x := ⟨h1, h2⟩
@[simp] theorem bin_mul {h : AH} {x y : Int} : binop .Mult h (.int x) (.int y) = @ite _ (sm x ∨ sm y) (Classical.propDecidable (sm x ∨ sm y)) (some (.int (x * y))) (none) := rfl
@[simp] theorem bin_div {h : AH} {x y : Int} : binop .FloorDiv h (.int x) (.int y) = @ite _ (0 < y ∧ y < 18446744073709551616) (Classical.propDecidable (0 < y ∧ y < 18446744073709551616)) (some (.int (x / y))) (none) := rfl
@[simp] theorem bin_mod {h : AH} {x y : Int} : binop .Mod h (.int x) (.int y) = @ite _ (0 < y) (Classical.propDecidable (0 < y)) (some (.int (x % y))) (none) := rfl
@[simp] theorem bin_pow {h : AH} {x y : Int} : binop .Pow h (.int x) (.int y) = @ite _ (0 ≤ y ∧ y ≤ 1000000 ∧ x.natAbs < 2 ^ 64) (Classical.propDecidable (0 ≤ y ∧ y ≤ 1000000 ∧ x.natAbs < 2 ^ 64)) (some (.int (x ^ y.toNat))) (none) := rfl
@[simp] theorem mkL_f {d : D} {h : AH} : mkL false d h = .ok d h := by cases d <;> rfl
@[simp] theorem mkL_t {ds : List D} {h : AH} : mkL true (.lst ds) h = .ok (.ref h.length) (h ++ [.lst ds]) := rfl
@[simp] theorem isi_i {h : AH} {cs : List Cl} {i : Int} : isi1 h cs (.int i) = some (cs.any fun c => isCl c (.int i)) := rfl
@[simp] theorem isi_b {h : AH} {cs : List Cl} {i : Bool} : isi1 h cs (.bl i) = some (cs.any fun c => isCl c (.bl i)) := rfl
@[simp] theorem isi_s {h : AH} {cs : List Cl} {i : List Nat} : isi1 h cs (.str i) = some (cs.any fun c => isCl c (.str i)) := rfl
@[simp] theorem isi_t {h : AH} {cs : List Cl} {i : List D} : isi1 h cs (.tup i) = some (cs.any fun c => isCl c (.tup i)) := rfl
@[simp] theorem isi_l {h : AH} {cs : List Cl} {i : List D} : isi1 h cs (.lst i) = some (cs.any fun c => isCl c (.lst i)) := rfl
@[simp] theorem ran_rt {d : D} {h : AH} : ran (.rt d h) = .ok d h := rfl
@[simp] theorem ran_nx {s : Sl} {h : AH} : ran (.nx s h) = .ok .non h := rfl
@[simp] theorem ran_ex {e : EV} {s : Sl} {h : AH} : ran (.ex e s h) = .exc e h := rfl
@[simp] theorem idx_tup {h : AH} {ds : List D} {i : Int} : idxD h (.tup ds) (.int i) = atL ds i := rfl
@[simp] theorem idx_lst {h : AH} {ds : List D} {i : Int} : idxD h (.lst ds) (.int i) = atL ds i := rfl
@[simp] theorem idx_str {h : AH} {ds : List Nat} {i : Int} : idxD h (.str ds) (.int i) = (atL ds i).map fun c => .str [c] := rfl
@[simp] theorem idx_scr {h : AH} {ds : List Int} {i : Int} : idxD h (.scr ds) (.int i) = (atL ds i).map D.int := rfl
@[simp] theorem items_tup {h : AH} {ds : List D} : items h (.tup ds) = some (ds, []) := rfl
@[simp] theorem items_lst {h : AH} {ds : List D} : items h (.lst ds) = some (ds, []) := rfl
@[simp] theorem items_scr {h : AH} {ds : List Int} : items h (.scr ds) = some (ds.map D.int, []) := rfl
@[simp] theorem asg_nm {i : Nat} {d : D} {s : Sl} : asg (.nm i) d s = some (s.set i (some d)) := rfl
theorem atL_nat {α : Type} {xs : List α} {n : Nat} : atL xs (n : Int) = xs[n]? := by simp [atL]
@[simp] theorem atL_0 {α : Type} {xs : List α} : atL xs 0 = xs[0]? := rfl
@[simp] theorem atL_1 {α : Type} {xs : List α} : atL xs 1 = xs[1]? := rfl
@[simp] theorem atL_2 {α : Type} {xs : List α} : atL xs 2 = xs[2]? := rfl
@[simp] theorem atL_3 {α : Type} {xs : List α} : atL xs 3 = xs[3]? := rfl
@[simp] theorem items_str {h : AH} {x : List Nat} : items h (.str x) = some (x.map fun c => .str [c], []) := rfl
@[simp] theorem bi_len_str {h : AH} {x : List Nat} : biD .len h [.str x] = some (.int x.length) := rfl
@[simp] theorem bi_len_tup {h : AH} {x : List D} : biD .len h [.tup x] = some (.int x.length) := rfl
@[simp] theorem bi_len_lst {h : AH} {x : List D} : biD .len h [.lst x] = some (.int x.length) := rfl
@[simp] theorem bi_len_scr {h : AH} {x : List Int} : biD .len h [.scr x] = some (.int x.length) := rfl
@[simp] theorem bi_int_int {h : AH} {x : Int} : biD .int h [.int x] = some (.int x) := rfl
@[simp] theorem bi_int_bl {h : AH} {x : Bool} : biD .int h [.bl x] = some (.int (if x then 1 else 0)) := rfl
@[simp] theorem bi_str_int {h : AH} {x : Int} : biD .str h [.int x] = @ite _ (x.natAbs < 1000000000000000000000000000000) (Classical.propDecidable (x.natAbs < 1000000000000000000000000000000)) (some (.str (digs x))) (none) := rfl
@[simp] theorem bi_list_tup {h : AH} {x : List D} : biD .list h [.tup x] = some (.lst x) := rfl
@[simp] theorem bi_list_lst {h : AH} {x : List D} : biD .list h [.lst x] = some (.lst x) := rfl
@[simp] theorem bi_list_scr {h : AH} {x : List Int} : biD .list h [.scr x] = some (.lst (x.map D.int)) := rfl
@[simp] theorem bi_tuple_tup {h : AH} {x : List D} : biD .tuple h [.tup x] = some (.tup x) := rfl
@[simp] theorem bi_tuple_lst {h : AH} {x : List D} : biD .tuple h [.lst x] = some (.tup x) := rfl
@[simp] theorem bi_min2 {h : AH} {i j : Int} : biD .min2 h [.int i, .int j] = some (.int (if j < i then j else i)) := rfl
@[simp] theorem bi_max2 {h : AH} {i j : Int} : biD .max2 h [.int i, .int j] = some (.int (if j > i then j else i)) := rfl
@[simp] theorem sli_str {h : AH} {x : List Nat} {l u : Option Int} : sliD h (.str x) l u = some (.str (cutL x l u)) := rfl
@[simp] theorem sli_tup {h : AH} {x : List D} {l u : Option Int} : sliD h (.tup x) l u = some (.tup (cutL x l u)) := rfl
@[simp] theorem sli_lst {h : AH} {x : List D} {l u : Option Int} : sliD h (.lst x) l u = some (.lst (cutL x l u)) := rfl
@[simp] theorem add_str {h : AH} {x y : List Nat} : binop .Add h (.str x) (.str y) = @ite _ (x.length + y.length ≤ 16777216) (Classical.propDecidable (x.length + y.length ≤ 16777216)) (some (.str (x ++ y))) (none) := rfl
@[simp] theorem add_tup {h : AH} {x y : List D} : binop .Add h (.tup x) (.tup y) = @ite _ (x.length + y.length ≤ 16777216) (Classical.propDecidable (x.length + y.length ≤ 16777216)) (some (.tup (x ++ y))) (none) := rfl
@[simp] theorem add_lst {h : AH} {x y : List D} : binop .Add h (.lst x) (.lst y) = @ite _ (x.length + y.length ≤ 16777216) (Classical.propDecidable (x.length + y.length ≤ 16777216)) (some (.lst (x ++ y))) (none) := rfl
@[simp] theorem rng1 {j : Int} : rngD false [.int j] = @ite _ (j < 1000000000 ∧ -1000000000 < j) (Classical.propDecidable (j < 1000000000 ∧ -1000000000 < j)) (some ((List.range j.toNat).map fun n => .int (n : Nat))) (none) := rfl
@[simp] theorem rng2 {i j : Int} : rngD true [.int i, .int j] = @ite _ (j < 1000000000 ∧ -1000000000 < j ∧ i < 1000000000 ∧ -1000000000 < i) (Classical.propDecidable (j < 1000000000 ∧ -1000000000 < j ∧ i < 1000000000 ∧ -1000000000 < i)) (some ((List.range (j - i).toNat).map fun n => .int (i + (n : Nat)))) (none) := rfl
@[simp] theorem meT_append {h : AH} {o : D} : meT .append h o = (asL h o).isSome := rfl
@[simp] theorem meT_join {h : AH} {o : List Nat} : meT .join h (.str o) = true := rfl
@[simp] theorem asL_ref {h : AH} {n : Nat} : asL h (.ref n) = (match h[n]? with | some (.lst ds) => some ds | _ => none) := rfl
@[simp] theorem asL_lst {h : AH} {o : List D} : asL h (.lst o) = some o := rfl
@[simp] theorem tr_ok {d : D} {h : AH} : tr (.ok d h) = R.opt (truth h d) h := rfl
@[simp] theorem isi_scr {h : AH} {cs : List Cl} {i : List Int} : isi1 h cs (.scr i) = some (cs.any fun c => isCl c (.scr i)) := rfl
@[simp] theorem isi_n {h : AH} {cs : List Cl} : isi1 h cs .non = some (cs.any fun c => isCl c .non) := rfl
theorem cutL_to {α : Type} {xs : List α} {n : Nat} : cutL xs none (some (n : Int)) = xs.take n := by
  have h : ¬ ((n : Int) < 0) := by omega
  simp [cutL, HT.sIx, h]
theorem atL_lt {α : Type} {xs : List α} {i : Int} {d : α} (h0 : 0 ≤ i) (h1 : i < xs.length) : atL xs i = some (xs.getD i.toNat d) := by
  unfold atL
  rw [if_pos h0]
  have : i.toNat < xs.length := by omega
  rw [List.getElem?_eq_getElem this]
  simp [List.getD, List.getElem?_eq_getElem this]
/-- a comprehension that only maps -/
theorem compL_map {F : FC} {e : Ex} {i : Nat} {s : Sl} {h : AH} (f : D → D) : ∀ {ds : List D}, (∀ d ∈ ds, ev F e (s.set i (some d)) h = .ok (f d) h) → compL (.nm i) (evC F .no) (ev F e) s ds h = .ok (ds.map f) h
  | [], _ => rfl
  | d :: ds, hd => by
    rw [compL]
    simp only [asg_nm, evC_no, R.bind_ok]
    rw [hd d (by simp)]
    simp only [R.bind_ok]
    rw [compL_map f fun d' hd' => hd d' (by simp [hd'])]
    rfl
theorem compL_if {F : FC} {e c : Ex} {i : Nat} {s : Sl} {h : AH} (f : D → D) (p : D → Bool) : ∀ {ds : List D}, (∀ d ∈ ds, evC F (.yes c) (s.set i (some d)) h = .ok (p d) h) → (∀ d ∈ ds, p d = true → ev F e (s.set i (some d)) h = .ok (f d) h) → compL (.nm i) (evC F (.yes c)) (ev F e) s ds h = .ok ((ds.filter p).map f) h
  | [], _, _ => rfl
  | d :: ds, hp, hd => by
    rw [compL]
    simp only [asg_nm]
    rw [hp d (by simp)]
    simp only [R.bind_ok]
    have ih := compL_if (ds := ds) f p (fun d' h' => hp d' (List.mem_cons_of_mem _ h')) (fun d' h' => hd d' (List.mem_cons_of_mem _ h'))
    cases q : p d with
    | true =>
      simp only
      rw [hd d (by simp) q]
      simp only [R.bind_ok]
      rw [ih]
      simp [List.filter_cons, q]
    | false =>
      simp only
      rw [ih]
      simp [List.filter_cons, q]
theorem getStrs_map {α : Type} {g : α → List Nat} : ∀ {l : List α}, getStrs (l.map fun a => .str (g a)) = some (l.map g)
  | [] => rfl
  | a :: l => by simp [getStrs, getStrs_map]
theorem joinL_nil : ∀ {xs : List (List Nat)}, joinL [] xs = xs.flatten
  | [] => rfl
  | [x] => by simp [joinL]
  | x :: y :: xs => by
    have := joinL_nil (xs := y :: xs)
    simp only [joinL, List.append_nil, List.flatten_cons] at this ⊢
    rw [this]
@[simp] theorem wipes_nil {s : Sl} : wipes s [] = s := rfl
@[simp] theorem wipes_cons {s : Sl} {v : Nat} {vs : List Nat} : wipes s (v :: vs) = (wipes s vs).set v none := rfl
theorem sum_ones {α : Type} : ∀ {l : List α}, (l.map fun _ => 1).sum = l.length
  | [] => rfl
  | a :: l => by simp only [List.map_cons, List.sum_cons, sum_ones, List.length_cons]; omega
theorem join_signs {α : Type} {h : AH} {l : List α} {g : α → Nat} (hl : l.length ≤ 16777216) : joinD h (.str []) (.lst (l.map fun a => .str [g a])) = some (.str (l.map g)) := by
  have e : (List.map (fun a => [g a]) l).flatten = l.map g := by
    clear hl
    induction l with
    | nil => rfl
    | cons a l ih => simp [ih]
  have e2 : (List.map (fun x : List Nat => x.length) (List.map (fun a => [g a]) l)).sum = l.length := by
    rw [List.map_map]
    exact sum_ones
  have hc : (List.map (fun x : List Nat => x.length) (List.map (fun a => [g a]) l)).sum + (List.map (fun a => [g a]) l).length * ([] : List Nat).length ≤ 16777216 := by
    rw [e2]
    simpa using hl
  simp only [joinD, asL_lst, Option.bind_some, getStrs_map (g := fun a => [g a])]
  rw [if_pos hc, joinL_nil, e]
@[simp] theorem meD_join {h : AH} {o x : D} : meD .join h o [x] = (joinD h o x).map fun d => (d, h) := rfl
@[simp] theorem meD_append {h : AH} {n : Nat} {x : D} : meD .append h (.ref n) [x] = (match h[n]? with | some (.lst ds) => @ite _ (ds.length < 16777216) (Classical.propDecidable (ds.length < 16777216)) (some (.non, h.set n (.lst (ds ++ [x])))) (none) | _ => none) := rfl
@[simp] theorem setD_ref {h : AH} {n : Nat} {k : Int} {x : D} : setD h (.ref n) (.int k) x = (match h[n]? with | some (.lst ds) => if 0 ≤ k ∧ k < ds.length then some (h.set n (.lst (ds.set k.toNat x))) else if k < 0 ∧ -(ds.length : Int) ≤ k then some (h.set n (.lst (ds.set (k + ds.length).toNat x))) else none | _ => none) := rfl
mutual
theorem eqv_refl : ∀ d : D, d.dat = true → eqv d d = true
  | .non, _ => rfl
  | .bl b, _ => by simp [eqv]
  | .int i, _ => by simp [eqv]
  | .str x, _ => by simp [eqv]
  | .tup ds, h => by simp only [eqv]; exact eqvs_refl ds h
  | .lst ds, h => by simp only [eqv]; exact eqvs_refl ds h
  | .scr _, h => by simp [D.dat] at h
  | .ref _, h => by simp [D.dat] at h
theorem eqvs_refl : ∀ ds : List D, dats ds = true → eqvs ds ds = true
  | [], _ => rfl
  | d :: ds, h => by
    simp only [dats, Bool.and_eq_true] at h
    simp only [eqvs, eqv_refl d h.1, eqvs_refl ds h.2, Bool.and_self]
end
theorem now_dat {h : AH} {d : D} (hd : d.dat = true) : now h d = d := by
  cases d with
  | ref _ => simp [D.dat] at hd
  | _ => rfl
theorem eqD_refl {h : AH} {d : D} (hd : d.dat = true) (hz : d.dep ≤ 100) : eqD h d d = some true := by
  unfold eqD
  rw [now_dat hd, hd, eqv_refl d hd]
  simp [hz]
theorem dats_int (ns : List Int) : dats (ns.map .int) = true := by
  induction ns with
  | nil => rfl
  | cons n ns ih => simp [dats, D.dat, ih]
theorem deps_int (ns : List Int) : deps (ns.map .int) = 0 := by
  induction ns with
  | nil => rfl
  | cons n ns ih => simp [deps, D.dep, ih]
theorem norefs_int (ns : List Int) : norefs (ns.map .int) = true := by
  induction ns with
  | nil => rfl
  | cons n ns ih => simp [norefs, D.noref, ih]
/-- a call that gets a place of the heap runs in it -/
theorem ap_ref {P : List Fn} {k f : Nat} {ds : List D} {h : AH} (hn : norefs ds = false) : apart (fzs P) (call P k) f ds h = call P k f ds h := by
  unfold apart
  rw [hn]
  rfl
/-- the first arguments of the call's run -/
def st0 (fn : Fn) (ds : List D) : Sl := ds.map some ++ List.replicate (fn.n - ds.length) none
theorem ap_ok {P : List Fn} {k f : Nat} {ds : List D} {fn : Fn} {d : D} {h' h : AH} (hf : P[f]? = some fn) (hl : ds.length = fn.ps) (hn : norefs ds = true)
    (hr : ran (evSs (apart (fzs P) (call P k)) fn.body (st0 fn ds) []) = .ok d h') (hd : d.noref = true) : apart (fzs P) (call P (k + 1)) f ds h = .ok d h := by
  unfold apart
  rw [if_pos hn]
  have : call P (k + 1) f ds [] = .ok d h' := by
    simp only [call, hf]
    rw [if_pos hl]
    exact hr
  rw [this]
  have e : fzD 5 h' d = some d := by unfold fzD; rw [if_pos hd]
  cases fzs P f <;> simp [hd, e]
theorem ap_fz {P : List Fn} {k f : Nat} {ds : List D} {fn : Fn} {d d' : D} {h' h : AH} (hf : P[f]? = some fn) (hl : ds.length = fn.ps) (hn : norefs ds = true) (hz : fn.frz = true)
    (hr : ran (evSs (apart (fzs P) (call P k)) fn.body (st0 fn ds) []) = .ok d h') (hd : fzD 5 h' d = some d') : apart (fzs P) (call P (k + 1)) f ds h = .ok d' h := by
  unfold apart
  rw [if_pos hn]
  have : call P (k + 1) f ds [] = .ok d h' := by
    simp only [call, hf]
    rw [if_pos hl]
    exact hr
  rw [this]
  have : fzs P f = true := by simp [fzs, hf, hz]
  simp [this, hd]
/-- .. that raises -/
theorem ap_exc {P : List Fn} {k f : Nat} {ds : List D} {fn : Fn} {n : Nat} {h' h : AH} (hf : P[f]? = some fn) (hl : ds.length = fn.ps) (hn : norefs ds = true)
    (hr : ran (evSs (apart (fzs P) (call P k)) fn.body (st0 fn ds) []) = .exc ⟨n, none⟩ h') : apart (fzs P) (call P (k + 1)) f ds h = .exc ⟨n, none⟩ h := by
  unfold apart
  rw [if_pos hn]
  have : call P (k + 1) f ds [] = .exc ⟨n, none⟩ h' := by
    simp only [call, hf]
    rw [if_pos hl]
    exact hr
  rw [this]
/-- a call of the law itself -/
theorem call_ok {P : List Fn} {k f : Nat} {ds : List D} {fn : Fn} {d : D} {h' h : AH} (hf : P[f]? = some fn) (hl : ds.length = fn.ps)
    (hr : ran (evSs (apart (fzs P) (call P k)) fn.body (st0 fn ds) h) = .ok d h') : call P (k + 1) f ds h = .ok d h' := by
  simp only [call, hf]
  rw [if_pos hl]
  exact hr
end DI
set_option Elab.async false
set_option linter.all false
set_option maxRecDepth 100000
namespace DI
open PySem
/-! words that many laws use -/
theorem compL_A {α : Type} {F : FC} {e : Ex} {i : Nat} {s : Sl} {h : AH} (d g : α → D) : ∀ {l : List α}, (∀ a ∈ l, ev F e (s.set i (some (d a))) h = .ok (g a) h) → compL (.nm i) (evC F .no) (ev F e) s (l.map d) h = .ok (l.map g) h
  | [], _ => rfl
  | a :: l, hl => by
    have ih := compL_A (l := l) d g fun b m => hl b (by simp [m])
    have h1 := hl a (by simp)
    simp only [List.map_cons, compL, asg_nm, evC_no, R.bind_ok, h1, ih]
theorem compL_ifA {α : Type} {F : FC} {e c : Ex} {i : Nat} {s : Sl} {h : AH} (d g : α → D) (p : α → Bool) : ∀ {l : List α}, (∀ a ∈ l, evC F (.yes c) (s.set i (some (d a))) h = .ok (p a) h) → (∀ a ∈ l, ev F e (s.set i (some (d a))) h = .ok (g a) h) → compL (.nm i) (evC F (.yes c)) (ev F e) s (l.map d) h = .ok ((l.filter p).map g) h
  | [], _, _ => rfl
  | a :: l, hc, hl => by
    have ih := compL_ifA (l := l) d g p (fun b m => hc b (by simp [m])) fun b m => hl b (by simp [m])
    have h1 := hl a (by simp)
    have h2 := hc a (by simp)
    cases hp : p a with
    | true => simp only [List.map_cons, compL, asg_nm, R.bind_ok, h1, h2, hp, ih, List.filter_cons_of_pos (p := p) (a := a) (l := l) hp]
    | false =>
      rw [List.filter_cons_of_neg (by simp [hp])]
      simp only [List.map_cons, compL, asg_nm, R.bind_ok, h2, hp, ih]
theorem getInts_A {α : Type} (f : α → Int) : ∀ l : List α, getInts (l.map fun a => .int (f a)) = some (l.map f)
  | [] => rfl
  | a :: l => by simp [getInts, getInts_A f l]
theorem maxI_le : ∀ {l : List Int} {x : Int}, x ∈ l → x ≤ maxI l
  | [], _, h => by cases h
  | [a], x, h => by simp at h; subst h; simp [maxI]
  | a :: b :: l, x, h => by
    rw [maxI]
    · rcases List.mem_cons.mp h with rfl | h
      · exact Int.le_max_left ..
      · exact Int.le_trans (maxI_le h) (Int.le_max_right ..)
    · simp
theorem maxI_mem : ∀ {l : List Int}, l ≠ [] → maxI l ∈ l
  | [], h => absurd rfl h
  | [a], _ => by simp [maxI]
  | a :: b :: l, _ => by
    rw [maxI]
    · rcases Int.le_total a (maxI (b :: l)) with z | z
      · rw [Int.max_eq_right z]; exact List.mem_cons_of_mem _ (maxI_mem (by simp))
      · rw [Int.max_eq_left z]; exact List.mem_cons_self
    · simp
theorem now_ref {h : AH} {n : Nat} {es : List D} (e : h[n]? = some (.lst es)) : now h (.ref n) = .lst es := by simp only [now, e]
theorem ref_meT {h : AH} {n : Nat} {es : List D} (e : h[n]? = some (.lst es)) : meT .append h (.ref n) = true := by simp [e]
theorem ref_app {h : AH} {n : Nat} {es : List D} {x : D} (e : h[n]? = some (.lst es)) (hl : es.length < 16777216) : meD .append h (.ref n) [x] = some (.non, h.set n (.lst (es ++ [x]))) := by simp [e, hl]
theorem ref_len {h : AH} {n : Nat} {es : List D} (e : h[n]? = some (.lst es)) : biD .len h [.ref n] = some (.int es.length) := by simp [e]
theorem ref_idx {h : AH} {n : Nat} {es : List D} {i : Int} (e : h[n]? = some (.lst es)) : idxD h (.ref n) (.int i) = atL es i := by simp [e]
theorem ref_to {h : AH} {n : Nat} {es : List D} {j : Nat} (e : h[n]? = some (.lst es)) : sliD h (.ref n) none (some (j : Int)) = some (.lst (es.take j)) := by
  show (asL h (.ref n)).map _ = _
  simp only [asL, e, Option.map_some, cutL_to]
theorem cutL_from {α : Type} {xs : List α} {n : Nat} : cutL xs (some (n : Int)) none = xs.drop n := by
  have h1 : HT.sIx xs.length xs.length (none : Option Int) = xs.length := by simp [HT.sIx]
  have h2 : HT.sIx xs.length 0 (some (n : Int)) = min n xs.length := by simp [HT.sIx]; omega
  rw [cutL, h1, h2]
  rw [List.take_of_length_le (by rw [List.length_drop]; omega)]
  by_cases h : n ≤ xs.length
  · rw [Nat.min_eq_left h]
  · rw [Nat.min_eq_right (by omega), List.drop_of_length_le (Nat.le_refl _), List.drop_of_length_le (by omega)]
theorem ref_from {h : AH} {n : Nat} {es : List D} {j : Nat} (e : h[n]? = some (.lst es)) : sliD h (.ref n) (some (j : Int)) none = some (.lst (es.drop j)) := by
  show (asL h (.ref n)).map _ = _
  simp only [asL, e, Option.map_some, cutL_from]
theorem atL_last {α : Type} (xs : List α) (x : α) : atL (xs ++ [x]) (-1) = some x := by
  unfold atL
  rw [if_neg (by omega), if_pos (by simp; omega)]
  have : (-1 + ((xs ++ [x]).length : Int)).toNat = xs.length := by simp only [List.length_append, List.length_cons, List.length_nil]; omega
  rw [this]
  simp
/-- over a list of the heap that stays -/
theorem loopR_all {body : Sl → AH → O} {g : Tg} {n : Nat} {h : AH} {es : List D} (P : Sl → Prop) (e : h[n]? = some (.lst es)) (hb : ∀ s d s1, P s → d ∈ es → asg g d s = some s1 → ∃ s2, body s1 h = .nx s2 h ∧ P s2) (hg : ∀ s d, P s → d ∈ es → ∃ s1, asg g d s = some s1) :
    ∀ (m i f : Nat) (s : Sl), P s → i + m = es.length → m < f → ∃ s', loopR body g n f i s h = .nx s' h ∧ P s'
  | 0, i, f, s, p, hi, hf => by
    obtain ⟨f, rfl⟩ : ∃ f', f = f' + 1 := ⟨f - 1, by omega⟩
    refine ⟨s, ?_, p⟩
    rw [loopR, e]
    simp only
    rw [List.getElem?_eq_none (by omega)]
  | m + 1, i, f, s, p, hi, hf => by
    obtain ⟨f, rfl⟩ : ∃ f', f = f' + 1 := ⟨f - 1, by omega⟩
    have hlt : i < es.length := by omega
    obtain ⟨s1, e1⟩ := hg s es[i] p (List.getElem_mem hlt)
    obtain ⟨s2, e2, p2⟩ := hb s es[i] s1 p (List.getElem_mem hlt) e1
    obtain ⟨s', e3, p3⟩ := loopR_all P e hb hg m (i + 1) f s2 p2 (by omega) (by omega)
    refine ⟨s', ?_, p3⟩
    rw [loopR, e]
    simp only
    rw [List.getElem?_eq_getElem hlt]
    simp only [e1]
    rw [e2, O.turn_nx, e3]
theorem loop_step {body : Sl → AH → O} {g : Tg} {d : D} {l : List D} {s s1 s2 : Sl} {h h2 : AH} (ea : asg g d s = some s1) (eb : body s1 h = .nx s2 h2) : loop body g (d :: l) s h = loop body g l s2 h2 := by
  rw [loop, ea]
  simp only
  rw [eb, O.turn_nx]
theorem loop_cons {body : Sl → AH → O} {g : Tg} {d : D} {ds : List D} {s : Sl} {h : AH} : loop body g (d :: ds) s h = (match asg g d s with | none => .bad | some s1 => (body s1 h).turn (loop body g ds)) := rfl
theorem loop_nil {body : Sl → AH → O} {g : Tg} {s : Sl} {h : AH} : loop body g [] s h = .nx s h := rfl
@[simp] theorem asg_tp2 {i j : Nat} {a b : D} {s : Sl} : asg (.tp [i, j]) (.tup [a, b]) s = some ((s.set i (some a)).set j (some b)) := rfl
@[simp] theorem asg_tp3 {i j k : Nat} {a b c : D} {s : Sl} : asg (.tp [i, j, k]) (.tup [a, b, c]) s = some (((s.set i (some a)).set j (some b)).set k (some c)) := rfl
theorem big18 : (10 : Int) ^ 18 = (1000000000000000000 : Int) := by decide +kernel
theorem rep_len1 (x : Nat) (k : Int) : (repL k [x]).length = k.toNat := by
  simp [repL]
theorem norefs_app : ∀ {a b : List D}, norefs (a ++ b) = (norefs a && norefs b)
  | [], b => by simp [norefs]
  | d :: a, b => by simp only [List.cons_append, norefs, norefs_app (a := a) (b := b), Bool.and_assoc]
theorem norefs_mem : ∀ {a : List D}, (∀ d ∈ a, d.noref = true) → norefs a = true
  | [], _ => rfl
  | d :: a, h => by simp only [norefs, h d (by simp), norefs_mem (a := a) fun e m => h e (by simp [m]), Bool.and_self]
theorem dats_mem : ∀ {a : List D}, (∀ d ∈ a, d.dat = true) → dats a = true
  | [], _ => rfl
  | d :: a, h => by simp only [dats, h d (by simp), dats_mem (a := a) fun e m => h e (by simp [m]), Bool.and_self]
theorem deps_mem {n : Nat} : ∀ {a : List D}, (∀ d ∈ a, d.dep ≤ n) → deps a ≤ n
  | [], _ => by simp [deps]
  | d :: a, h => by
    simp only [deps]
    exact Nat.max_le.mpr ⟨h d (by simp), deps_mem (a := a) fun e m => h e (by simp [m])⟩
theorem ref_tuple {h : AH} {n : Nat} {es : List D} (e : h[n]? = some (.lst es)) : biD .tuple h [.ref n] = some (.tup es) := by
  show (asL h (.ref n)).map D.tup = _
  simp only [asL, e, Option.map_some]
theorem ref_list {h : AH} {n : Nat} {es : List D} (e : h[n]? = some (.lst es)) : biD .list h [.ref n] = some (.lst es) := by
  show (asL h (.ref n)).map D.lst = _
  simp only [asL, e, Option.map_some]
/-- nothing there -/
theorem lst_nil (h : AH) (ds : List D) (hd : dats ds = true) : eqD h (.lst ds) (.lst []) = some ds.isEmpty := by
  unfold eqD
  simp only [now, D.dat, hd, dats, D.dep, deps]
  simp
  cases ds with
  | nil => rfl
  | cons t ts => rfl
theorem tup_nil (h : AH) (ds : List D) (hd : dats ds = true) : eqD h (.tup ds) (.tup []) = some ds.isEmpty := by
  unfold eqD
  simp only [now, D.dat, hd, dats, D.dep, deps]
  simp
  cases ds with
  | nil => rfl
  | cons t ts => rfl
theorem ref_nil {h : AH} {n : Nat} {es : List D} (e : h[n]? = some (.lst es)) (hd : dats es = true) : eqD h (.ref n) (.lst []) = some es.isEmpty := by
  have h1 := lst_nil h es hd
  unfold eqD at h1 ⊢
  rw [now_ref e]
  exact h1
end DI
set_option Elab.async false
set_option linter.all false
set_option maxRecDepth 100000
namespace DI
open PySem
/-! ## what holds behind a run: a calculus of weakest preconditions, step by step -/
def R.sat {α : Type} (r : R α) (Q : α → AH → Prop) (X : EV → AH → Prop) : Prop := match r with
  | .ok x h => Q x h
  | .exc e h => X e h
  | .bad => False
structure Po where
  n : Sl → AH → Prop
  t : D → AH → Prop
  x : EV → Sl → AH → Prop
def O.sat (o : O) (P : Po) : Prop := match o with
  | .nx s h => P.n s h
  | .rt d h => P.t d h
  | .ex e s h => P.x e s h
  | _ => False
section
variable {α β : Type} {F : FC} {s : Sl} {h : AH} {P : Po} {Q : D → AH → Prop} {X : EV → AH → Prop}
theorem sat_ok {x : α} {Q : α → AH → Prop} : (R.ok x h).sat Q X = Q x h := rfl
theorem sat_exc {e : EV} {Q : α → AH → Prop} : (R.exc e h : R α).sat Q X = X e h := rfl
theorem sat_bad {Q : α → AH → Prop} : (R.bad : R α).sat Q X = False := rfl
theorem sat_bind {r : R α} {f : α → AH → R β} {Q : β → AH → Prop} : (r.bind f).sat Q X = r.sat (fun x h => (f x h).sat Q X) X := by cases r <;> rfl
theorem sat_mono {r : R α} {Q Q' : α → AH → Prop} {X X' : EV → AH → Prop} (hr : r.sat Q X) (h1 : ∀ x h, Q x h → Q' x h) (h2 : ∀ e h, X e h → X' e h) : r.sat Q' X' := by
  cases r with
  | ok x h => exact h1 x h hr
  | exc e h => exact h2 e h hr
  | bad => exact hr
theorem osat_mono {o : O} {P P' : Po} (ho : o.sat P) (h1 : ∀ s h, P.n s h → P'.n s h) (h2 : ∀ d h, P.t d h → P'.t d h) (h3 : ∀ e s h, P.x e s h → P'.x e s h) : o.sat P' := by
  cases o with
  | nx s h => exact h1 s h ho
  | rt d h => exact h2 d h ho
  | ex e s h => exact h3 e s h ho
  | bk _ _ => exact ho
  | ct _ _ => exact ho
  | bad => exact ho
/-! continuations, by name -/
def Kx (P : Po) (s : Sl) (e : EV) (h : AH) : Prop := P.x e s h
theorem Kx_ap {e : EV} : Kx P s e h = P.x e s h := rfl
def Po.seq (F : FC) (xs : Sxs) (P : Po) : Po := ⟨fun s h => (evSs F xs s h).sat P, P.t, P.x⟩
theorem seq_n {xs : Sxs} : (Po.seq F xs P).n s h = (evSs F xs s h).sat P := rfl
theorem seq_t {xs : Sxs} : (Po.seq F xs P).t = P.t := rfl
theorem seq_x {xs : Sxs} : (Po.seq F xs P).x = P.x := rfl
theorem vs_nil : (evSs F .nil s h).sat P = P.n s h := by simp only [evSs_nil]; rfl
theorem vs_cons {x : Sx} {xs : Sxs} : (evSs F (.cons x xs) s h).sat P = (evS F x s h).sat (Po.seq F xs P) := by
  rw [evSs_cons]
  generalize evS F x s h = o
  cases o <;> rfl
def optS {α : Type} (o : Option α) (h : AH) (Q : α → AH → Prop) : Prop := match o with
  | some x => Q x h
  | none => False
theorem optS_some {x : α} {Q : α → AH → Prop} : optS (some x) h Q = Q x h := rfl
theorem optS_none {Q : α → AH → Prop} : optS none h Q = False := rfl
theorem optS_ite {c : Prop} [i : Decidable c] {x : α} {Q : α → AH → Prop} : optS (@ite _ c i (some x) none) h Q = (c ∧ Q x h) := by
  by_cases hc : c
  · rw [if_pos hc]; exact propext ⟨fun z => ⟨hc, z⟩, fun z => z.2⟩
  · rw [if_neg hc]; exact propext ⟨fun z => z.elim, fun z => absurd z.1 hc⟩
theorem optS_ite2 {c : Prop} [i : Decidable c] {o : Option α} {Q : α → AH → Prop} : optS (@ite _ c i o none) h Q = (c ∧ optS o h Q) := by
  by_cases hc : c
  · rw [if_pos hc]; exact propext ⟨fun z => ⟨hc, z⟩, fun z => z.2⟩
  · rw [if_neg hc]; exact propext ⟨fun z => z.elim, fun z => absurd z.1 hc⟩
theorem optS_map {o : Option α} {f : α → β} {Q : β → AH → Prop} : optS (o.map f) h Q = optS o h fun x h => Q (f x) h := by cases o <;> rfl
theorem optS_of {o : Option α} {Q : α → AH → Prop} {x : α} (e : o = some x) (q : Q x h) : optS o h Q := by rw [e]; exact q
theorem optS_ex {o : Option α} {Q : α → AH → Prop} (e : ∃ x, o = some x ∧ Q x h) : optS o h Q := by obtain ⟨x, e, q⟩ := e; rw [e]; exact q
theorem sat_opt {o : Option α} {Q : α → AH → Prop} : (R.opt o h).sat Q X = optS o h Q := by cases o <;> rfl
theorem orD_none2 {o : Option α} : orD o none = o := by cases o <;> rfl
/-! expressions -/
def varS (o : Option (Option D)) (h : AH) (Q : D → AH → Prop) : Prop := match o with
  | some (some d) => Q d h
  | _ => False
theorem varS_some {d : D} : varS (some (some d)) h Q = Q d h := rfl
theorem v_var {i : Nat} : (ev F (.var i) s h).sat Q X = varS s[i]? h Q := by
  rw [ev_var]
  cases s[i]? with
  | none => rfl
  | some o => cases o <;> rfl
theorem v_cst {d : D} : (ev F (.cst d) s h).sat Q X = Q d h := by rw [ev_cst]; rfl
def KM (mu : Bool) (Q : D → AH → Prop) (X : EV → AH → Prop) (d : D) (h : AH) : Prop := (mkL mu d h).sat Q X
theorem KM_f {d : D} : KM false Q X d h = Q d h := by unfold KM; rw [mkL_f]; rfl
theorem KM_t {ds : List D} : KM true Q X (.lst ds) h = Q (.ref h.length) (h ++ [.lst ds]) := rfl
def KB2 (op : Operator) (mu : Bool) (x : D) (Q : D → AH → Prop) (X : EV → AH → Prop) (y : D) (h : AH) : Prop := optS (binop op h x y) h (KM mu Q X)
theorem KB2_ap {op : Operator} {mu : Bool} {x y : D} : KB2 op mu x Q X y h = optS (binop op h x y) h (KM mu Q X) := rfl
def KB1 (F : FC) (op : Operator) (mu : Bool) (b : Ex) (s : Sl) (Q : D → AH → Prop) (X : EV → AH → Prop) (x : D) (h : AH) : Prop := (ev F b s h).sat (KB2 op mu x Q X) X
theorem KB1_ap {op : Operator} {mu : Bool} {b : Ex} {x : D} : KB1 F op mu b s Q X x h = (ev F b s h).sat (KB2 op mu x Q X) X := rfl
theorem v_bin {op : Operator} {mu : Bool} {a b : Ex} : (ev F (.bin op mu a b) s h).sat Q X = (ev F a s h).sat (KB1 F op mu b s Q X) X := by
  simp only [ev_bin, sat_bind, sat_opt]; rfl
def KNeg (Q : D → AH → Prop) (d : D) (h : AH) : Prop := match d with
  | .int i => Q (.int (-i)) h
  | _ => False
theorem KNeg_i {i : Int} : KNeg Q (.int i) h = Q (.int (-i)) h := rfl
theorem v_neg {a : Ex} : (ev F (.neg a) s h).sat Q X = (ev F a s h).sat (KNeg Q) X := by
  simp only [ev_neg, sat_bind]
  congr; funext x h; cases x <;> rfl
def KC2 (op : CmpOp) (x : D) (Q : D → AH → Prop) (y : D) (h : AH) : Prop := optS (orD (cmpop op h x y) (dCmp op h x y)) h Q
theorem KC2_ap {op : CmpOp} {x y : D} : KC2 op x Q y h = optS (orD (cmpop op h x y) (dCmp op h x y)) h Q := rfl
def KC1 (F : FC) (op : CmpOp) (b : Ex) (s : Sl) (Q : D → AH → Prop) (X : EV → AH → Prop) (x : D) (h : AH) : Prop := (ev F b s h).sat (KC2 op x Q) X
theorem KC1_ap {op : CmpOp} {b : Ex} {x : D} : KC1 F op b s Q X x h = (ev F b s h).sat (KC2 op x Q) X := rfl
theorem v_cmp {op : CmpOp} {a b : Ex} : (ev F (.cmp op a b) s h).sat Q X = (ev F a s h).sat (KC1 F op b s Q X) X := by
  simp only [ev_cmp, sat_bind, sat_opt]; rfl
def KH3 (F : FC) (o2 : CmpOp) (c : Ex) (s : Sl) (Q : D → AH → Prop) (X : EV → AH → Prop) (y : D) (t : D) (h : AH) : Prop := match t with
  | .bl b => (b = true → (ev F c s h).sat (fun z h => optS (cmpop o2 h y z) h Q) X) ∧ (b = false → Q (.bl false) h)
  | _ => False
def KH2 (F : FC) (o1 o2 : CmpOp) (c : Ex) (s : Sl) (Q : D → AH → Prop) (X : EV → AH → Prop) (x : D) (y : D) (h : AH) : Prop := optS (cmpop o1 h x y) h (KH3 F o2 c s Q X y)
theorem KH2_ap {o1 o2 : CmpOp} {c : Ex} {x y : D} : KH2 F o1 o2 c s Q X x y h = optS (cmpop o1 h x y) h (KH3 F o2 c s Q X y) := rfl
theorem KH3_ap {o2 : CmpOp} {c : Ex} {y : D} {b : Bool} : KH3 F o2 c s Q X y (.bl b) h = ((b = true → (ev F c s h).sat (fun z h => optS (cmpop o2 h y z) h Q) X) ∧ (b = false → Q (.bl false) h)) := rfl
def KH1 (F : FC) (o1 o2 : CmpOp) (b c : Ex) (s : Sl) (Q : D → AH → Prop) (X : EV → AH → Prop) (x : D) (h : AH) : Prop := (ev F b s h).sat (KH2 F o1 o2 c s Q X x) X
theorem KH1_ap {o1 o2 : CmpOp} {b c : Ex} {x : D} : KH1 F o1 o2 b c s Q X x h = (ev F b s h).sat (KH2 F o1 o2 c s Q X x) X := rfl
theorem v_chn {o1 o2 : CmpOp} {a b c : Ex} : (ev F (.chn o1 o2 a b c) s h).sat Q X = (ev F a s h).sat (KH1 F o1 o2 b c s Q X) X := by
  simp only [ev_chn, sat_bind, sat_opt]
  congr; funext x h
  unfold KH1
  congr; funext y h
  unfold KH2
  cases cmpop o1 h x y with
  | none => rfl
  | some t =>
    cases t with
    | bl b => cases b with
      | true =>
        simp only [optS_some, sat_bind, sat_opt, KH3_ap]
        exact propext ⟨fun z => ⟨fun _ => z, fun q => by cases q⟩, fun z => z.1 (by simp)⟩
      | false =>
        simp only [optS_some, KH3_ap, sat_ok]
        exact propext ⟨fun z => ⟨fun q => (by cases q), fun _ => z⟩, fun z => z.2 (by simp)⟩
    | _ => rfl
def KIsN (n : Bool) (Q : D → AH → Prop) (d : D) (h : AH) : Prop := Q (.bl (if n then !d.isNon else d.isNon)) h
theorem KIsN_t {d : D} : KIsN true Q d h = Q (.bl (!d.isNon)) h := rfl
theorem KIsN_f {d : D} : KIsN false Q d h = Q (.bl d.isNon) h := rfl
theorem v_isN {a : Ex} : (ev F (.isN a) s h).sat Q X = (ev F a s h).sat (KIsN false Q) X := by
  simp only [ev_isN, sat_bind]; rfl
theorem v_notN {a : Ex} : (ev F (.notN a) s h).sat Q X = (ev F a s h).sat (KIsN true Q) X := by
  simp only [ev_notN, sat_bind]; rfl
/-- the second half of an and, an or -/
def AndB (o : Option Bool) (F : FC) (b : Ex) (s : Sl) (Q : D → AH → Prop) (X : EV → AH → Prop) (d : D) (h : AH) : Prop := match o with
  | some true => (ev F b s h).sat Q X
  | some false => Q d h
  | none => False
def KAnd (F : FC) (b : Ex) (s : Sl) (Q : D → AH → Prop) (X : EV → AH → Prop) (d : D) (h : AH) : Prop := AndB (truth h d) F b s Q X d h
theorem KAnd_ap {b : Ex} {d : D} : KAnd F b s Q X d h = AndB (truth h d) F b s Q X d h := rfl
theorem AndB_t {b : Ex} {d : D} : AndB (some true) F b s Q X d h = (ev F b s h).sat Q X := rfl
theorem AndB_f {b : Ex} {d : D} : AndB (some false) F b s Q X d h = Q d h := rfl
theorem AndB_of {b : Ex} {c : Bool} (h1 : c = true → (ev F b s h).sat Q X) (h2 : c = false → Q (.bl false) h) : AndB (some c) F b s Q X (.bl c) h := by
  cases c with
  | true => exact h1 rfl
  | false => exact h2 rfl
theorem v_and {a b : Ex} : (ev F (.and_ a b) s h).sat Q X = (ev F a s h).sat (KAnd F b s Q X) X := by
  simp only [ev_and, sat_bind]
  congr; funext x h; unfold KAnd
  cases truth h x with
  | none => rfl
  | some c => cases c <;> rfl
def OrB (o : Option Bool) (F : FC) (b : Ex) (s : Sl) (Q : D → AH → Prop) (X : EV → AH → Prop) (d : D) (h : AH) : Prop := match o with
  | some true => Q d h
  | some false => (ev F b s h).sat Q X
  | none => False
def KOr (F : FC) (b : Ex) (s : Sl) (Q : D → AH → Prop) (X : EV → AH → Prop) (d : D) (h : AH) : Prop := OrB (truth h d) F b s Q X d h
theorem KOr_ap {b : Ex} {d : D} : KOr F b s Q X d h = OrB (truth h d) F b s Q X d h := rfl
theorem OrB_t {b : Ex} {d : D} : OrB (some true) F b s Q X d h = Q d h := rfl
theorem OrB_f {b : Ex} {d : D} : OrB (some false) F b s Q X d h = (ev F b s h).sat Q X := rfl
theorem OrB_of {b : Ex} {c : Bool} (h1 : c = true → Q (.bl true) h) (h2 : c = false → (ev F b s h).sat Q X) : OrB (some c) F b s Q X (.bl c) h := by
  cases c with
  | true => exact h1 rfl
  | false => exact h2 rfl
theorem v_or {a b : Ex} : (ev F (.or_ a b) s h).sat Q X = (ev F a s h).sat (KOr F b s Q X) X := by
  simp only [ev_or, sat_bind]
  congr; funext x h; unfold KOr
  cases truth h x with
  | none => rfl
  | some c => cases c <;> rfl
def KNot (Q : D → AH → Prop) (d : D) (h : AH) : Prop := optS (truth h d) h fun b h => Q (.bl (!b)) h
theorem KNot_ap {d : D} : KNot Q d h = optS (truth h d) h fun b h => Q (.bl (!b)) h := rfl
theorem v_not {a : Ex} : (ev F (.not_ a) s h).sat Q X = (ev F a s h).sat (KNot Q) X := by
  simp only [ev_not, sat_bind, sat_opt]; rfl
/-! lists of expressions -/
def KA2 (x : D) (Q : List D → AH → Prop) (xs : List D) (h : AH) : Prop := Q (x :: xs) h
theorem KA2_ap {x : D} {Q : List D → AH → Prop} {xs : List D} : KA2 x Q xs h = Q (x :: xs) h := rfl
def KA1 (F : FC) (es : Exs) (s : Sl) (Q : List D → AH → Prop) (X : EV → AH → Prop) (x : D) (h : AH) : Prop := (evs F es s h).sat (KA2 x Q) X
theorem KA1_ap {es : Exs} {Q : List D → AH → Prop} {x : D} : KA1 F es s Q X x h = (evs F es s h).sat (KA2 x Q) X := rfl
theorem va_nil {Q : List D → AH → Prop} : (evs F .nil s h).sat Q X = Q [] h := by rw [evs_nil]; rfl
theorem va_cons {e : Ex} {es : Exs} {Q : List D → AH → Prop} : (evs F (.cons e es) s h).sat Q X = (ev F e s h).sat (KA1 F es s Q X) X := by
  simp only [evs_cons, sat_bind]; rfl
def KTup (Q : D → AH → Prop) (xs : List D) (h : AH) : Prop := xs.length ≤ 16777216 ∧ Q (.tup xs) h
theorem KTup_ap {xs : List D} : KTup Q xs h = (xs.length ≤ 16777216 ∧ Q (.tup xs) h) := rfl
theorem ite_sat {c : Prop} {i : Decidable c} {r : R α} {Q : α → AH → Prop} : (@ite _ c i r .bad).sat Q X = (c ∧ r.sat Q X) := by
  by_cases hc : c
  · rw [if_pos hc]; exact propext ⟨fun z => ⟨hc, z⟩, fun z => z.2⟩
  · rw [if_neg hc]; exact propext ⟨fun z => z.elim, fun z => absurd z.1 hc⟩
theorem v_tup {es : Exs} : (ev F (.tup es) s h).sat Q X = (evs F es s h).sat (KTup Q) X := by
  simp only [ev_tup, sat_bind, ite_sat]; rfl
def KLst (mu : Bool) (Q : D → AH → Prop) (X : EV → AH → Prop) (xs : List D) (h : AH) : Prop := xs.length ≤ 16777216 ∧ (mkL mu (.lst xs) h).sat Q X
theorem KLst_f {xs : List D} : KLst false Q X xs h = (xs.length ≤ 16777216 ∧ Q (.lst xs) h) := by unfold KLst; rw [mkL_f]; rfl
theorem KLst_t {xs : List D} : KLst true Q X xs h = (xs.length ≤ 16777216 ∧ Q (.ref h.length) (h ++ [.lst xs])) := rfl
theorem v_lst {mu : Bool} {es : Exs} : (ev F (.lst mu es) s h).sat Q X = (evs F es s h).sat (KLst mu Q X) X := by
  simp only [ev_lst, sat_bind, ite_sat]; rfl
def KI2 (x : D) (Q : D → AH → Prop) (y : D) (h : AH) : Prop := optS (orD (idxD h x y) (dLook h x y)) h Q
theorem KI2_ap {x y : D} : KI2 x Q y h = optS (orD (idxD h x y) (dLook h x y)) h Q := rfl
def KI1 (F : FC) (b : Ex) (s : Sl) (Q : D → AH → Prop) (X : EV → AH → Prop) (x : D) (h : AH) : Prop := (ev F b s h).sat (KI2 x Q) X
theorem KI1_ap {b : Ex} {x : D} : KI1 F b s Q X x h = (ev F b s h).sat (KI2 x Q) X := rfl
theorem v_idx {a b : Ex} : (ev F (.idx a b) s h).sat Q X = (ev F a s h).sat (KI1 F b s Q X) X := by
  simp only [ev_idx, sat_bind, sat_opt]; rfl
def KCall (F : FC) (f : Nat) (Q : D → AH → Prop) (X : EV → AH → Prop) (xs : List D) (h : AH) : Prop := (F f xs h).sat Q X
theorem KCall_ap {f : Nat} {xs : List D} : KCall F f Q X xs h = (F f xs h).sat Q X := rfl
theorem v_call {f : Nat} {es : Exs} : (ev F (.call f es) s h).sat Q X = (evs F es s h).sat (KCall F f Q X) X := by
  simp only [ev_call, sat_bind]; rfl
def KIsi (cs : List Cl) (Q : D → AH → Prop) (d : D) (h : AH) : Prop := optS (orD (isi1 h cs d) (dIsi h cs d)) h fun b h => Q (.bl b) h
theorem KIsi_ap {cs : List Cl} {d : D} : KIsi cs Q d h = optS (orD (isi1 h cs d) (dIsi h cs d)) h fun b h => Q (.bl b) h := rfl
theorem v_isi {e : Ex} {cs : List Cl} : (ev F (.isi e cs) s h).sat Q X = (ev F e s h).sat (KIsi cs Q) X := by
  simp only [ev_isi, sat_bind, sat_opt]; rfl
def KBi (b : Bi) (mu : Bool) (Q : D → AH → Prop) (X : EV → AH → Prop) (xs : List D) (h : AH) : Prop := optS (orD (biD b h xs) (dBi b h xs)) h (KM mu Q X)
theorem KBi_ap {b : Bi} {mu : Bool} {xs : List D} : KBi b mu Q X xs h = optS (orD (biD b h xs) (dBi b h xs)) h (KM mu Q X) := rfl
theorem v_bi {b : Bi} {mu : Bool} {es : Exs} : (ev F (.bi b mu es) s h).sat Q X = (evs F es s h).sat (KBi b mu Q X) X := by
  simp only [ev_bi, sat_bind, sat_opt]; rfl
def KO (Q : Option Int → AH → Prop) (d : D) (h : AH) : Prop := match d with
  | .int i => Q (some i) h
  | _ => False
theorem KO_i {Q : Option Int → AH → Prop} {i : Int} : KO Q (.int i) h = Q (some i) h := rfl
theorem vo_no {Q : Option Int → AH → Prop} : (evO F .no s h).sat Q X = Q none h := by rw [evO_no]; rfl
theorem vo_yes {e : Ex} {Q : Option Int → AH → Prop} : (evO F (.yes e) s h).sat Q X = (ev F e s h).sat (KO Q) X := by
  simp only [evO_yes, sat_bind]
  congr; funext x h; cases x <;> rfl
def KS3 (mu : Bool) (x : D) (l : Option Int) (Q : D → AH → Prop) (X : EV → AH → Prop) (u : Option Int) (h : AH) : Prop := optS (sliD h x l u) h (KM mu Q X)
theorem KS3_ap {mu : Bool} {x : D} {l u : Option Int} : KS3 mu x l Q X u h = optS (sliD h x l u) h (KM mu Q X) := rfl
def KS2 (F : FC) (mu : Bool) (x : D) (hi : Op) (s : Sl) (Q : D → AH → Prop) (X : EV → AH → Prop) (l : Option Int) (h : AH) : Prop := (evO F hi s h).sat (KS3 mu x l Q X) X
theorem KS2_ap {mu : Bool} {x : D} {hi : Op} {l : Option Int} : KS2 F mu x hi s Q X l h = (evO F hi s h).sat (KS3 mu x l Q X) X := rfl
def KS1 (F : FC) (mu : Bool) (lo hi : Op) (s : Sl) (Q : D → AH → Prop) (X : EV → AH → Prop) (x : D) (h : AH) : Prop := (evO F lo s h).sat (KS2 F mu x hi s Q X) X
theorem KS1_ap {mu : Bool} {x : D} {lo hi : Op} : KS1 F mu lo hi s Q X x h = (evO F lo s h).sat (KS2 F mu x hi s Q X) X := rfl
theorem v_sli {mu : Bool} {a : Ex} {lo hi : Op} : (ev F (.sli mu a lo hi) s h).sat Q X = (ev F a s h).sat (KS1 F mu lo hi s Q X) X := by
  simp only [ev_sli, sat_bind, sat_opt]; rfl
def KMe3 (m : Me) (mu : Bool) (Q : D → AH → Prop) (X : EV → AH → Prop) (p : D × AH) (_ : AH) : Prop := (mkL (mu && m.fresh) p.1 p.2).sat Q X
theorem KMe3_ap {m : Me} {mu : Bool} {d : D} {h1 h2 : AH} : KMe3 m mu Q X (d, h1) h2 = KM (mu && m.fresh) Q X d h1 := rfl
def KMe2 (m : Me) (mu : Bool) (x : D) (Q : D → AH → Prop) (X : EV → AH → Prop) (xs : List D) (h : AH) : Prop := optS (meD m h x xs) h (KMe3 m mu Q X)
theorem KMe2_ap {m : Me} {mu : Bool} {x : D} {xs : List D} : KMe2 m mu x Q X xs h = optS (meD m h x xs) h (KMe3 m mu Q X) := rfl
def KMe1 (F : FC) (m : Me) (mu : Bool) (es : Exs) (s : Sl) (Q : D → AH → Prop) (X : EV → AH → Prop) (x : D) (h : AH) : Prop := meT m h x = true ∧ (evs F es s h).sat (KMe2 m mu x Q X) X
theorem KMe1_ap {m : Me} {mu : Bool} {es : Exs} {x : D} : KMe1 F m mu es s Q X x h = (meT m h x = true ∧ (evs F es s h).sat (KMe2 m mu x Q X) X) := rfl
theorem v_me {m : Me} {mu : Bool} {o : Ex} {es : Exs} : (ev F (.me m mu o es) s h).sat Q X = (ev F o s h).sat (KMe1 F m mu es s Q X) X := by
  simp only [ev_me, sat_bind]
  congr; funext x h
  unfold KMe1
  cases meT m h x with
  | false => exact propext ⟨fun z => z.elim, fun z => by cases z.1⟩
  | true =>
    simp only [if_true, sat_bind, true_and]
    congr; funext xs h; unfold KMe2
    cases meD m h x xs with
    | none => rfl
    | some p => rfl
def KLrg (mu two : Bool) (Q : D → AH → Prop) (X : EV → AH → Prop) (xs : List D) (h : AH) : Prop := optS (rngD two xs) h (KLst mu Q X)
theorem KLrg_ap {mu two : Bool} {xs : List D} : KLrg mu two Q X xs h = optS (rngD two xs) h (KLst mu Q X) := rfl
theorem v_lrng {mu two : Bool} {es : Exs} : (ev F (.lrng mu two es) s h).sat Q X = (evs F es s h).sat (KLrg mu two Q X) X := by
  simp only [ev_lrng, sat_bind, sat_opt, ite_sat]; rfl
def KLv2 (mu tup : Bool) (Q : D → AH → Prop) (X : EV → AH → Prop) (ds : List D) (h : AH) : Prop := if tup then Q (.tup ds) h else (mkL mu (.lst ds) h).sat Q X
theorem KLv2_t {mu : Bool} {ds : List D} : KLv2 mu true Q X ds h = Q (.tup ds) h := rfl
theorem KLv2_f {mu : Bool} {ds : List D} : KLv2 mu false Q X ds h = KM mu Q X (.lst ds) h := rfl
def KLv (mu tup : Bool) (Q : D → AH → Prop) (X : EV → AH → Prop) (d : D) (h : AH) : Prop := optS (lrevD h d) h (KLv2 mu tup Q X)
theorem KLv_ap {mu tup : Bool} {d : D} : KLv mu tup Q X d h = optS (lrevD h d) h (KLv2 mu tup Q X) := rfl
theorem v_lrev {mu tup : Bool} {a : Ex} : (ev F (.lrev mu tup a) s h).sat Q X = (ev F a s h).sat (KLv mu tup Q X) X := by
  simp only [ev_lrev, sat_bind, sat_opt]
  congr; funext x h; unfold KLv
  congr; funext ds h; unfold KLv2
  cases tup <;> rfl
theorem v_dnew {t : Bool} : (ev F (.dnew t) s h).sat Q X = Q (.ref h.length) (h ++ [if t then .dt [] else .dk []]) := by rw [ev_dnew]; rfl
def KInC (neg : Bool) (ds : List D) (Q : D → AH → Prop) (x : D) (h : AH) : Prop := optS (inL x ds) h fun b h => Q (.bl (if neg then !b else b)) h
theorem KInC_ap {neg : Bool} {ds : List D} {x : D} : KInC neg ds Q x h = optS (inL x ds) h fun b h => Q (.bl (if neg then !b else b)) h := rfl
theorem v_inC {neg : Bool} {a : Ex} {ds : List D} : (ev F (.inC neg a ds) s h).sat Q X = (ev F a s h).sat (KInC neg ds Q) X := by
  simp only [ev_inC, sat_bind, sat_opt, optS_map]; rfl
theorem v_isE {subs : List Nat} {e : EV} : (ev (withE e F) (.isE subs) s h).sat Q X = (e.pay.isNone = true ∧ Q (.bl (subs.contains e.cls)) h) := by
  rw [ev_isE, withE_at]
  by_cases hc : e.pay.isNone = true
  · simp only [hc, if_true, sat_ok, true_and]
  · have hc' : e.pay.isNone = false := by cases hq : e.pay.isNone with | true => exact absurd hq hc | false => rfl
    simp only [hc', if_false, sat_bad, false_and, Bool.false_eq_true]
theorem v_exf {e : EV} : (ev (withE e F) .exf s h).sat Q X = optS e.pay h Q := by
  rw [ev_exf, withE_at]
  simp only
  cases e.pay <;> rfl
/-! what is gone through -/
def KItm (Q : Src → AH → Prop) (d : D) (h : AH) : Prop := optS (items h d) h Q
theorem KItm_ap {Q : Src → AH → Prop} {d : D} : KItm Q d h = optS (items h d) h Q := rfl
theorem vi_any {e : Ex} {Q : Src → AH → Prop} : (evI F (.any e) s h).sat Q X = (ev F e s h).sat (KItm Q) X := by
  simp only [evI_any, sat_bind, sat_opt]; rfl
def KRng (two : Bool) (Q : Src → AH → Prop) (xs : List D) (h : AH) : Prop := optS (rngD two xs) h fun ds h => Q (ds, []) h
theorem KRng_ap {two : Bool} {Q : Src → AH → Prop} {xs : List D} : KRng two Q xs h = optS (rngD two xs) h fun ds h => Q (ds, []) h := rfl
theorem vi_rng {two : Bool} {es : Exs} {Q : Src → AH → Prop} : (evI F (.rng two es) s h).sat Q X = (evs F es s h).sat (KRng two Q) X := by
  simp only [evI_rng, sat_bind, sat_opt, optS_map]; rfl
def KRrg (two : Bool) (Q : Src → AH → Prop) (xs : List D) (h : AH) : Prop := optS (rngD two xs) h fun ds h => Q (ds.reverse, []) h
theorem KRrg_ap {two : Bool} {Q : Src → AH → Prop} {xs : List D} : KRrg two Q xs h = optS (rngD two xs) h fun ds h => Q (ds.reverse, []) h := rfl
theorem vi_rrng {two : Bool} {es : Exs} {Q : Src → AH → Prop} : (evI F (.rrng two es) s h).sat Q X = (evs F es s h).sat (KRrg two Q) X := by
  simp only [evI_rrng, sat_bind, sat_opt, optS_map]; rfl
def KZip (Q : Src → AH → Prop) (xs : List D) (h : AH) : Prop := optS (zipD h xs) h Q
theorem KZip_ap {Q : Src → AH → Prop} {xs : List D} : KZip Q xs h = optS (zipD h xs) h Q := rfl
theorem vi_zip {es : Exs} {Q : Src → AH → Prop} : (evI F (.zip es) s h).sat Q X = (evs F es s h).sat (KZip Q) X := by
  simp only [evI_zip, sat_bind, sat_opt]; rfl
def KRev (Q : Src → AH → Prop) (d : D) (h : AH) : Prop := optS (revD h d) h Q
theorem KRev_ap {Q : Src → AH → Prop} {d : D} : KRev Q d h = optS (revD h d) h Q := rfl
theorem vi_rev {e : Ex} {Q : Src → AH → Prop} : (evI F (.rev e) s h).sat Q X = (ev F e s h).sat (KRev Q) X := by
  simp only [evI_rev, sat_bind, sat_opt]; rfl
/-! comprehensions -/
def Cmp (gs : List (Nat × List D)) (g : Tg) (F : FC) (c : Op) (e : Ex) (s : Sl) (ds : List D) (h : AH) (Q : List D → AH → Prop) : Prop := (compG gs g (evC F c) (ev F e) s ds h).sat Q fun _ _ => False
def KCmp (F : FC) (mu : Bool) (vs : List Nat) (g : Tg) (c : Op) (e : Ex) (s : Sl) (Q : D → AH → Prop) (X : EV → AH → Prop) (ds : Src) (h : AH) : Prop := Cmp ds.2 g F c e (wipes s vs) ds.1 h (KLst mu Q X)
theorem KCmp_ap {mu : Bool} {vs : List Nat} {g : Tg} {c : Op} {e : Ex} {ds : List D} {gs : List (Nat × List D)} : KCmp F mu vs g c e s Q X (ds, gs) h = Cmp gs g F c e (wipes s vs) ds h (KLst mu Q X) := rfl
theorem v_comp {mu : Bool} {vs : List Nat} {g : Tg} {it : Ix} {c : Op} {e : Ex} : (ev F (.comp mu vs g it c e) s h).sat Q X = (evI F it s h).sat (KCmp F mu vs g c e s Q X) X := by
  simp only [ev_comp, sat_bind]
  congr; funext ds h; unfold KCmp Cmp
  cases compG ds.2 g (evC F c) (ev F e) (wipes s vs) ds.1 h with
  | ok ys h =>
    simp only [R.quiet_ok, sat_ok, ite_sat]; rfl
  | exc e h => rfl
  | bad => rfl
def AsgS (o : Option Sl) (Q : Sl → Prop) : Prop := match o with
  | some s => Q s
  | none => False
theorem AsgS_some {Q : Sl → Prop} : AsgS (some s) Q = Q s := rfl
def KTr (Q : Bool → AH → Prop) (d : D) (h : AH) : Prop := optS (truth h d) h Q
theorem KTr_ap {Q : Bool → AH → Prop} {d : D} : KTr Q d h = optS (truth h d) h Q := rfl
theorem vc_no {Q : Bool → AH → Prop} : (evC F .no s h).sat Q X = Q true h := by rw [evC_no]; rfl
theorem vc_yes {e : Ex} {Q : Bool → AH → Prop} : (evC F (.yes e) s h).sat Q X = (ev F e s h).sat (KTr Q) X := by
  simp only [evC_yes, sat_bind, sat_opt]; rfl
theorem sat_inj {r : R α} {x : α} (hr : r.sat (fun y h' => y = x ∧ h' = h) fun _ _ => False) : r = .ok x h := by
  cases r with
  | ok y h' => obtain ⟨rfl, rfl⟩ := hr; rfl
  | exc _ _ => exact hr.elim
  | bad => exact hr.elim
theorem gd_one {n : Nat} {ds : List D} (e : h[n]? = some (.lst ds)) : Gd [(n, ds)] h := fun p hp => by
  simp at hp; subst hp; exact e
theorem items_ref {n : Nat} : items h (.ref n) = (match h[n]? with | some (.lst ds) => some (ds, [(n, ds)]) | _ => none) := rfl
/-- a comprehension that maps -/
theorem cmp_map {gs : List (Nat × List D)} {g : Tg} {e : Ex} {ds : List D} (f : α → D) (r : α → D) (l : List α) {Q : List D → AH → Prop} (hd : ds = l.map f) (hg : Gd gs h)
    (hl : ∀ a ∈ l, AsgS (asg g (f a) s) fun s1 => (ev F e s1 h).sat (fun y h' => y = r a ∧ h' = h) fun _ _ => False) (hq : Q (l.map r) h) : Cmp gs g F .no e s ds h Q := by
  subst hd
  have : compG gs g (evC F .no) (ev F e) s (l.map f) h = .ok (l.map r) h := by
    clear hq
    induction l with
    | nil => exact if_pos hg
    | cons a l ih =>
      have ih := ih fun b m => hl b (by simp [m])
      have h1 := hl a (by simp)
      rw [List.map_cons, List.map_cons, compG, if_pos hg]
      cases ea : asg g (f a) s with
      | none => rw [ea] at h1; exact h1.elim
      | some s1 =>
        rw [ea] at h1
        simp only [evC_no, R.bind_ok, sat_inj h1, ih]
  unfold Cmp
  rw [this]
  exact hq
/-- .. whose parts are known by what holds of them -/
theorem cmp_rel {gs : List (Nat × List D)} {g : Tg} {e : Ex} {ds : List D} (f : α → D) (Rl : α → D → Prop) (l : List α) {Q : List D → AH → Prop} (hd : ds = l.map f) (hg : Gd gs h)
    (hl : ∀ a ∈ l, AsgS (asg g (f a) s) fun s1 => (ev F e s1 h).sat (fun y h' => Rl a y ∧ h' = h) fun _ _ => False) (hq : ∀ ys : List D, ys.length = l.length → (∀ (i : Nat) a, l[i]? = some a → ∃ y, ys[i]? = some y ∧ Rl a y) → Q ys h) : Cmp gs g F .no e s ds h Q := by
  subst hd
  have : ∃ ys : List D, compG gs g (evC F .no) (ev F e) s (l.map f) h = .ok ys h ∧ ys.length = l.length ∧ ∀ (i : Nat) a, l[i]? = some a → ∃ y, ys[i]? = some y ∧ Rl a y := by
    clear hq
    induction l with
    | nil => exact ⟨[], if_pos hg, rfl, fun i a e => by simp at e⟩
    | cons a l ih =>
      obtain ⟨ys, e1, e2, e3⟩ := ih fun b m => hl b (by simp [m])
      have h1 := hl a (by simp)
      rw [List.map_cons, compG, if_pos hg]
      cases ea : asg g (f a) s with
      | none => rw [ea] at h1; exact h1.elim
      | some s1 =>
        rw [ea] at h1
        have h1 : (ev F e s1 h).sat (fun y h' => Rl a y ∧ h' = h) fun _ _ => False := h1
        cases ev' : ev F e s1 h with
        | bad => rw [ev'] at h1; exact h1.elim
        | exc _ _ => rw [ev'] at h1; exact h1.elim
        | ok y h' =>
          rw [ev'] at h1
          have h1 : Rl a y ∧ h' = h := h1
          obtain ⟨h1, rfl⟩ := h1
          refine ⟨y :: ys, ?_, by simp [e2], fun i b eb => ?_⟩
          · simp only [evC_no, R.bind_ok, ev', e1]
          · cases i with
            | zero => simp at eb; subst eb; exact ⟨y, rfl, by assumption⟩
            | succ i => simp at eb; simpa using e3 i b eb
  obtain ⟨ys, e1, e2, e3⟩ := this
  unfold Cmp
  rw [e1]
  exact hq ys e2 e3
/-- .. with a test -/
theorem cmp_if {gs : List (Nat × List D)} {g : Tg} {e c : Ex} {ds : List D} (f : α → D) (p : α → Bool) (r : α → D) (l : List α) {Q : List D → AH → Prop} (hd : ds = l.map f) (hg : Gd gs h)
    (hc : ∀ a ∈ l, AsgS (asg g (f a) s) fun s1 => (ev F c s1 h).sat (KTr fun b h' => b = p a ∧ h' = h) fun _ _ => False)
    (hl : ∀ a ∈ l, p a = true → AsgS (asg g (f a) s) fun s1 => (ev F e s1 h).sat (fun y h' => y = r a ∧ h' = h) fun _ _ => False) (hq : Q ((l.filter p).map r) h) : Cmp gs g F (.yes c) e s ds h Q := by
  subst hd
  have : compG gs g (evC F (.yes c)) (ev F e) s (l.map f) h = .ok ((l.filter p).map r) h := by
    clear hq
    induction l with
    | nil => exact if_pos hg
    | cons a l ih =>
      have ih := ih (fun b m => hc b (by simp [m])) fun b m => hl b (by simp [m])
      have h1 := hl a (by simp)
      have h2 := hc a (by simp)
      rw [List.map_cons, compG, if_pos hg]
      cases ea : asg g (f a) s with
      | none => rw [ea] at h2; exact h2.elim
      | some s1 =>
        rw [ea] at h1 h2
        have h2 : (ev F c s1 h).sat (KTr fun b h' => b = p a ∧ h' = h) fun _ _ => False := h2
        rw [← vc_yes] at h2
        simp only [sat_inj h2, R.bind_ok]
        cases hp : p a with
        | true => simp only [sat_inj (h1 hp), R.bind_ok, ih, List.filter_cons_of_pos hp, List.map_cons]
        | false =>
          rw [List.filter_cons_of_neg (by simp [hp])]
          simp only [ih]
  unfold Cmp
  rw [this]
  exact hq
/-! statements -/
def KN (P : Po) (s : Sl) (_ : D) (h : AH) : Prop := P.n s h
theorem KN_ap {d : D} : KN P s d h = P.n s h := rfl
def KSet (P : Po) (s : Sl) (i : Nat) (d : D) (h : AH) : Prop := P.n (s.set i (some d)) h
theorem KSet_ap {i : Nat} {d : D} : KSet P s i d h = P.n (s.set i (some d)) h := rfl
theorem sat_to {r : R α} {f : α → AH → O} : (r.to s f).sat P = r.sat (fun x h => (f x h).sat P) (Kx P s) := by cases r <;> rfl
theorem vs_pass : (evS F .pass s h).sat P = P.n s h := by rw [evS_pass]; rfl
theorem vs_ret {e : Ex} : (evS F (.ret e) s h).sat P = (ev F e s h).sat P.t (Kx P s) := by rw [evS_ret, sat_to]; rfl
theorem vs_retN : (evS F .retN s h).sat P = P.t .non h := by rw [evS_retN]; rfl
theorem vs_expr {e : Ex} : (evS F (.expr e) s h).sat P = (ev F e s h).sat (KN P s) (Kx P s) := by rw [evS_expr, sat_to]; rfl
theorem vs_set {i : Nat} {e : Ex} : (evS F (.set i e) s h).sat P = (ev F e s h).sat (KSet P s i) (Kx P s) := by rw [evS_set, sat_to]; rfl
/-- a fork -/
def Br (p : Prop) (F : FC) (t e : Sxs) (s : Sl) (P : Po) (h : AH) : Prop := (p → (evSs F t s h).sat P) ∧ (¬ p → (evSs F e s h).sat P)
theorem Br_T {t e : Sxs} : Br True F t e s P h = (evSs F t s h).sat P := propext ⟨fun z => z.1 trivial, fun z => ⟨fun _ => z, fun n => absurd trivial n⟩⟩
theorem Br_F {t e : Sxs} : Br False F t e s P h = (evSs F e s h).sat P := propext ⟨fun z => z.2 id, fun z => ⟨fun n => n.elim, fun _ => z⟩⟩
theorem br {p : Prop} {t e : Sxs} (h1 : p → (evSs F t s h).sat P) (h2 : ¬ p → (evSs F e s h).sat P) : Br p F t e s P h := ⟨h1, h2⟩
theorem br_t {p : Prop} {t e : Sxs} (hp : p) (h1 : (evSs F t s h).sat P) : Br p F t e s P h := ⟨fun _ => h1, fun n => absurd hp n⟩
theorem br_f {p : Prop} {t e : Sxs} (hp : ¬ p) (h1 : (evSs F e s h).sat P) : Br p F t e s P h := ⟨fun n => absurd n hp, fun _ => h1⟩
def Bif (o : Option Bool) (F : FC) (t e : Sxs) (s : Sl) (P : Po) (h : AH) : Prop := match o with
  | some b => Br (b = true) F t e s P h
  | none => False
theorem Bif_some {b : Bool} {t e : Sxs} : Bif (some b) F t e s P h = Br (b = true) F t e s P h := rfl
def KIf (F : FC) (t e : Sxs) (s : Sl) (P : Po) (d : D) (h : AH) : Prop := Bif (truth h d) F t e s P h
theorem KIf_ap {t e : Sxs} {d : D} : KIf F t e s P d h = Bif (truth h d) F t e s P h := rfl
theorem s_ifs0 {c : Ex} {t e : Sxs} : (evS F (.ifs c t e) s h).sat P = (ev F c s h).sat (KIf F t e s P) (Kx P s) := by
  rw [evS_ifs, sat_to]
  congr; funext d h; unfold KIf Bif
  cases truth h d with
  | none => rfl
  | some b =>
    cases b with
    | true => simp only [Br_T]
    | false => simp only [Bool.false_eq_true, Br_F]
theorem seq_nil {o : O} : o.sat (Po.seq F .nil P) = o.sat P := by
  cases o with
  | nx s h => exact vs_nil (F := F)
  | _ => rfl
theorem bif_seq {o : Option Bool} {t e : Sxs} : Bif o F t e s (Po.seq F .nil P) h = Bif o F t e s P h := by
  cases o with
  | none => rfl
  | some c => simp only [Bif_some, Br, seq_nil]
theorem s_ifs_and {a b : Ex} {t e : Sxs} : (evS F (.ifs (.and_ a b) t e) s h).sat P = (evS F (.ifs a (.cons (.ifs b t e) .nil) e) s h).sat P := by
  rw [s_ifs0, s_ifs0, v_and]
  congr; funext d h; unfold KAnd KIf
  cases hb : truth h d with
  | none => rfl
  | some c =>
    cases c with
    | true =>
      simp only [AndB_t, Bif_some, Br_T]
      rw [vs_cons, s_ifs0]
      congr 1
    | false => simp only [AndB_f, Bif_some, Bool.false_eq_true, Br_F, hb]
theorem s_ifs_or {a b : Ex} {t e : Sxs} : (evS F (.ifs (.or_ a b) t e) s h).sat P = (evS F (.ifs a t (.cons (.ifs b t e) .nil)) s h).sat P := by
  rw [s_ifs0, s_ifs0, v_or]
  congr; funext d h; unfold KOr KIf
  cases hb : truth h d with
  | none => rfl
  | some c =>
    cases c with
    | true => simp only [OrB_t, Bif_some, Br_T, hb]
    | false =>
      simp only [OrB_f, Bif_some, Bool.false_eq_true, Br_F]
      rw [vs_cons, s_ifs0]
      congr 1
theorem s_ifs_not {a : Ex} {t e : Sxs} : (evS F (.ifs (.not_ a) t e) s h).sat P = (evS F (.ifs a e t) s h).sat P := by
  rw [s_ifs0, s_ifs0, v_not]
  congr; funext d h; unfold KNot KIf
  cases hb : truth h d with
  | none => rfl
  | some c => cases c <;> simp only [optS_some, truth_bl, Bif_some, Bool.not_true, Bool.not_false, Bool.false_eq_true, Br_T, Br_F]
def KFor (F : FC) (g : Tg) (b : Sxs) (s : Sl) (P : Po) (ds : Src) (h : AH) : Prop := (loopG ds.2 (evSs F b) g ds.1 s h).sat P
theorem KFor_ap {g : Tg} {b : Sxs} {ds : List D} {gs : List (Nat × List D)} : KFor F g b s P (ds, gs) h = (loopG gs (evSs F b) g ds s h).sat P := rfl
theorem vs_for {g : Tg} {it : Ix} {b : Sxs} : (evS F (.for_ g it b) s h).sat P = (evI F it s h).sat (KFor F g b s P) (Kx P s) := by
  rw [evS_for, sat_to]; rfl
def KForI (F : FC) (g : Tg) (b : Sxs) (s : Sl) (P : Po) (ds : Src) (h : AH) : Prop := (loop (evSs F b) g ds.1 s h).sat P
theorem KForI_ap {g : Tg} {b : Sxs} {ds : List D} {gs : List (Nat × List D)} : KForI F g b s P (ds, gs) h = (loop (evSs F b) g ds s h).sat P := rfl
def KForA (F : FC) (g : Tg) (b : Sxs) (s : Sl) (P : Po) (d : D) (h : AH) : Prop := match d with
  | .ref n => (loopR (evSs F b) g n 100000 0 s h).sat P
  | d => optS (items h d) h (KForI F g b s P)
theorem KForA_ref {g : Tg} {b : Sxs} {n : Nat} : KForA F g b s P (.ref n) h = (loopR (evSs F b) g n 100000 0 s h).sat P := rfl
theorem KForA_tup {g : Tg} {b : Sxs} {ds : List D} : KForA F g b s P (.tup ds) h = (loop (evSs F b) g ds s h).sat P := rfl
theorem KForA_lst {g : Tg} {b : Sxs} {ds : List D} : KForA F g b s P (.lst ds) h = (loop (evSs F b) g ds s h).sat P := rfl
theorem KForA_scr {g : Tg} {b : Sxs} {ds : List Int} : KForA F g b s P (.scr ds) h = (loop (evSs F b) g (ds.map D.int) s h).sat P := rfl
theorem KForA_str {g : Tg} {b : Sxs} {x : List Nat} : KForA F g b s P (.str x) h = (loop (evSs F b) g (x.map fun c => .str [c]) s h).sat P := rfl
theorem vs_forA {g : Tg} {e : Ex} {b : Sxs} : (evS F (.forA g e b) s h).sat P = (ev F e s h).sat (KForA F g b s P) (Kx P s) := by
  rw [evS_forA, sat_to]
  congr; funext d h; unfold KForA
  cases d with
  | ref n => rfl
  | _ => simp only; cases items h _ <;> rfl
def KSI3 (P : Po) (s : Sl) (x o : D) (i : D) (h : AH) : Prop := optS (orD (setD h o i x) (dPut h o i x)) h fun h' _ => P.n s h'
theorem KSI3_ap {x o i : D} : KSI3 P s x o i h = optS (orD (setD h o i x) (dPut h o i x)) h fun h' _ => P.n s h' := rfl
def KSI2 (F : FC) (ie : Ex) (P : Po) (s : Sl) (x : D) (o : D) (h : AH) : Prop := (ev F ie s h).sat (KSI3 P s x o) (Kx P s)
theorem KSI2_ap {ie : Ex} {x o : D} : KSI2 F ie P s x o h = (ev F ie s h).sat (KSI3 P s x o) (Kx P s) := rfl
def KSI1 (F : FC) (oe ie : Ex) (P : Po) (s : Sl) (x : D) (h : AH) : Prop := (ev F oe s h).sat (KSI2 F ie P s x) (Kx P s)
theorem KSI1_ap {oe ie : Ex} {x : D} : KSI1 F oe ie P s x h = (ev F oe s h).sat (KSI2 F ie P s x) (Kx P s) := rfl
theorem vs_setI {o i e : Ex} : (evS F (.setI o i e) s h).sat P = (ev F e s h).sat (KSI1 F o i P s) (Kx P s) := by
  rw [evS_setI, sat_to]
  congr; funext x h; unfold KSI1
  rw [sat_to]
  congr; funext o h; unfold KSI2
  rw [sat_to]
  congr; funext i h; unfold KSI3
  cases orD (setD h o i x) (dPut h o i x) <;> rfl
def KUnp (is : List Nat) (P : Po) (s : Sl) (d : D) (h : AH) : Prop := AsgS (asg (.tp is) d s) fun s => P.n s h
theorem KUnp_ap {is : List Nat} {d : D} : KUnp is P s d h = AsgS (asg (.tp is) d s) fun s => P.n s h := rfl
theorem vs_unp {is : List Nat} {e : Ex} : (evS F (.unp is e) s h).sat P = (ev F e s h).sat (KUnp is P s) (Kx P s) := by
  rw [evS_unp, sat_to]
  congr; funext d h; unfold KUnp
  cases asg (.tp is) d s <;> rfl
def KAug2 (neg : Bool) (i : Nat) (a : Int) (P : Po) (s : Sl) (d : D) (h : AH) : Prop := match d with
  | .int b => P.n (s.set i (some (.int (if neg then a - b else a + b)))) h
  | _ => False
theorem KAug2_t {i : Nat} {a b : Int} : KAug2 true i a P s (.int b) h = P.n (s.set i (some (.int (a - b)))) h := rfl
theorem KAug2_f {i : Nat} {a b : Int} : KAug2 false i a P s (.int b) h = P.n (s.set i (some (.int (a + b)))) h := rfl
def AugS (o : Option (Option D)) (F : FC) (neg : Bool) (i : Nat) (e : Ex) (s : Sl) (P : Po) (h : AH) : Prop := match o with
  | some (some (.int a)) => (ev F e s h).sat (KAug2 neg i a P s) (Kx P s)
  | _ => False
theorem AugS_ap {neg : Bool} {i : Nat} {e : Ex} {a : Int} : AugS (some (some (.int a))) F neg i e s P h = (ev F e s h).sat (KAug2 neg i a P s) (Kx P s) := rfl
theorem vs_aug {neg : Bool} {i : Nat} {e : Ex} : (evS F (.aug neg i e) s h).sat P = AugS s[i]? F neg i e s P h := by
  rw [evS_aug]
  cases s[i]? with
  | none => rfl
  | some o =>
    cases o with
    | none => rfl
    | some d =>
      cases d with
      | int a =>
        simp only [AugS_ap, sat_to]
        congr; funext d h
        cases d <;> rfl
      | _ => rfl
theorem vs_raise {n : Nat} : (evS F (.raise_ n) s h).sat P = P.x ⟨n, none⟩ s h := by rw [evS_raise]; rfl
def Po.gone (j : Option Nat) (P : Po) : Po := ⟨fun s h => P.n (match j with | some j => s.set j none | none => s) h, P.t, fun _ _ _ => False⟩
theorem gone_n {j : Nat} : (Po.gone (some j) P).n s h = P.n (s.set j none) h := rfl
theorem gone_n0 : (Po.gone none P).n s h = P.n s h := rfl
theorem gone_t {j : Option Nat} : (Po.gone j P).t = P.t := rfl
theorem gone_x {j : Option Nat} {e : EV} : (Po.gone j P).x e s h = False := rfl
def Hdl (F : FC) (subs : List Nat) (j : Option Nat) (hb : Sxs) (P : Po) (e : EV) (s : Sl) (h : AH) : Prop := (subs.contains e.cls = true → slotOk j s = true ∧ (evSs (withE e F) hb (hide j s) h).sat (Po.gone j P)) ∧ (subs.contains e.cls = false → P.x e s h)
theorem Hdl_ap {subs : List Nat} {j : Option Nat} {hb : Sxs} {e : EV} : Hdl F subs j hb P e s h = ((subs.contains e.cls = true → slotOk j s = true ∧ (evSs (withE e F) hb (hide j s) h).sat (Po.gone j P)) ∧ (subs.contains e.cls = false → P.x e s h)) := rfl
def Po.try_ (F : FC) (subs : List Nat) (j : Option Nat) (hb : Sxs) (P : Po) : Po := ⟨P.n, P.t, Hdl F subs j hb P⟩
theorem try_n {subs : List Nat} {j : Option Nat} {hb : Sxs} : (Po.try_ F subs j hb P).n = P.n := rfl
theorem try_t {subs : List Nat} {j : Option Nat} {hb : Sxs} : (Po.try_ F subs j hb P).t = P.t := rfl
theorem try_x {subs : List Nat} {j : Option Nat} {hb : Sxs} : (Po.try_ F subs j hb P).x = Hdl F subs j hb P := rfl
theorem vs_try {b hb : Sxs} {subs : List Nat} {j : Option Nat} : (evS F (.try_ b subs j hb) s h).sat P = (evSs F b s h).sat (Po.try_ F subs j hb P) := by
  rw [evS_try]
  cases evSs F b s h with
  | ex e s h =>
    rw [caught_ex]
    show _ = Hdl F subs j hb P e s h
    unfold Hdl
    cases subs.contains e.cls with
    | false => exact propext ⟨fun z => ⟨fun q => (by cases q), fun _ => z⟩, fun z => z.2 (by simp)⟩
    | true =>
      simp only [if_true]
      cases slotOk j s with
      | false => exact propext ⟨fun z => z.elim, fun z => by cases (z.1 (by simp)).1⟩
      | true =>
        simp only [if_true, true_and, forall_const]
        have e1 : ((evSs (withE e F) hb (hide j s) h).gone j).sat P = (evSs (withE e F) hb (hide j s) h).sat (Po.gone j P) := by
          cases evSs (withE e F) hb (hide j s) h <;> cases j <;> rfl
        rw [e1]
        exact propext ⟨fun z => ⟨z, fun q => by cases q⟩, fun z => z.1⟩
  | _ => rfl
/-! loops -/
theorem loop_sat {body : Sl → AH → O} {g : Tg} {ds : List D} (f : α → D) (l : List α) (I : List α → Sl → AH → Prop) (hd : ds = l.map f) (h0 : I [] s h)
    (hs : ∀ pre a post s h, l = pre ++ a :: post → I pre s h → AsgS (asg g (f a) s) fun s1 => (body s1 h).sat ⟨I (pre ++ [a]), P.t, P.x⟩)
    (hn : ∀ s h, I l s h → P.n s h) : (loop body g ds s h).sat P := by
  subst hd
  have : ∀ (post pre : List α) (s : Sl) (h : AH), l = pre ++ post → I pre s h → (loop body g (post.map f) s h).sat P := by
    intro post
    induction post with
    | nil =>
      intro pre s h e i
      rw [List.append_nil] at e
      subst e
      exact hn s h i
    | cons a post ih =>
      intro pre s h e i
      have h1 := hs pre a post s h e i
      rw [List.map_cons, loop]
      cases ea : asg g (f a) s with
      | none => rw [ea] at h1; exact h1.elim
      | some s1 =>
        rw [ea] at h1
        have h1 : (body s1 h).sat ⟨I (pre ++ [a]), P.t, P.x⟩ := h1
        show ((body s1 h).turn _).sat P
        cases eb : body s1 h with
        | nx s2 h2 => rw [eb] at h1; exact ih (pre ++ [a]) s2 h2 (by rw [e]; simp) h1
        | rt d h2 => rw [eb] at h1; exact h1
        | ex e s2 h2 => rw [eb] at h1; exact h1
        | bk _ _ => rw [eb] at h1; exact h1.elim
        | ct _ _ => rw [eb] at h1; exact h1.elim
        | bad => rw [eb] at h1; exact h1.elim
  exact this l [] s h rfl h0
theorem loopG_sat {body : Sl → AH → O} {gs : List (Nat × List D)} {g : Tg} {ds : List D} (f : α → D) (l : List α) (I : List α → Sl → AH → Prop) (hd : ds = l.map f) (hg : ∀ pre s h, I pre s h → Gd gs h) (h0 : I [] s h)
    (hs : ∀ pre a post s h, l = pre ++ a :: post → I pre s h → AsgS (asg g (f a) s) fun s1 => (body s1 h).sat ⟨I (pre ++ [a]), P.t, P.x⟩)
    (hn : ∀ s h, I l s h → P.n s h) : (loopG gs body g ds s h).sat P := by
  subst hd
  have : ∀ (post pre : List α) (s : Sl) (h : AH), l = pre ++ post → I pre s h → (loopG gs body g (post.map f) s h).sat P := by
    intro post
    induction post with
    | nil =>
      intro pre s h e i
      rw [List.append_nil] at e
      subst e
      rw [List.map_nil, loopG, if_pos (hg _ _ _ i)]
      exact hn s h i
    | cons a post ih =>
      intro pre s h e i
      have h1 := hs pre a post s h e i
      rw [List.map_cons, loopG, if_pos (hg _ _ _ i)]
      cases ea : asg g (f a) s with
      | none => rw [ea] at h1; exact h1.elim
      | some s1 =>
        rw [ea] at h1
        have h1 : (body s1 h).sat ⟨I (pre ++ [a]), P.t, P.x⟩ := h1
        show ((body s1 h).turn _).sat P
        cases eb : body s1 h with
        | nx s2 h2 => rw [eb] at h1; exact ih (pre ++ [a]) s2 h2 (by rw [e]; simp) h1
        | rt d h2 => rw [eb] at h1; exact h1
        | ex e s2 h2 => rw [eb] at h1; exact h1
        | bk _ _ => rw [eb] at h1; exact h1.elim
        | ct _ _ => rw [eb] at h1; exact h1.elim
        | bad => rw [eb] at h1; exact h1.elim
  exact this l [] s h rfl h0
/-- over a list of the heap that stays as it is -/
theorem loopR_sat {body : Sl → AH → O} {g : Tg} {n : Nat} {ds : List D} (f : α → D) (l : List α) (I : List α → Sl → AH → Prop) (hd : ds = l.map f) (hl : l.length < 99999) (h0 : I [] s h)
    (hh : ∀ pre s h, I pre s h → h[n]? = some (.lst ds))
    (hs : ∀ pre a post s h, l = pre ++ a :: post → I pre s h → AsgS (asg g (f a) s) fun s1 => (body s1 h).sat ⟨I (pre ++ [a]), P.t, P.x⟩)
    (hn : ∀ s h, I l s h → P.n s h) : (loopR body g n 100000 0 s h).sat P := by
  subst hd
  have : ∀ (post pre : List α) (s : Sl) (h : AH) (k : Nat), l = pre ++ post → post.length < k → I pre s h → (loopR body g n k pre.length s h).sat P := by
    intro post
    induction post with
    | nil =>
      intro pre s h k e hk i
      obtain ⟨k, rfl⟩ : ∃ k', k = k' + 1 := ⟨k - 1, by omega⟩
      rw [List.append_nil] at e
      rw [loopR, hh pre s h i]
      simp only
      rw [List.getElem?_eq_none (by rw [List.length_map, e]; omega)]
      subst e
      exact hn s h i
    | cons a post ih =>
      intro pre s h k e hk i
      obtain ⟨k, rfl⟩ : ∃ k', k = k' + 1 := ⟨k - 1, by omega⟩
      have h1 := hs pre a post s h e i
      rw [loopR, hh pre s h i]
      have : (l.map f)[pre.length]? = some (f a) := by rw [e]; simp
      simp only [this]
      cases ea : asg g (f a) s with
      | none => rw [ea] at h1; exact h1.elim
      | some s1 =>
        rw [ea] at h1
        have h1 : (body s1 h).sat ⟨I (pre ++ [a]), P.t, P.x⟩ := h1
        show ((body s1 h).turn _).sat P
        cases eb : body s1 h with
        | nx s2 h2 =>
          rw [eb] at h1
          have := ih (pre ++ [a]) s2 h2 k (by rw [e]; simp) (by simpa using hk) h1
          simpa using this
        | rt d h2 => rw [eb] at h1; exact h1
        | ex e s2 h2 => rw [eb] at h1; exact h1
        | bk _ _ => rw [eb] at h1; exact h1.elim
        | ct _ _ => rw [eb] at h1; exact h1.elim
        | bad => rw [eb] at h1; exact h1.elim
  exact this l [] s h 100000 rfl (by omega) h0
def BrW (p : Prop) (F : FC) (b : Sxs) (s : Sl) (I : Nat → Sl → AH → Prop) (m : Nat) (P : Po) (h : AH) : Prop := (p → (evSs F b s h).sat ⟨fun s h => ∃ m', m' < m ∧ I m' s h, P.t, P.x⟩) ∧ (¬ p → P.n s h)
theorem brw {p : Prop} {b : Sxs} {I : Nat → Sl → AH → Prop} {m : Nat} (h1 : p → (evSs F b s h).sat ⟨fun s h => ∃ m', m' < m ∧ I m' s h, P.t, P.x⟩) (h2 : ¬ p → P.n s h) : BrW p F b s I m P h := ⟨h1, h2⟩
theorem BrW_T {b : Sxs} {I : Nat → Sl → AH → Prop} {m : Nat} : BrW True F b s I m P h = (evSs F b s h).sat ⟨fun s h => ∃ m', m' < m ∧ I m' s h, P.t, P.x⟩ := propext ⟨fun z => z.1 trivial, fun z => ⟨fun _ => z, fun n => absurd trivial n⟩⟩
theorem BrW_F {b : Sxs} {I : Nat → Sl → AH → Prop} {m : Nat} : BrW False F b s I m P h = P.n s h := propext ⟨fun z => z.2 id, fun z => ⟨fun n => n.elim, fun _ => z⟩⟩
def Bwh (o : Option Bool) (F : FC) (b : Sxs) (s : Sl) (I : Nat → Sl → AH → Prop) (m : Nat) (P : Po) (h : AH) : Prop := match o with
  | some c => BrW (c = true) F b s I m P h
  | none => False
theorem Bwh_some {c : Bool} {b : Sxs} {I : Nat → Sl → AH → Prop} {m : Nat} : Bwh (some c) F b s I m P h = BrW (c = true) F b s I m P h := rfl
def KWh (F : FC) (b : Sxs) (s : Sl) (I : Nat → Sl → AH → Prop) (m : Nat) (P : Po) (d : D) (h : AH) : Prop := Bwh (truth h d) F b s I m P h
theorem KWh_ap {b : Sxs} {I : Nat → Sl → AH → Prop} {m : Nat} {d : D} : KWh F b s I m P d h = Bwh (truth h d) F b s I m P h := rfl
theorem while_sat {c : Ex} {b : Sxs} (I : Nat → Sl → AH → Prop) (n : Nat) (hn : n < 100000) (h0 : I n s h)
    (hs : ∀ m s h, I m s h → (ev F c s h).sat (KWh F b s I m P) (Kx P s)) : (evS F (.while_ c b) s h).sat P := by
  rw [evS_while]
  have : ∀ (k n : Nat) (s : Sl) (h : AH), n < k → I n s h → (whiles (fun s h => tr (ev F c s h)) (evSs F b) k s h).sat P := by
    intro k
    induction k with
    | zero => intro n s h hn; omega
    | succ k ih =>
      intro n s h hn i
      have h1 := hs n s h i
      rw [whiles]
      cases hc : ev F c s h with
      | bad => rw [hc] at h1; exact h1.elim
      | exc e h2 => rw [hc] at h1; exact h1
      | ok d h2 =>
        rw [hc] at h1
        have h1 : Bwh (truth h2 d) F b s I n P h2 := h1
        rw [tr_ok]
        cases ht : truth h2 d with
        | none => rw [ht] at h1; exact h1.elim
        | some cb =>
          rw [ht] at h1
          cases cb with
          | false => exact h1.2 (by simp)
          | true =>
            have h1 := h1.1 rfl
            show ((evSs F b s h2).turn _).sat P
            cases eb : evSs F b s h2 with
            | nx s3 h3 =>
              rw [eb] at h1
              obtain ⟨m', hm, i'⟩ := h1
              exact ih m' s3 h3 (by omega) i'
            | rt d h3 => rw [eb] at h1; exact h1
            | ex e s3 h3 => rw [eb] at h1; exact h1
            | bk _ _ => rw [eb] at h1; exact h1.elim
            | ct _ _ => rw [eb] at h1; exact h1.elim
            | bad => rw [eb] at h1; exact h1.elim
  exact this 100000 n s h hn h0
/-- a cut: what holds behind the first part -/
theorem cut_sat {x : Sx} {xs : Sxs} (N : Sl → AH → Prop) (h1 : (evS F x s h).sat ⟨N, P.t, P.x⟩) (h2 : ∀ s h, N s h → (evSs F xs s h).sat P) : (evSs F (.cons x xs) s h).sat P := by
  rw [vs_cons]
  exact osat_mono h1 h2 (fun _ _ z => z) fun _ _ _ z => z
theorem cut_br {p : Prop} {t e xs : Sxs} (N : Sl → AH → Prop) (h1 : Br p F t e s ⟨N, P.t, P.x⟩ h) (h2 : ∀ s h, N s h → (evSs F xs s h).sat P) : Br p F t e s (Po.seq F xs P) h :=
  ⟨fun hp => osat_mono (h1.1 hp) h2 (fun _ _ z => z) fun _ _ _ z => z, fun hp => osat_mono (h1.2 hp) h2 (fun _ _ z => z) fun _ _ _ z => z⟩

/-- a fork by its test's form -/
def IfC (c : Ex) (F : FC) (t e : Sxs) (s : Sl) (P : Po) (h : AH) : Prop := (evS F (.ifs c t e) s h).sat P
theorem vs_ifs {c : Ex} {t e : Sxs} : (evS F (.ifs c t e) s h).sat P = IfC c F t e s P h := rfl
theorem ic_and {a b : Ex} {t e : Sxs} : IfC (.and_ a b) F t e s P h = IfC a F (.cons (.ifs b t e) .nil) e s P h := s_ifs_and
theorem ic_or {a b : Ex} {t e : Sxs} : IfC (.or_ a b) F t e s P h = IfC a F t (.cons (.ifs b t e) .nil) s P h := s_ifs_or
theorem ic_not {a : Ex} {t e : Sxs} : IfC (.not_ a) F t e s P h = IfC a F e t s P h := s_ifs_not
theorem ic_var {i : Nat} {t e : Sxs} : IfC (.var i) F t e s P h = (ev F (.var i) s h).sat (KIf F t e s P) (Kx P s) := s_ifs0
theorem ic_cst {d : D} {t e : Sxs} : IfC (.cst d) F t e s P h = (ev F (.cst d) s h).sat (KIf F t e s P) (Kx P s) := s_ifs0
theorem ic_cmp {op : CmpOp} {a b : Ex} {t e : Sxs} : IfC (.cmp op a b) F t e s P h = (ev F (.cmp op a b) s h).sat (KIf F t e s P) (Kx P s) := s_ifs0
theorem ic_chn {o1 o2 : CmpOp} {a b c : Ex} {t e : Sxs} : IfC (.chn o1 o2 a b c) F t e s P h = (ev F (.chn o1 o2 a b c) s h).sat (KIf F t e s P) (Kx P s) := s_ifs0
theorem ic_isN {a : Ex} {t e : Sxs} : IfC (.isN a) F t e s P h = (ev F (.isN a) s h).sat (KIf F t e s P) (Kx P s) := s_ifs0
theorem ic_notN {a : Ex} {t e : Sxs} : IfC (.notN a) F t e s P h = (ev F (.notN a) s h).sat (KIf F t e s P) (Kx P s) := s_ifs0
theorem ic_idx {a b : Ex} {t e : Sxs} : IfC (.idx a b) F t e s P h = (ev F (.idx a b) s h).sat (KIf F t e s P) (Kx P s) := s_ifs0
theorem ic_call {f : Nat} {es : Exs} {t e : Sxs} : IfC (.call f es) F t e s P h = (ev F (.call f es) s h).sat (KIf F t e s P) (Kx P s) := s_ifs0
theorem ic_isi {a : Ex} {cs : List Cl} {t e : Sxs} : IfC (.isi a cs) F t e s P h = (ev F (.isi a cs) s h).sat (KIf F t e s P) (Kx P s) := s_ifs0
theorem ic_bi {b : Bi} {mu : Bool} {es : Exs} {t e : Sxs} : IfC (.bi b mu es) F t e s P h = (ev F (.bi b mu es) s h).sat (KIf F t e s P) (Kx P s) := s_ifs0
theorem ic_me {m : Me} {mu : Bool} {o : Ex} {es : Exs} {t e : Sxs} : IfC (.me m mu o es) F t e s P h = (ev F (.me m mu o es) s h).sat (KIf F t e s P) (Kx P s) := s_ifs0
theorem ic_inC {neg : Bool} {a : Ex} {ds : List D} {t e : Sxs} : IfC (.inC neg a ds) F t e s P h = (ev F (.inC neg a ds) s h).sat (KIf F t e s P) (Kx P s) := s_ifs0
theorem ic_isE {subs : List Nat} {t e : Sxs} : IfC (.isE subs) F t e s P h = (ev F (.isE subs) s h).sat (KIf F t e s P) (Kx P s) := s_ifs0
theorem ic_lrev {mu tup : Bool} {a : Ex} {t e : Sxs} : IfC (.lrev mu tup a) F t e s P h = (ev F (.lrev mu tup a) s h).sat (KIf F t e s P) (Kx P s) := s_ifs0
theorem truth_str {x : List Nat} : truth h (.str x) = some (!x.isEmpty) := rfl
theorem truth_tup {x : List D} : truth h (.tup x) = some (!x.isEmpty) := rfl
theorem truth_lst {x : List D} : truth h (.lst x) = some (!x.isEmpty) := rfl
theorem dBi_s {xs : List D} : dBi .str h xs = none := rfl
theorem dBi_i {xs : List D} : dBi .int h xs = none := rfl
theorem dBi_t {xs : List D} : dBi .tuple h xs = none := rfl
theorem dLook_t {ds : List D} {i : D} : dLook h (.tup ds) i = none := rfl
theorem dLook_l {ds : List D} {i : D} : dLook h (.lst ds) i = none := rfl
theorem dLook_s {x : List Nat} {i : D} : dLook h (.str x) i = none := rfl
theorem dLook_c {x : List Int} {i : D} : dLook h (.scr x) i = none := rfl
theorem meT_pop {o : D} : meT .pop h o = (asL h o).isSome := rfl
theorem meT_insert {o : D} : meT .insert h o = (asL h o).isSome := rfl
theorem meT_reverse {o : D} : meT .reverse h o = (asL h o).isSome := rfl
theorem meT_clear {o : D} : meT .clear h o = (asL h o).isSome := rfl
theorem meT_strip {x : List Nat} : meT .strip h (.str x) = true := rfl
theorem meT_startswith {x : List Nat} : meT .startswith h (.str x) = true := rfl
theorem meT_split {x : List Nat} : meT .split h (.str x) = true := rfl
theorem meT_partition {x : List Nat} : meT .partition h (.str x) = true := rfl
theorem meD_insert {n : Nat} {i : Int} {x : D} : meD .insert h (.ref n) [.int i, x] = (match h[n]? with | some (.lst ds) => if 0 ≤ i ∧ i < 1000000000 ∧ ds.length < 16777216 then some (.non, h.set n (.lst (ds.take i.toNat ++ [x] ++ ds.drop i.toNat))) else none | _ => none) := rfl
theorem meD_pop {n : Nat} : meD .pop h (.ref n) [] = (match h[n]? with | some (.lst ds) => (match ds[ds.length - 1]? with | some d => some (d, h.set n (.lst ds.dropLast)) | none => none) | _ => none) := rfl
theorem meD_reverse {n : Nat} : meD .reverse h (.ref n) [] = (match h[n]? with | some (.lst ds) => some (.non, h.set n (.lst ds.reverse)) | _ => none) := rfl
theorem meD_clear {n : Nat} : meD .clear h (.ref n) [] = (match h[n]? with | some (.lst ds) => some (.non, h.set n (.lst [])) | _ => none) := rfl
theorem meD_strip {a b : List Nat} : meD .strip h (.str a) [.str b] = some (.str (Txt.stripChars (mkS a) (mkS b)).cps.toList, h) := rfl
theorem meD_startswith {a b : List Nat} : meD .startswith h (.str a) [.str b] = some (.bl (Txt.startswith (mkS a) (mkS b)), h) := rfl
theorem meD_partition {a b : List Nat} : meD .partition h (.str a) [.str b] = (if b.isEmpty = false then some (.tup [.str (Txt.partition (mkS a) (mkS b)).1.cps.toList, .str (Txt.partition (mkS a) (mkS b)).2.1.cps.toList, .str (Txt.partition (mkS a) (mkS b)).2.2.cps.toList], h) else none) := rfl
theorem meD_split {a b : List Nat} : meD .split h (.str a) [.str b] = (if b.isEmpty = false ∧ a.length ≤ 1000000 then some (.lst ((Txt.split (mkS a) (mkS b)).map fun s => .str s.cps.toList), h) else none) := rfl
theorem pow18 : binop .Pow h (.int 10) (.int 18) = some (.int 1000000000000000000) := by
  rw [bin_pow, if_pos (by decide)]; exact congrArg (fun z => some (D.int z)) big18
theorem pow12 : binop .Pow h (.int 10) (.int 12) = some (.int 1000000000000) := by
  rw [bin_pow, if_pos (by decide)]; exact congrArg (fun z => some (D.int z)) (show (10 : Int) ^ (12 : Int).toNat = 1000000000000 by decide +kernel)
theorem dLook_ref {n : Nat} {i : D} : dLook h (.ref n) i = (dGet h (.ref n) i).bind id := rfl
theorem isNon_non : D.isNon .non = true := rfl
theorem isNon_bl {b : Bool} : D.isNon (.bl b) = false := rfl
theorem isNon_int {i : Int} : D.isNon (.int i) = false := rfl
theorem isNon_str {x : List Nat} : D.isNon (.str x) = false := rfl
theorem isNon_tup {x : List D} : D.isNon (.tup x) = false := rfl
theorem isNon_lst {x : List D} : D.isNon (.lst x) = false := rfl
theorem isNon_ref {n : Nat} : D.isNon (.ref n) = false := rfl
end
/-! ## calls -/
noncomputable abbrev AA (P : List Fn) (k : Nat) : FC := apart (fzs P) (call P k)
/-- what a call of plain things does: it gives, or it raises; the heap stays -/
inductive Rv where
  | ok (d : D) | exc (e : EV)
def Rv.at (r : Rv) (h : AH) : R D := match r with
  | .ok d => .ok d h
  | .exc e => .exc e h
def Rv.sat (r : Rv) (Q : D → Prop) (X : EV → Prop) : Prop := match r with
  | .ok d => Q d
  | .exc e => X e
def Gs (P : List Fn) (k f : Nat) (ds : List D) (Q : D → Prop) (X : EV → Prop) : Prop := ∃ r : Rv, (∀ h, AA P k f ds h = r.at h) ∧ r.sat Q X
def NoX : EV → Prop := fun _ => False
abbrev Gv (P : List Fn) (k f : Nat) (ds : List D) (Q : D → Prop) : Prop := Gs P k f ds Q NoX
/-- what is given back, as plain data -/
def Rq (z : Bool) (h : AH) (d : D) (Q : D → Prop) : Prop := ∃ d', ((d.noref = true ∧ d' = d) ∨ (z = true ∧ fzD 5 h d = some d')) ∧ Q d'
theorem Rq_pl {z : Bool} {h : AH} {d : D} {Q : D → Prop} (hd : d.noref = true) (q : Q d) : Rq z h d Q := ⟨d, .inl ⟨hd, rfl⟩, q⟩
theorem Rq_ref {h : AH} {n : Nat} {es : List D} {Q : D → Prop} (e : h[n]? = some (.lst es)) (hd : norefs es = true) (q : Q (.lst es)) : Rq true h (.ref n) Q := by
  refine ⟨.lst es, .inr ⟨rfl, ?_⟩, q⟩
  unfold fzD
  simp [D.noref, e, hd]
section
variable {P : List Fn} {k f : Nat} {ds : List D} {fn : Fn} {h : AH}
theorem gs_of {Q : D → Prop} {X : EV → Prop} (hf : P[f]? = some fn) (hl : ds.length = fn.ps) (hn : norefs ds = true)
    (hb : (evSs (AA P k) fn.body (st0 fn ds) []).sat ⟨fun _ _ => Q .non, fun d h => Rq fn.frz h d Q, fun e _ h => (e.pay = none ∧ X e) ∨ (∃ d, e.pay = some d ∧ Rq fn.frz h d fun d => X ⟨e.cls, some d⟩)⟩) : Gs P (k + 1) f ds Q X := by
  have hz : fzs P f = fn.frz := by simp [fzs, hf]
  have hc : call P (k + 1) f ds [] = ran (evSs (AA P k) fn.body (st0 fn ds) []) := by
    simp only [call, hf]
    rw [if_pos hl]
    rfl
  have fn1 : ∀ (h : AH) (d : D), d.noref = true → fzD 5 h d = some d := fun h d hd => by unfold fzD; rw [if_pos hd]
  have key : ∀ (h' : AH) (d : D) (d' : D), ((d.noref = true ∧ d' = d) ∨ (fn.frz = true ∧ fzD 5 h' d = some d')) → (if fzs P f then fzD 5 h' d else if d.noref then some d else none) = some d' := by
    intro h' d d' hd
    rw [hz]
    rcases hd with ⟨h1, rfl⟩ | ⟨h1, h2⟩
    · rw [fn1 h' d' h1, h1]; cases fn.frz <;> rfl
    · rw [h1, h2]; rfl
  cases ho : evSs (AA P k) fn.body (st0 fn ds) [] with
  | nx s h' =>
    rw [ho] at hb hc
    refine ⟨.ok .non, fun h => ?_, hb⟩
    unfold AA apart
    rw [if_pos hn, hc]
    simp only [ran_nx]
    rw [key h' .non .non (.inl ⟨rfl, rfl⟩)]
    rfl
  | rt d h' =>
    rw [ho] at hb hc
    obtain ⟨d', hd, q⟩ := hb
    refine ⟨.ok d', fun h => ?_, q⟩
    unfold AA apart
    rw [if_pos hn, hc]
    simp only [ran_rt]
    rw [key h' d d' hd]
    rfl
  | ex e s h' =>
    rw [ho] at hb hc
    rcases hb with ⟨hp, hx⟩ | ⟨d, hp, d', hd, hx⟩
    · refine ⟨.exc e, fun h => ?_, hx⟩
      unfold AA apart
      rw [if_pos hn, hc]
      simp only [ran_ex, hp]
      rfl
    · refine ⟨.exc ⟨e.cls, some d'⟩, fun h => ?_, hx⟩
      unfold AA apart
      rw [if_pos hn, hc]
      simp only [ran_ex, hp]
      rw [key h' d d' hd]
      rfl
  | bk _ _ => rw [ho] at hb; exact hb.elim
  | ct _ _ => rw [ho] at hb; exact hb.elim
  | bad => rw [ho] at hb; exact hb.elim
theorem gv_of {Q : D → Prop} (hf : P[f]? = some fn) (hl : ds.length = fn.ps) (hn : norefs ds = true)
    (hb : (evSs (AA P k) fn.body (st0 fn ds) []).sat ⟨fun _ _ => Q .non, fun d h => Rq fn.frz h d Q, fun _ _ _ => False⟩) : Gv P (k + 1) f ds Q :=
  gs_of hf hl hn (osat_mono hb (fun _ _ z => z) (fun _ _ z => z) fun _ _ _ z => z.elim)
theorem gs_sat {Q : D → Prop} {X : EV → Prop} {Q' : D → AH → Prop} {X' : EV → AH → Prop} (g : Gs P k f ds Q X) (h1 : ∀ d, Q d → Q' d h) (h2 : ∀ e, X e → X' e h) : (AA P k f ds h).sat Q' X' := by
  obtain ⟨r, e, q⟩ := g
  rw [e h]
  cases r with
  | ok d => exact h1 d q
  | exc ev => exact h2 ev q
theorem gv_sat {Q : D → Prop} {Q' : D → AH → Prop} {X' : EV → AH → Prop} (g : Gv P k f ds Q) (h1 : ∀ d, Q d → Q' d h) : (AA P k f ds h).sat Q' X' := gs_sat g h1 fun _ z => z.elim
theorem gv_eq {d : D} (g : Gv P k f ds fun d' => d' = d) : AA P k f ds h = .ok d h := by
  obtain ⟨r, e, q⟩ := g
  rw [e h]
  cases r with
  | ok d' => cases q; rfl
  | exc e => exact q.elim
theorem gs_mono {Q Q' : D → Prop} {X X' : EV → Prop} (g : Gs P k f ds Q X) (h1 : ∀ d, Q d → Q' d) (h2 : ∀ e, X e → X' e) : Gs P k f ds Q' X' := by
  obtain ⟨r, e, q⟩ := g
  refine ⟨r, e, ?_⟩
  cases r with
  | ok d => exact h1 d q
  | exc ev => exact h2 ev q
theorem gv_mono {Q Q' : D → Prop} (g : Gv P k f ds Q) (h1 : ∀ d, Q d → Q' d) : Gv P k f ds Q' := gs_mono g h1 fun _ z => z
theorem gv_ok {d : D} (e : ∀ h, AA P k f ds h = .ok d h) : Gv P k f ds fun d' => d' = d := ⟨.ok d, e, rfl⟩
theorem gs_exc {n : Nat} (g : Gs P k f ds (fun _ => False) fun e => e = ⟨n, none⟩) : AA P k f ds h = .exc ⟨n, none⟩ h := by
  obtain ⟨r, e, q⟩ := g
  rw [e h]
  cases r with
  | ok d' => exact q.elim
  | exc e => cases q; rfl
/-- a call with a place of the heap runs in it -/
theorem hs_of {Q : D → AH → Prop} {X : EV → AH → Prop} (hf : P[f]? = some fn) (hl : ds.length = fn.ps) (hn : norefs ds = false)
    (hb : (evSs (AA P k) fn.body (st0 fn ds) h).sat ⟨fun _ h => Q .non h, Q, fun e _ h => X e h⟩) : (AA P (k + 1) f ds h).sat Q X := by
  show (apart (fzs P) (call P (k + 1)) f ds h).sat Q X
  rw [ap_ref hn]
  simp only [call, hf]
  rw [if_pos hl]
  show (ran (evSs (AA P k) fn.body (st0 fn ds) h)).sat Q X
  cases ho : evSs (AA P k) fn.body (st0 fn ds) h with
  | nx s h' => rw [ho] at hb; exact hb
  | rt d h' => rw [ho] at hb; exact hb
  | ex e s h' => rw [ho] at hb; exact hb
  | bk _ _ => rw [ho] at hb; exact hb.elim
  | ct _ _ => rw [ho] at hb; exact hb.elim
  | bad => rw [ho] at hb; exact hb.elim
mutual
theorem shift_noref (n : Nat) : ∀ d : D, d.noref = true → d.shift n = d
  | .ref _, h => by simp [D.noref] at h
  | .tup ds, h => by rw [D.shift, shifts_noref n ds (by simpa [D.noref] using h)]
  | .lst ds, h => by rw [D.shift, shifts_noref n ds (by simpa [D.noref] using h)]
  | .non, _ => rfl
  | .bl _, _ => rfl
  | .int _, _ => rfl
  | .str _, _ => rfl
  | .scr _, _ => rfl
theorem shifts_noref (n : Nat) : ∀ ds : List D, norefs ds = true → shifts n ds = ds
  | [], _ => rfl
  | d :: ds, h => by
    simp only [norefs, Bool.and_eq_true] at h
    rw [shifts, shift_noref n d h.1, shifts_noref n ds h.2]
end
/-- a call of plain things that gives a new list of plain things, to be changed -/
theorem ns_of {Q : D → AH → Prop} {X : EV → AH → Prop} {R : List D → Prop} (hf : P[f]? = some fn) (hl : ds.length = fn.ps) (hn : norefs ds = true) (hz : fn.frz = false)
    (hb : (evSs (AA P k) fn.body (st0 fn ds) []).sat ⟨fun _ _ => False, fun d h' => ∃ n es, d = .ref n ∧ h'[n]? = some (.lst es) ∧ norefs es = true ∧ R es, fun _ _ _ => False⟩)
    (hq : ∀ n es T, n < T.length → (h ++ T)[h.length + n]? = some (.lst es) → norefs es = true → R es → Q (.ref (h.length + n)) (h ++ T)) : (AA P (k + 1) f ds h).sat Q X := by
  have hc : call P (k + 1) f ds [] = ran (evSs (AA P k) fn.body (st0 fn ds) []) := by
    simp only [call, hf]
    rw [if_pos hl]
    rfl
  have hz : fzs P f = false := by simp [fzs, hf, hz]
  unfold AA apart
  rw [if_pos hn, hc]
  cases ho : evSs (AA P k) fn.body (st0 fn ds) [] with
  | nx s h' => rw [ho] at hb; exact hb.elim
  | rt d h' =>
    rw [ho] at hb
    obtain ⟨n, es, rfl, e, hes, r⟩ := hb
    simp only [ran_rt, hz, Bool.false_eq_true, if_false, D.noref]
    have hlt := (List.getElem?_eq_some_iff.mp e).1
    have e2 : (h'.map (Ob.shift h.length))[n]? = some (.lst es) := by
      rw [List.getElem?_map, e]
      show some (Ob.lst (shifts h.length es)) = _
      rw [shifts_noref _ es hes]
    have : D.shift h.length (.ref n) = .ref (h.length + n) := rfl
    rw [this]
    exact hq n es _ (by rw [List.length_map]; exact hlt) (by rw [List.getElem?_append_right (by omega), show h.length + n - h.length = n by omega]; exact e2) hes r
  | ex e s h' => rw [ho] at hb; exact hb.elim
  | bk _ _ => rw [ho] at hb; exact hb.elim
  | ct _ _ => rw [ho] at hb; exact hb.elim
  | bad => rw [ho] at hb; exact hb.elim
/-- the law itself -/
theorem law_of {ns : List Int} {f : Nat} (hf : P[f]? = some fn) (hl : 1 = fn.ps)
    (hb : (evSs (AA P k) fn.body (st0 fn [.scr ns]) []).sat ⟨fun _ _ => False, fun d _ => d = .bl true, fun _ _ _ => False⟩) : ∃ h, call P (k + 1) f [.scr ns] [] = .ok (.bl true) h := by
  have hc : call P (k + 1) f [.scr ns] [] = ran (evSs (AA P k) fn.body (st0 fn [.scr ns]) []) := by
    simp only [call, hf]
    rw [if_pos (show [D.scr ns].length = fn.ps from hl)]
    rfl
  rw [hc]
  cases ho : evSs (AA P k) fn.body (st0 fn [.scr ns]) [] with
  | rt d h' => rw [ho] at hb; cases hb; exact ⟨h', rfl⟩
  | nx s h' => rw [ho] at hb; exact hb.elim
  | ex e s h' => rw [ho] at hb; exact hb.elim
  | bk _ _ => rw [ho] at hb; exact hb.elim
  | ct _ _ => rw [ho] at hb; exact hb.elim
  | bad => rw [ho] at hb; exact hb.elim
end
/-! dicts -/
section
variable {κ : Type} [DecidableEq κ] {α : Type}
theorem getKV_of {ks : List (κ × D)} {k : κ} {d : D} (h1 : (k, d) ∈ ks) (h2 : ∀ p ∈ ks, p.1 = k → p.2 = d) : getKV ks k = some d := by
  unfold getKV
  cases e : ks.find? fun p => decide (p.1 = k) with
  | none => exact absurd (List.find?_eq_none.mp e _ h1) (by simp)
  | some p =>
    have h3 := List.find?_some e
    have h4 := h2 p (List.mem_of_find?_eq_some e) (by simpa using h3)
    simp [h4]
theorem getKV_map {l : List α} {f : α → κ} {g : α → D} {a : α} (ha : a ∈ l) (hi : ∀ b ∈ l, f b = f a → g b = g a) : getKV (l.map fun a => (f a, g a)) (f a) = some (g a) :=
  getKV_of (List.mem_map.mpr ⟨a, ha, rfl⟩) fun p hp e => by
    obtain ⟨b, hb, rfl⟩ := List.mem_map.mp hp
    exact hi b hb e
theorem getKV_none {ks : List (κ × D)} {k : κ} (h : ∀ p ∈ ks, p.1 ≠ k) : getKV ks k = none := by
  unfold getKV
  rw [List.find?_eq_none.mpr fun p hp => by simpa using h p hp]
  rfl
theorem putKV_new {ks : List (κ × D)} {k : κ} {d : D} (h : ∀ p ∈ ks, p.1 ≠ k) : putKV ks k d = ks ++ [(k, d)] := by
  unfold putKV
  rw [if_neg]
  intro z
  obtain ⟨p, hp, q⟩ := List.any_eq_true.mp z
  exact h p hp (by simpa using q)
end
/-! parts of a range -/
theorem range_pre {n i : Nat} {pre post : List Nat} (e : List.range n = pre ++ i :: post) : pre = List.range i ∧ i < n := by
  have h1 : (List.range n)[pre.length]? = some i := by rw [e]; simp
  have h2 := (List.getElem?_eq_some_iff.mp h1).1
  rw [List.length_range] at h2
  rw [List.getElem?_range h2] at h1
  cases h1
  refine ⟨?_, h2⟩
  have h3 : (List.range n).take pre.length = pre := by rw [e]; simp
  rw [List.take_range] at h3
  rw [show min pre.length n = pre.length by omega] at h3
  exact h3.symm
theorem range_rev {n i : Nat} {pre post : List Nat} (e : (List.range n).reverse = pre ++ i :: post) : i < n ∧ pre.length + i + 1 = n ∧ ∀ j, j ∈ pre ↔ i < j ∧ j < n := by
  have e1 : List.range n = post.reverse ++ i :: pre.reverse := by
    have := congrArg List.reverse e
    simpa using this
  obtain ⟨h1, h2⟩ := range_pre e1
  have h3 := congrArg List.length e1
  have h4 := congrArg List.length h1
  simp at h3 h4
  refine ⟨h2, by omega, fun j => ?_⟩
  have hm : j ∈ List.range n ↔ j ∈ post.reverse ∨ j = i ∨ j ∈ pre := by rw [e1]; simp
  rw [h1] at hm
  simp only [List.mem_range] at hm
  have nd : (List.range n).Nodup := List.nodup_range
  rw [e1, List.nodup_append] at nd
  constructor
  · intro hj
    refine ⟨?_, hm.mpr (.inr (.inr hj))⟩
    have a1 : j ≠ i := fun z => by
      have := (List.nodup_cons.mp nd.2.1).1
      subst z
      exact this (by simpa using hj)
    have a2 : ¬ j < i := fun z => by
      have : j ∈ post.reverse := by rw [h1]; simpa using z
      exact nd.2.2 j this j (by simp [hj]) rfl
    omega
  · rintro ⟨h5, h6⟩
    rcases hm.mp h6 with h | h | h
    · omega
    · omega
    · exact h
theorem set_last {h : AH} {x y : Ob} : (h ++ [x]).set h.length y = h ++ [y] := by simp
theorem cutL_toI {α : Type} {xs : List α} {i : Int} (h : 0 ≤ i) : cutL xs none (some i) = xs.take i.toNat := by
  obtain ⟨n, rfl⟩ := Int.eq_ofNat_of_zero_le h
  exact cutL_to
theorem cutL_fromI {α : Type} {xs : List α} {i : Int} (h : 0 ≤ i) : cutL xs (some i) none = xs.drop i.toNat := by
  obtain ⟨n, rfl⟩ := Int.eq_ofNat_of_zero_le h
  exact cutL_from
theorem cutL_mid {α : Type} {xs : List α} {a b : Int} (ha : 0 ≤ a) (hb : 0 ≤ b) : cutL xs (some a) (some b) = (xs.drop a.toNat).take (b.toNat - a.toNat) := by
  obtain ⟨m, rfl⟩ := Int.eq_ofNat_of_zero_le ha
  obtain ⟨n, rfl⟩ := Int.eq_ofNat_of_zero_le hb
  unfold cutL
  have h1 : HT.sIx xs.length 0 (some (m : Int)) = min m xs.length := by simp only [HT.sIx]; rw [if_neg (by omega)]; omega
  have h2 : HT.sIx xs.length xs.length (some (n : Int)) = min n xs.length := by simp only [HT.sIx]; rw [if_neg (by omega)]; omega
  rw [h1, h2]
  simp only [Int.toNat_natCast]
  by_cases h : m ≤ xs.length
  · rw [Nat.min_eq_left h]
    by_cases h3 : n ≤ xs.length
    · rw [Nat.min_eq_left h3]
    · rw [Nat.min_eq_right (by omega), List.take_of_length_le (by rw [List.length_drop]; omega), List.take_of_length_le (by rw [List.length_drop]; omega)]
  · have hm : min m xs.length = xs.length := by omega
    rw [hm, List.drop_of_length_le (Nat.le_refl _), List.drop_of_length_le (by omega), List.take_nil, List.take_nil]
theorem sm_l {x y : Int} (h : -18446744073709551616 < x ∧ x < 18446744073709551616) : sm x ∨ sm y := .inl h
theorem sm_r {x y : Int} (h : -18446744073709551616 < y ∧ y < 18446744073709551616) : sm x ∨ sm y := .inr h
end DI
set_option Elab.async false
set_option linter.all false
set_option maxRecDepth 100000
namespace DI
open PySem PySem.Spec PyProof.Rows L2
def topS (i : Nat) : Stmt := PySem.Challenge.pw_leafsay_k23_trees_written.main.body.getD i (.Pass ⟨0, 0, 0, 0⟩)
def t_is_name : FnT := ⟨Str.ofString "is_name", [Str.ofString "word"], true, [], topS 7⟩
def t_number_of : FnT := ⟨Str.ofString "number_of", [Str.ofString "word"], true, [], topS 8⟩
def t_word_end : FnT := ⟨Str.ofString "word_end", [Str.ofString "text", Str.ofString "at"], true, [], topS 9⟩
def t_show_tree : FnT := ⟨Str.ofString "show_tree", [Str.ofString "tree"], true, [Str.ofString "branch"], topS 13⟩
def t_read_mark : FnT := ⟨Str.ofString "read_mark", [Str.ofString "text", Str.ofString "at"], true, [], topS 14⟩
def t_read_node : FnT := ⟨Str.ofString "read_node", [Str.ofString "text", Str.ofString "at", Str.ofString "level", Str.ofString "left"], true, [], topS 15⟩
def t_read_tree : FnT := ⟨Str.ofString "read_tree", [Str.ofString "text"], true, [], topS 16⟩
def t__law_word : FnT := ⟨Str.ofString "_law_word", [Str.ofString "cell", Str.ofString "k"], true, [], topS 18⟩
def t__law_whole : FnT := ⟨Str.ofString "_law_whole", [Str.ofString "found"], true, [], topS 19⟩
def t__law_same : FnT := ⟨Str.ofString "_law_same", [Str.ofString "found", Str.ofString "due"], true, [], topS 20⟩
def t__law_built : FnT := ⟨Str.ofString "_law_built", [Str.ofString "script", Str.ofString "word", Str.ofString "most"], true, [Str.ofString "j"], topS 21⟩
def t__law_written : FnT := ⟨Str.ofString "_law_written", [Str.ofString "tree"], true, [], topS 22⟩
def t__law_told : FnT := ⟨Str.ofString "_law_told", [Str.ofString "tree"], true, [], topS 23⟩
def t_law : FnT := ⟨Str.ofString "law", [Str.ofString "script"], true, [], topS 24⟩
def theFns : List FnT := [t_is_name, t_number_of, t_word_end, t_show_tree, t_read_mark, t_read_node, t_read_tree, t__law_word, t__law_whole, t__law_same, t__law_built, t__law_written, t__law_told, t_law]
def theTups : List (Str × List Str) := []
def theConsts : List (Str × D) := [((Str.ofString "FIGURES"), (strD (Str.ofString "0123456789"))), ((Str.ofString "LETTERS"), (strD (Str.ofString "abcdefghijklmnopqrstuvwxyz"))), ((Str.ofString "MANY_NODES"), (.int 60)), ((Str.ofString "TREE_DEPTH"), (.int 20))]
def theCls : List (Str × List Nat) := [((Str.ofString "LeafError"), [0, 1, 2]), ((Str.ofString "NoText"), [1]), ((Str.ofString "TooGreat"), [2])]
def thePT : PT0 := ⟨theFns, theConsts, [(57, 11), (95, 11), (95, 12), (95, 36), (103, 20), (103, 62), (109, 11), (110, 11), (122, 27), (136, 11)], theCls, theTups, []⟩
end DI
set_option Elab.async false
set_option linter.all false
set_option maxRecDepth 100000
namespace DI
open PySem
abbrev i_is_name : Nat := 0
abbrev i_number_of : Nat := 1
abbrev i_word_end : Nat := 2
abbrev i_show_tree : Nat := 3
abbrev i_read_mark : Nat := 4
abbrev i_read_node : Nat := 5
abbrev i_read_tree : Nat := 6
abbrev i__law_word : Nat := 7
abbrev i__law_whole : Nat := 8
abbrev i__law_same : Nat := 9
abbrev i__law_built : Nat := 10
abbrev i__law_written : Nat := 11
abbrev i__law_told : Nat := 12
abbrev i_law : Nat := 13
abbrev x_LeafError : Nat := 0
abbrev x_NoText : Nat := 1
abbrev x_TooGreat : Nat := 2
def f_is_name : Fn := ⟨1, 2, true,
    (.cons (.ifs (.or_ (.cmp .Eq (.var 0) (.cst (.str (S "")))) (.cmp .Gt (.bi .len false (.cons (.var 0) .nil)) (.cst (.int 8)))) (.cons (.ret (.cst (.bl false)))
    .nil) .nil)
    (.cons (.forA (.nm 1) (.var 0) (.cons (.ifs (.cmp .NotIn (.var 1) (.cst (.str (S "abcdefghijklmnopqrstuvwxyz")))) (.cons (.ret (.cst (.bl false)))
    .nil) .nil)
    .nil))
    (.cons (.ret (.cst (.bl true)))
    .nil)))⟩

def f_number_of : Fn := ⟨1, 1, true,
    (.cons (.ifs (.or_ (.not_ (.chn .LtE .LtE (.cst (.int 1)) (.bi .len false (.cons (.var 0) .nil)) (.cst (.int 18)))) (.and_ (.cmp .Gt (.bi .len false (.cons (.var 0) .nil)) (.cst (.int 1))) (.me .startswith false (.var 0) (.cons (.cst (.str (S "0"))) .nil)))) (.cons (.raise_ x_NoText)
    .nil) .nil)
    (.cons (.ifs (.cmp .NotEq (.me .strip false (.var 0) (.cons (.cst (.str (S "0123456789"))) .nil)) (.cst (.str (S "")))) (.cons (.raise_ x_NoText)
    .nil) .nil)
    (.cons (.ret (.bi .int false (.cons (.var 0) .nil)))
    .nil)))⟩

def f_word_end : Fn := ⟨2, 2, true,
    (.cons (.while_ (.and_ (.cmp .Lt (.var 1) (.bi .len false (.cons (.var 0) .nil))) (.or_ (.cmp .In (.idx (.var 0) (.var 1)) (.cst (.str (S "abcdefghijklmnopqrstuvwxyz")))) (.cmp .In (.idx (.var 0) (.var 1)) (.cst (.str (S "0123456789")))))) (.cons (.set 1 (.bin .Add false (.var 1) (.cst (.int 1))))
    .nil))
    (.cons (.ret (.var 1))
    .nil))⟩

def f_show_tree : Fn := ⟨1, 3, true,
    (.cons (.set 1 (.idx (.var 0) (.cst (.int 0))))
    (.cons (.ifs (.cmp .NotEq (.idx (.var 0) (.cst (.int 1))) (.cst (.int 0))) (.cons (.set 1 (.bin .Add false (.bin .Add false (.var 1) (.cst (.str (S ":")))) (.bi .str false (.cons (.idx (.var 0) (.cst (.int 1))) .nil))))
    .nil) .nil)
    (.cons (.ifs (.cmp .Eq (.idx (.var 0) (.cst (.int 2))) (.tup .nil)) (.cons (.ret (.var 1))
    .nil) .nil)
    (.cons (.ret (.bin .Add false (.bin .Add false (.bin .Add false (.var 1) (.cst (.str (S "(")))) (.me .join false (.cst (.str (S " "))) (.cons (.comp false [2] (.nm 2) (.any (.idx (.var 0) (.cst (.int 2)))) .no (.call i_show_tree (.cons (.var 2) .nil))) .nil))) (.cst (.str (S ")")))))
    .nil))))⟩

def f_read_mark : Fn := ⟨2, 4, true,
    (.cons (.ifs (.cmp .NotEq (.sli false (.var 0) (.yes (.var 1)) (.yes (.bin .Add false (.var 1) (.cst (.int 1))))) (.cst (.str (S ":")))) (.cons (.ret (.tup (.cons (.cst (.int 0)) (.cons (.var 1) .nil))))
    .nil) .nil)
    (.cons (.set 2 (.call i_word_end (.cons (.var 0) (.cons (.bin .Add false (.var 1) (.cst (.int 1))) .nil))))
    (.cons (.set 3 (.call i_number_of (.cons (.sli false (.var 0) (.yes (.bin .Add false (.var 1) (.cst (.int 1)))) (.yes (.var 2))) .nil)))
    (.cons (.ifs (.cmp .Eq (.var 3) (.cst (.int 0))) (.cons (.raise_ x_NoText)
    .nil) .nil)
    (.cons (.ret (.tup (.cons (.var 3) (.cons (.var 2) .nil))))
    .nil)))))⟩

def f_read_node : Fn := ⟨4, 10, true,
    (.cons (.ifs (.or_ (.cmp .Gt (.var 2) (.cst (.int 20))) (.cmp .Eq (.var 3) (.cst (.int 0)))) (.cons (.raise_ x_TooGreat)
    .nil) .nil)
    (.cons (.set 4 (.call i_word_end (.cons (.var 0) (.cons (.var 1) .nil))))
    (.cons (.set 5 (.sli false (.var 0) (.yes (.var 1)) (.yes (.var 4))))
    (.cons (.ifs (.not_ (.call i_is_name (.cons (.var 5) .nil))) (.cons (.raise_ x_NoText)
    .nil) .nil)
    (.cons (.unp [6, 1] (.call i_read_mark (.cons (.var 0) (.cons (.var 4) .nil))))
    (.cons (.set 3 (.bin .Sub false (.var 3) (.cst (.int 1))))
    (.cons (.ifs (.cmp .NotEq (.sli false (.var 0) (.yes (.var 1)) (.yes (.bin .Add false (.var 1) (.cst (.int 1))))) (.cst (.str (S "(")))) (.cons (.ret (.tup (.cons (.tup (.cons (.var 5) (.cons (.var 6) (.cons (.tup .nil) .nil)))) (.cons (.var 1) (.cons (.var 3) .nil)))))
    .nil) .nil)
    (.cons (.set 7 (.lst true .nil))
    (.cons (.set 8 (.cst (.str (S " "))))
    (.cons (.while_ (.cmp .Eq (.var 8) (.cst (.str (S " ")))) (.cons (.unp [9, 1, 3] (.call i_read_node (.cons (.var 0) (.cons (.bin .Add false (.var 1) (.cst (.int 1))) (.cons (.bin .Add false (.var 2) (.cst (.int 1))) (.cons (.var 3) .nil))))))
    (.cons (.expr (.me .append false (.var 7) (.cons (.var 9) .nil)))
    (.cons (.set 8 (.sli false (.var 0) (.yes (.var 1)) (.yes (.bin .Add false (.var 1) (.cst (.int 1))))))
    .nil))))
    (.cons (.ifs (.cmp .NotEq (.var 8) (.cst (.str (S ")")))) (.cons (.raise_ x_NoText)
    .nil) .nil)
    (.cons (.ret (.tup (.cons (.tup (.cons (.var 5) (.cons (.var 6) (.cons (.bi .tuple false (.cons (.var 7) .nil)) .nil)))) (.cons (.bin .Add false (.var 1) (.cst (.int 1))) (.cons (.var 3) .nil)))))
    .nil))))))))))))⟩

def f_read_tree : Fn := ⟨1, 4, true,
    (.cons (.unp [1, 2, 3] (.call i_read_node (.cons (.var 0) (.cons (.cst (.int 0)) (.cons (.cst (.int 1)) (.cons (.cst (.int 60)) .nil))))))
    (.cons (.ifs (.cmp .NotEq (.var 2) (.bi .len false (.cons (.var 0) .nil))) (.cons (.raise_ x_NoText)
    .nil) .nil)
    (.cons (.ret (.var 1))
    .nil)))⟩

def f__law_word : Fn := ⟨2, 7, true,
    (.cons (.set 2 (.cst (.str (S "abcdefghijklmnopqrstuvwxyz"))))
    (.cons (.ifs (.and_ (.cmp .Eq (.bin .Mod false (.var 0) (.cst (.int 3))) (.cst (.int 1))) (.cmp .Lt (.var 1) (.cst (.int 12)))) (.cons (.set 3 (.lst false (.cons (.cst (.str (S "mark"))) (.cons (.cst (.str (S "text"))) (.cons (.cst (.str (S "up"))) (.cons (.cst (.str (S "sign"))) (.cons (.cst (.str (S "down"))) (.cons (.cst (.str (S "form"))) (.cons (.cst (.str (S "num"))) (.cons (.cst (.str (S "row"))) (.cons (.cst (.str (S "add"))) (.cons (.cst (.str (S "many"))) (.cons (.cst (.str (S "show"))) (.cons (.cst (.str (S "a"))) .nil))))))))))))))
    (.cons (.ret (.idx (.var 3) (.bin .Mod false (.bin .Add false (.bin .FloorDiv false (.var 0) (.cst (.int 3))) (.var 1)) (.cst (.int 12)))))
    .nil)) .nil)
    (.cons (.set 4 (.bin .Add false (.cst (.int 1)) (.bin .Mod false (.var 0) (.cst (.int 8)))))
    (.cons (.set 5 (.bin .Mod false (.bin .FloorDiv false (.var 0) (.cst (.int 8))) (.var 4)))
    (.cons (.set 6 (.idx (.var 2) (.bin .Mod false (.bin .FloorDiv false (.var 0) (.cst (.int 64))) (.cst (.int 26)))))
    (.cons (.ret (.bin .Add false (.bin .Add false (.bin .Mult false (.var 6) (.var 5)) (.idx (.var 2) (.bin .Mod false (.bin .Add false (.bin .FloorDiv false (.var 0) (.cst (.int 1664))) (.var 1)) (.cst (.int 26))))) (.bin .Mult false (.var 6) (.bin .Sub false (.bin .Sub false (.var 4) (.var 5)) (.cst (.int 1))))))
    .nil))))))⟩

def f__law_whole : Fn := ⟨1, 1, true,
    (.cons (.ret (.and_ (.isi (.var 0) [.int]) (.not_ (.isi (.var 0) [.bool]))))
    .nil)⟩

def f__law_same : Fn := ⟨2, 4, true,
    (.cons (.ifs (.isi (.var 1) [.str]) (.cons (.ret (.and_ (.isi (.var 0) [.str]) (.cmp .Eq (.var 0) (.var 1))))
    .nil) .nil)
    (.cons (.ifs (.not_ (.isi (.var 1) [.tuple])) (.cons (.ret (.and_ (.call i__law_whole (.cons (.var 0) .nil)) (.cmp .Eq (.var 0) (.var 1))))
    .nil) .nil)
    (.cons (.ifs (.or_ (.not_ (.isi (.var 0) [.tuple])) (.cmp .NotEq (.bi .len false (.cons (.var 0) .nil)) (.bi .len false (.cons (.var 1) .nil)))) (.cons (.ret (.cst (.bl false)))
    .nil) .nil)
    (.cons (.for_ (.tp [2, 3]) (.zip (.cons (.var 0) (.cons (.var 1) .nil))) (.cons (.ifs (.not_ (.call i__law_same (.cons (.var 2) (.cons (.var 3) .nil)))) (.cons (.ret (.cst (.bl false)))
    .nil) .nil)
    .nil))
    (.cons (.ret (.cst (.bl true)))
    .nil)))))⟩

def f__law_built : Fn := ⟨3, 11, true,
    (.cons (.set 3 (.lst true (.cons (.lst true (.cons (.call i__law_word (.cons (.var 1) (.cons (.cst (.int 9)) .nil))) (.cons (.cst (.int 0)) (.cons (.lst true .nil) (.cons (.cst (.int 1)) .nil))))) .nil)))
    (.cons (.forA (.nm 4) (.sli false (.var 0) .no (.yes (.cst (.int 59)))) (.cons (.set 5 (.bin .Mod false (.var 4) (.bin .Pow false (.cst (.int 10)) (.cst (.int 18)))))
    (.cons (.set 6 (.idx (.lst false (.cons (.bin .Sub false (.bi .len false (.cons (.var 3) .nil)) (.cst (.int 1))) (.cons (.bin .Mod false (.bin .FloorDiv false (.var 5) (.cst (.int 5))) (.bi .len false (.cons (.var 3) .nil))) .nil))) (.bi .int false (.cons (.cmp .Gt (.bin .Mod false (.var 5) (.cst (.int 5))) (.cst (.int 1))) .nil))))
    (.cons (.ifs (.cmp .GtE (.idx (.idx (.var 3) (.var 6)) (.cst (.int 3))) (.var 2)) (.cons (.set 6 (.cst (.int 0)))
    .nil) .nil)
    (.cons (.set 7 (.idx (.lst false (.cons (.cst (.int 0)) (.cons (.bin .Mod false (.bin .FloorDiv false (.var 5) (.cst (.int 11))) (.cst (.int 10))) (.cons (.var 5) .nil)))) (.bin .Mod false (.bin .FloorDiv false (.var 5) (.cst (.int 7))) (.cst (.int 3)))))
    (.cons (.expr (.me .insert false (.idx (.idx (.var 3) (.var 6)) (.cst (.int 2))) (.cons (.bin .Mod false (.bin .FloorDiv false (.var 5) (.cst (.int 13))) (.bin .Add false (.bi .len false (.cons (.idx (.idx (.var 3) (.var 6)) (.cst (.int 2))) .nil)) (.cst (.int 1)))) (.cons (.bi .len false (.cons (.var 3) .nil)) .nil))))
    (.cons (.expr (.me .append false (.var 3) (.cons (.lst true (.cons (.call i__law_word (.cons (.var 1) (.cons (.bin .Mod false (.bin .FloorDiv false (.var 5) (.cst (.int 17))) (.cst (.int 9))) .nil))) (.cons (.var 7) (.cons (.lst true .nil) (.cons (.bin .Add false (.idx (.idx (.var 3) (.var 6)) (.cst (.int 3))) (.cst (.int 1))) .nil))))) .nil)))
    .nil)))))))
    (.cons (.set 8 (.dnew false))
    (.cons (.for_ (.nm 9) (.rrng false (.cons (.bi .len false (.cons (.var 3) .nil)) .nil)) (.cons (.setI (.var 8) (.var 9) (.tup (.cons (.idx (.idx (.var 3) (.var 9)) (.cst (.int 0))) (.cons (.idx (.idx (.var 3) (.var 9)) (.cst (.int 1))) (.cons (.bi .tuple false (.cons (.comp false [10] (.nm 10) (.any (.idx (.idx (.var 3) (.var 9)) (.cst (.int 2)))) .no (.idx (.var 8) (.var 10))) .nil)) .nil)))))
    .nil))
    (.cons (.ret (.idx (.var 8) (.cst (.int 0))))
    .nil)))))⟩

def f__law_written : Fn := ⟨1, 5, true,
    (.cons (.set 1 (.lst true .nil))
    (.cons (.set 2 (.lst true (.cons (.var 0) .nil)))
    (.cons (.while_ (.cmp .NotEq (.var 2) (.lst false .nil)) (.cons (.set 3 (.me .pop false (.var 2) .nil))
    (.cons (.ifs (.isi (.var 3) [.str]) (.cons (.expr (.me .append false (.var 1) (.cons (.var 3) .nil)))
    .nil) (.cons (.expr (.me .append false (.var 1) (.cons (.idx (.var 3) (.cst (.int 0))) .nil)))
    (.cons (.ifs (.cmp .Gt (.idx (.var 3) (.cst (.int 1))) (.cst (.int 0))) (.cons (.expr (.me .append false (.var 1) (.cons (.bin .Add false (.cst (.str (S ":"))) (.bi .str false (.cons (.idx (.var 3) (.cst (.int 1))) .nil))) .nil)))
    .nil) .nil)
    (.cons (.ifs (.cmp .NotEq (.idx (.var 3) (.cst (.int 2))) (.tup .nil)) (.cons (.expr (.me .append false (.var 2) (.cons (.cst (.str (S ")"))) .nil)))
    (.cons (.for_ (.nm 4) (.rev (.idx (.var 3) (.cst (.int 2)))) (.cons (.set 2 (.bin .Add true (.var 2) (.lst false (.cons (.var 4) (.cons (.cst (.str (S " "))) .nil)))))
    .nil))
    (.cons (.setI (.var 2) (.neg (.cst (.int 1))) (.cst (.str (S "("))))
    .nil))) .nil)
    .nil))))
    .nil)))
    (.cons (.ret (.me .join false (.cst (.str (S ""))) (.cons (.var 1) .nil)))
    .nil))))⟩

def f__law_told : Fn := ⟨1, 3, true,
    (.cons (.set 1 (.call i__law_written (.cons (.var 0) .nil)))
    (.cons (.set 2 (.call i_show_tree (.cons (.var 0) .nil)))
    (.cons (.ifs (.or_ (.not_ (.isi (.var 2) [.str])) (.cmp .NotEq (.var 2) (.var 1))) (.cons (.ret (.cst (.bl false)))
    .nil) .nil)
    (.cons (.ret (.call i__law_same (.cons (.call i_read_tree (.cons (.var 1) .nil)) (.cons (.var 0) .nil))))
    .nil))))⟩

def f_law : Fn := ⟨1, 6, true,
    (.cons (.set 1 (.cst (.int 4711)))
    (.cons (.forA (.nm 2) (.sli false (.var 0) .no (.yes (.cst (.int 59)))) (.cons (.set 1 (.bin .Mod false (.bin .Add false (.bin .Mult false (.var 1) (.cst (.int 613))) (.var 2)) (.cst (.int 999999937))))
    .nil))
    (.cons (.set 3 (.call i__law_built (.cons (.var 0) (.cons (.var 1) (.cons (.cst (.int 20)) .nil)))))
    (.cons (.set 4 (.bin .Add true (.lst true (.cons (.var 3) .nil)) (.bi .list false (.cons (.sli false (.idx (.var 3) (.cst (.int 2))) .no (.yes (.cst (.int 4)))) .nil))))
    (.cons (.expr (.me .append false (.var 4) (.cons (.tup (.cons (.idx (.var 3) (.cst (.int 0))) (.cons (.idx (.var 3) (.cst (.int 1))) (.cons (.lrev false true (.idx (.var 3) (.cst (.int 2)))) .nil)))) .nil)))
    (.cons (.ifs (.not_ (.call i__law_told (.cons (.tup (.cons (.call i__law_word (.cons (.var 1) (.cons (.cst (.int 3)) .nil))) (.cons (.idx (.lst false (.cons (.cst (.int 0)) (.cons (.bin .Sub false (.bin .Pow false (.cst (.int 10)) (.cst (.int 18))) (.cst (.int 1))) .nil))) (.bin .Mod false (.var 1) (.cst (.int 2)))) (.cons (.tup .nil) .nil)))) .nil))) (.cons (.ret (.cst (.bl false)))
    .nil) .nil)
    (.cons (.forA (.nm 5) (.bin .Add false (.var 4) (.lst false (.cons (.var 3) .nil))) (.cons (.ifs (.not_ (.call i__law_told (.cons (.var 5) .nil))) (.cons (.ret (.cst (.bl false)))
    .nil) .nil)
    .nil))
    (.cons (.ret (.cst (.bl true)))
    .nil))))))))⟩


def prog : List Fn := [f_is_name, f_number_of, f_word_end, f_show_tree, f_read_mark, f_read_node, f_read_tree, f__law_word, f__law_whole, f__law_same, f__law_built, f__law_written, f__law_told, f_law]
noncomputable abbrev A (k : Nat) : FC := AA prog k
end DI
set_option Elab.async false
set_option linter.all false
set_option maxRecDepth 100000
namespace DI
open PySem

def ltr : List Nat := S "abcdefghijklmnopqrstuvwxyz"
def fig : List Nat := S "0123456789"
def An (c : Nat) : Prop := c ∈ ltr ∨ c ∈ fig
/-- what stands behind a word -/
def Dl (post : List Nat) : Prop := ∀ c, post[0]? = some c → ¬ An c
theorem cut_mid {α : Type} {pre w post : List α} {a b : Int} (ha : a = pre.length) (hb : b = pre.length + w.length) : cutL (pre ++ w ++ post) (some a) (some b) = w := by
  subst ha hb
  unfold cutL
  have h1 : HT.sIx (pre ++ w ++ post).length 0 (some (pre.length : Int)) = pre.length := by
    simp only [HT.sIx]
    rw [if_neg (by omega)]
    simp only [List.length_append]
    omega
  have h2 : HT.sIx (pre ++ w ++ post).length (pre ++ w ++ post).length (some ((pre.length : Int) + w.length)) = pre.length + w.length := by
    simp only [HT.sIx]
    rw [if_neg (by omega)]
    simp only [List.length_append]
    omega
  rw [h1, h2, List.append_assoc, List.drop_left]
  rw [show pre.length + w.length - pre.length = w.length by omega, List.take_left]
/-- one or two signs behind -/
theorem cut_post {α : Type} {pre post : List α} {a b : Int} {n : Nat} (ha : a = pre.length) (hb : b = a + n) : cutL (pre ++ post) (some a) (some b) = post.take n := by
  subst ha hb
  unfold cutL
  by_cases hn : n ≤ post.length
  · have h1 : HT.sIx (pre ++ post).length 0 (some (pre.length : Int)) = pre.length := by
      simp only [HT.sIx]
      rw [if_neg (by omega)]
      simp only [List.length_append]
      omega
    have h2 : HT.sIx (pre ++ post).length (pre ++ post).length (some ((pre.length : Int) + n)) = pre.length + n := by
      simp only [HT.sIx]
      rw [if_neg (by omega)]
      simp only [List.length_append]
      omega
    rw [h1, h2, List.drop_left, show pre.length + n - pre.length = n by omega]
  · have h1 : HT.sIx (pre ++ post).length 0 (some (pre.length : Int)) = pre.length := by
      simp only [HT.sIx]
      rw [if_neg (by omega)]
      simp only [List.length_append]
      omega
    have h2 : HT.sIx (pre ++ post).length (pre ++ post).length (some ((pre.length : Int) + n)) = pre.length + post.length := by
      simp only [HT.sIx]
      rw [if_neg (by omega)]
      simp only [List.length_append]
      omega
    rw [h1, h2, List.drop_left, show pre.length + post.length - pre.length = post.length by omega, List.take_of_length_le (by omega), List.take_of_length_le (by omega)]
def wc : Ex := (.and_ (.cmp .Lt (.var 1) (.bi .len false (.cons (.var 0) .nil))) (.or_ (.cmp .In (.idx (.var 0) (.var 1)) (.cst (.str (S "abcdefghijklmnopqrstuvwxyz")))) (.cmp .In (.idx (.var 0) (.var 1)) (.cst (.str (S "0123456789"))))))
def wb : Sxs := (.cons (.set 1 (.bin .Add false (.var 1) (.cst (.int 1)))) .nil)
theorem wc_yes {F : FC} {tx : List Nat} {i : Nat} {c : Nat} {h : AH} (hi : tx[i]? = some c) (ha : An c) : tr (ev F wc [some (.str tx), some (.int i)] h) = .ok true h := by
  have hl : (i : Int) < tx.length := by
    have := (List.getElem?_eq_some_iff.mp hi).1
    omega
  have e : atL tx (i : Int) = some c := by rw [atL_nat, hi]
  rcases ha with ha | ha
  · have ha' : c ∈ S "abcdefghijklmnopqrstuvwxyz" := ha
    simp [wc, hl, e, ha']
  · have ha' : c ∈ S "0123456789" := ha
    by_cases hb : c ∈ S "abcdefghijklmnopqrstuvwxyz"
    · simp [wc, hl, e, hb]
    · simp [wc, hl, e, ha', hb]
theorem wc_no {F : FC} {tx : List Nat} {i : Nat} {h : AH} (hi : ∀ c, tx[i]? = some c → ¬ An c) : tr (ev F wc [some (.str tx), some (.int i)] h) = .ok false h := by
  by_cases hl : i < tx.length
  · have hc := hi tx[i] (List.getElem?_eq_getElem hl)
    have hl' : (i : Int) < tx.length := by omega
    have e : atL tx (i : Int) = some tx[i] := by rw [atL_nat, List.getElem?_eq_getElem hl]
    have h1 : tx[i] ∉ S "abcdefghijklmnopqrstuvwxyz" := fun z => hc (.inl z)
    have h2 : tx[i] ∉ S "0123456789" := fun z => hc (.inr z)
    simp [wc, hl', e, h1, h2]
  · have hl' : ¬ (i : Int) < tx.length := by omega
    simp [wc, hl']
theorem w_loop {F : FC} {h : AH} : ∀ (w pre post : List Nat) (n : Nat), (∀ c ∈ w, An c) → Dl post → w.length < n → whiles (fun s h => tr (ev F wc s h)) (evSs F wb) n [some (.str (pre ++ w ++ post)), some (.int pre.length)] h = .nx [some (.str (pre ++ w ++ post)), some (.int (pre.length + w.length))] h
  | [], pre, post, 0, _, _, hn => by simp at hn
  | [], pre, post, n + 1, _, hd, _ => by
    rw [whiles, wc_no]
    · simp
    · intro c hc
      apply hd c
      rw [List.append_nil, List.getElem?_append_right (Nat.le_refl _), Nat.sub_self] at hc
      exact hc
  | c :: w, pre, post, 0, _, _, hn => by simp at hn
  | c :: w, pre, post, n + 1, ha, hd, hn => by
    rw [whiles, wc_yes (c := c) (by simp) (ha c (by simp))]
    have ih := w_loop (F := F) (h := h) w (pre ++ [c]) post n (fun c hc => ha c (by simp [hc])) hd (by simpa using hn)
    have e1 : pre ++ [c] ++ w ++ post = pre ++ c :: w ++ post := by simp
    rw [e1] at ih
    have e2 : ((pre ++ [c]).length : Int) = pre.length + 1 := by simp
    rw [e2] at ih
    simp only [R.to_ok]
    have step : evSs F wb [some (.str (pre ++ c :: w ++ post)), some (.int pre.length)] h = .nx [some (.str (pre ++ c :: w ++ post)), some (.int (pre.length + 1))] h := by simp [wb]
    rw [step, O.turn_nx, ih]
    simp
    omega
theorem s_wend (k : Nat) (pre w post : List Nat) (h : AH) (ha : ∀ c ∈ w, An c) (hd : Dl post) (hn : w.length < 100000) : A (k + 1) 2 [.str (pre ++ w ++ post), .int pre.length] h = .ok (.int (pre.length + w.length)) h := by
  refine ap_ok (fn := f_word_end) (h' := []) rfl rfl rfl ?_ rfl
  have e := w_loop (F := A k) (h := []) w pre post 100000 ha hd hn
  have : f_word_end = ⟨2, 2, true, (.cons (.while_ wc wb) (.cons (.ret (.var 1)) .nil))⟩ := rfl
  rw [this]
  simp [st0]
  simp at e
  rw [e]
  simp
/-! figures -/
theorem digs_num (n : Nat) : digs (n : Int) = TL.numL n := by
  have h : (Str.ofString (toString (n : Int))).cps.toList = TL.numL n := TL.tl_num n
  rw [digs_str] at h
  simpa [mkS] using h
theorem numL_an (n : Nat) : ∀ c ∈ TL.numL n, c ∈ fig := fun c hc => by
  have h := TL.numL_digits n c hc
  have : c = 48 ∨ c = 49 ∨ c = 50 ∨ c = 51 ∨ c = 52 ∨ c = 53 ∨ c = 54 ∨ c = 55 ∨ c = 56 ∨ c = 57 := by omega
  have hf : fig = [48, 49, 50, 51, 52, 53, 54, 55, 56, 57] := by decide +kernel
  rw [hf]
  simp
  omega
theorem numL_head (n : Nat) : 0 < n → ∃ a r, TL.numL n = a :: r ∧ a ≠ 48 := by
  induction n using Nat.strongRecOn with
  | _ n ih =>
    intro h0
    by_cases h : n < 10
    · exact ⟨48 + n, [], TL.numL_lt h, by omega⟩
    · obtain ⟨a, r, e, ha⟩ := ih (n / 10) (by omega) (by omega)
      exact ⟨a, r ++ [48 + n % 10], by rw [TL.numL_step (by omega), e]; rfl, ha⟩
theorem strip_all {x y : List Nat} (h : ∀ c ∈ x, c ∈ y) (hne : x ≠ []) : (Txt.stripChars (mkS x) (mkS y)).cps.toList = [] := by
  have hg : ∀ c ∈ x, (mkS y).cps.contains c = true := fun c hc => by simpa [mkS] using h c hc
  have htw : x.takeWhile (mkS y).cps.contains = x := by
    have key : ∀ (p : Nat → Bool) (l : List Nat), (∀ c ∈ l, p c = true) → l.takeWhile p = l := by
      intro p l
      induction l with
      | nil => intro _; rfl
      | cons a l ih =>
        intro hp
        rw [List.takeWhile_cons, hp a (by simp)]
        simp only [if_true]
        rw [ih fun c hc => hp c (by simp [hc])]
    exact key _ _ hg
  have hlo : stripLo (mkS y).cps.contains true (mkS x) = x.length := by
    simp only [stripLo, if_true, mkS]
    show (List.takeWhile (mkS y).cps.contains x).length = _
    rw [htw]
  have hl : x.length ≠ 0 := fun z => hne (List.eq_nil_of_length_eq_zero z)
  unfold Txt.stripChars Txt.stripBy
  have hs : stripSame (mkS y).cps.contains true true (mkS x) = false := by
    simp only [stripSame, hlo]
    have : (x.length == 0) = false := by simpa using hl
    rw [this]; rfl
  rw [hs]
  simp only [Bool.false_eq_true, if_false, stripped, hlo, Builtin.Str.strSub]
  have hh : stripHi (mkS y).cps.contains true (mkS x) x.length ≤ x.length := by
    simp only [stripHi, if_true, mkS_length]
    omega
  rw [Array.toList_extract, List.extract_eq_drop_take]
  have : stripHi (mkS y).cps.contains true (mkS x) x.length - x.length = 0 := by omega
  rw [this]
  simp
theorem s_number (k n : Nat) (hn : n < 10 ^ 18) (h : AH) : A (k + 1) 1 [.str (digs (n : Int))] h = .ok (.int n) h := by
  refine ap_ok (fn := f_number_of) (h' := []) rfl rfl rfl ?_ rfl
  have hl : (TL.numL n).length ≤ 18 := TL.numL_len (by decide) hn
  have hne := TL.numL_ne n
  have hst : meD .strip [] (.str (TL.numL n)) [.str (S "0123456789")] = some (.str [], []) := by
    simp only [meD, strip_all (numL_an n) hne]
    have : (Txt.stripChars (mkS (TL.numL n)) (mkS (S "0123456789"))).cps.toList = [] := strip_all (numL_an n) hne
    rw [this]
  have hi : intD (TL.numL n) = some (n : Int) := by
    unfold intD
    rw [if_pos (by omega), ← digs_num, ← digs_str]
    exact TL.int_num (by omega)
  have h0 : 1 ≤ (TL.numL n).length := by
    cases q : TL.numL n with
    | nil => exact absurd q hne
    | cons a r => simp
  rw [digs_num]
  have e0 : S "" = [] := by decide
  have h1 : (1 : Int) ≤ (TL.numL n).length := by omega
  have h18 : ((TL.numL n).length : Int) ≤ 18 := by omega
  by_cases hz : (TL.numL n).length = 1
  · have hz' : ¬ (1 : Int) < (TL.numL n).length := by omega
    simp [f_number_of, st0, h1, h18, hz', hst, hi, e0, meT]
  · have hz' : (1 : Int) < (TL.numL n).length := by omega
    have hn0 : 0 < n := by
      rcases Nat.eq_zero_or_pos n with z | z
      · subst z
        exact absurd (by rw [TL.numL_lt (by decide)]; rfl) hz
      · exact z
    obtain ⟨a, r, ea, ha⟩ := numL_head n hn0
    have hsw : meD .startswith [] (.str (TL.numL n)) [.str (S "0")] = some (.bl false, []) := by
      rw [ea]
      have : Txt.startswith (mkS (a :: r)) (mkS (S "0")) = false := by
        have e48 : S "0" = [48] := by decide +kernel
        rw [e48]
        simp [Txt.startswith, Builtin.Str.subAt, mkS, Str.length]
        intro z
        exact ha z
      simp only [meD, this]
    simp [f_number_of, st0, h1, h18, hz', hst, hi, e0, meT, hsw]
end DI
namespace DI
open PySem
theorem name_loop {F : FC} {b : Sxs} (hb : b = (.cons (.ifs (.cmp .NotIn (.var 1) (.cst (.str (S "abcdefghijklmnopqrstuvwxyz")))) (.cons (.ret (.cst (.bl false))) .nil) .nil) .nil)) : ∀ (w : List Nat) (x : D) (z : Option D) (h : AH), (∀ c ∈ w, c ∈ ltr) → ∃ z', loop (evSs F b) (.nm 1) (w.map fun c => .str [c]) [some x, z] h = .nx [some x, z'] h
  | [], x, z, h, _ => ⟨z, rfl⟩
  | c :: w, x, z, h, hw => by
    obtain ⟨z', e⟩ := name_loop (F := F) hb w x (some (.str [c])) h fun c hc => hw c (by simp [hc])
    refine ⟨z', ?_⟩
    rw [List.map_cons, loop]
    simp only [asg_nm, List.set_cons_succ, List.set_cons_zero]
    have hc : c ∈ S "abcdefghijklmnopqrstuvwxyz" := hw c (by simp)
    have : evSs F b [some x, some (.str [c])] h = .nx [some x, some (.str [c])] h := by
      subst hb
      simp [hc]
    rw [this, O.turn_nx]
    exact e
structure Nam (w : List Nat) : Prop where
  lo : 1 ≤ w.length
  hi : w.length ≤ 8
  lt : ∀ c ∈ w, c ∈ ltr
theorem s_name' (k : Nat) (w : List Nat) (h : AH) (hw : Nam w) : A (k + 1) 0 [.str w] h = .ok (.bl true) h := by
  refine ap_ok (fn := f_is_name) (h' := []) rfl rfl rfl ?_ rfl
  obtain ⟨z, e⟩ := name_loop (F := A k) rfl w (.str w) none [] hw.lt
  have e0 : S "" = [] := by decide
  have h1 : ¬ (8 : Int) < w.length := by have := hw.hi; omega
  have h2 : w ≠ [] := by have := hw.lo; intro z; subst z; simp at this
  simp [f_is_name, st0, e0, h1, h2, e]
end DI
namespace DI
open PySem
mutual
def D.pl : D → Bool
  | .str _ => true
  | .int _ => true
  | .tup ds => pls ds
  | _ => false
def pls : List D → Bool
  | [] => true
  | d :: ds => d.pl && pls ds
end
theorem pl_mem : ∀ {ds : List D} {d : D}, pls ds = true → d ∈ ds → d.pl = true ∧ d.dep ≤ deps ds
  | [], _, _, h => by cases h
  | e :: ds, d, hp, h => by
    simp only [pls, Bool.and_eq_true] at hp
    simp only [deps]
    rcases List.mem_cons.mp h with rfl | h
    · exact ⟨hp.1, Nat.le_max_left _ _⟩
    · obtain ⟨h1, h2⟩ := pl_mem hp.2 h
      exact ⟨h1, Nat.le_trans h2 (Nat.le_max_right _ _)⟩
mutual
theorem pl_nr : ∀ d : D, d.pl = true → d.noref = true
  | .str _, _ => rfl
  | .int _, _ => rfl
  | .tup ds, h => by simp only [D.noref]; exact pls_nr ds h
  | .non, h => by cases h
  | .bl _, h => by cases h
  | .lst _, h => by cases h
  | .scr _, h => by cases h
  | .ref _, h => by cases h
theorem pls_nr : ∀ ds : List D, pls ds = true → norefs ds = true
  | [], _ => rfl
  | d :: ds, h => by
    simp only [pls, Bool.and_eq_true] at h
    simp only [norefs, pl_nr d h.1, pls_nr ds h.2, Bool.and_self]
end
end DI
namespace DI
open PySem
theorem wl_nx {c : Sl → AH → R Bool} {b : Sl → AH → O} {n : Nat} {s s' : Sl} {h h' : AH} (hc : c s h = .ok true h) (hb : b s h = .nx s' h') : whiles c b (n + 1) s h = whiles c b n s' h' := by
  rw [whiles, hc, R.to_ok]
  simp only
  rw [hb, O.turn_nx]
theorem cut_behind {pre w post : List Nat} {e : Int} (he : e = pre.length + w.length) : cutL (pre ++ w ++ post) (some e) (some (e + 1)) = post.take 1 := by
  exact cut_post (pre := pre ++ w) (n := 1) (by rw [he]; simp) rfl
theorem s_wend' (k : Nat) (pre w post : List Nat) (h : AH) {tx : List Nat} {a e : Int} (et : tx = pre ++ w ++ post) (ea : a = pre.length) (ee : e = a + w.length) (ha : ∀ c ∈ w, An c) (hd : Dl post) (hn : w.length < 100000) : A (k + 1) 2 [.str tx, .int a] h = .ok (.int e) h := by
  subst et ea ee
  exact s_wend k pre w post h ha hd hn
theorem cut_at {tx pre : List Nat} {c : Nat} {post : List Nat} {b : Int} (et : tx = pre ++ (c :: post)) (eb : b = pre.length) : cutL tx (some b) (some (b + 1)) = [c] := by
  subst et
  exact cut_post (pre := pre) (post := c :: post) (n := 1) eb rfl
end DI
namespace DI
open PySem
theorem whole_ok (k : Nat) (i : Int) (h : AH) : A (k + 1) 8 [.int i] h = .ok (.bl true) h := by
  refine ap_ok (fn := f__law_whole) (h' := []) rfl rfl rfl ?_ rfl
  simp [f__law_whole, st0, isCl]
theorem same_ok : ∀ (n k : Nat) (d : D) (h : AH), d.pl = true → d.dep ≤ n → n ≤ k → A (k + 2) 9 [d, d] h = .ok (.bl true) h := by
  intro n
  induction n with
  | zero =>
    intro k d h hp hd hk
    refine ap_ok (fn := f__law_same) (h' := []) rfl rfl (by simp [norefs, pl_nr d hp]) ?_ rfl
    cases d with
    | str x => simp [f__law_same, st0, isCl]
    | int i => simp [f__law_same, st0, isCl, whole_ok k i]
    | tup ds => simp [D.dep] at hd
    | _ => cases hp
  | succ n ih =>
    intro k d h hp hd hk
    refine ap_ok (fn := f__law_same) (h' := []) rfl rfl (by simp [norefs, pl_nr d hp]) ?_ rfl
    cases d with
    | str x => simp [f__law_same, st0, isCl]
    | int i => simp [f__law_same, st0, isCl, whole_ok k i]
    | tup ds =>
      obtain ⟨k, rfl⟩ : ∃ k', k = k' + 1 := ⟨k - 1, by omega⟩
      have hds : pls ds = true := hp
      have hdd : deps ds ≤ n := by simp only [D.dep] at hd; omega
      have lp : ∀ (es : List D) (a b c e : Option D), (∀ x ∈ es, x ∈ ds) → ∃ s, loop (evSs (A (k + 2)) (.cons (.ifs (.not_ (.call 9 (.cons (.var 2) (.cons (.var 3) .nil)))) (.cons (.ret (.cst (.bl false))) .nil) .nil) .nil)) (.tp [2, 3]) (List.zipWith (fun x y => D.tup [x, y]) es es) [a, b, c, e] [] = .nx s [] := by
        intro es
        induction es with
        | nil => intro a b c e _; exact ⟨_, rfl⟩
        | cons x es ihe =>
          intro a b c e hx
          obtain ⟨s, hs⟩ := ihe a b (some x) (some x) fun y hy => hx y (by simp [hy])
          refine ⟨s, ?_⟩
          obtain ⟨h1, h2⟩ := pl_mem hds (hx x (by simp))
          have hxx := ih k x [] h1 (by omega) (by omega)
          rw [List.zipWith_cons_cons, loop_step (s1 := [a, b, some x, some x]) (s2 := [a, b, some x, some x]) (h2 := []) rfl (by simp [hxx])]
          exact hs
      obtain ⟨s, hs⟩ := lp ds (some (.tup ds)) (some (.tup ds)) none none fun _ h => h
      rw [List.zipWith_self] at hs
      simp [f__law_same, st0, isCl, hs]
    | _ => cases hp
end DI
set_option Elab.async false
set_option linter.all false
set_option maxRecDepth 100000
namespace DI
open PySem
/-! trees -/
inductive Tr where
  | nd (nm : List Nat) (mk : Nat) (ks : List Tr)
mutual
def Tr.d : Tr → D
  | .nd nm mk ks => .tup [.str nm, .int mk, .tup (Tr.ds ks)]
def Tr.ds : List Tr → List D
  | [] => []
  | t :: ts => t.d :: Tr.ds ts
end
def mkW (m : Nat) : List Nat := if m = 0 then [] else 58 :: digs (m : Int)
mutual
def Tr.w : Tr → List Nat
  | .nd nm mk ks => nm ++ mkW mk ++ (if ks.isEmpty then [] else 40 :: (joinL [32] (Tr.ws ks) ++ [41]))
def Tr.ws : List Tr → List (List Nat)
  | [] => []
  | t :: ts => t.w :: Tr.ws ts
end
mutual
def Tr.sz : Tr → Nat
  | .nd _ _ ks => 1 + Tr.szs ks
def Tr.szs : List Tr → Nat
  | [] => 0
  | t :: ts => t.sz + Tr.szs ts
end
mutual
def Tr.ht : Tr → Nat
  | .nd _ _ ks => 1 + Tr.hts ks
def Tr.hts : List Tr → Nat
  | [] => 0
  | t :: ts => max t.ht (Tr.hts ts)
end
mutual
def Tr.ok : Tr → Prop
  | .nd nm mk ks => Nam nm ∧ mk < 10 ^ 18 ∧ Tr.oks ks
def Tr.oks : List Tr → Prop
  | [] => True
  | t :: ts => t.ok ∧ Tr.oks ts
end
theorem Tr.ds_eq : ∀ ts, Tr.ds ts = ts.map Tr.d
  | [] => rfl
  | t :: ts => by simp [Tr.ds, Tr.ds_eq ts]
theorem Tr.ws_eq : ∀ ts, Tr.ws ts = ts.map Tr.w
  | [] => rfl
  | t :: ts => by simp [Tr.ws, Tr.ws_eq ts]
theorem Tr.oks_iff : ∀ ts, Tr.oks ts ↔ ∀ t ∈ ts, t.ok
  | [] => by simp [Tr.oks]
  | t :: ts => by simp [Tr.oks, Tr.oks_iff ts]
theorem Tr.szs_eq : ∀ ts, Tr.szs ts = (ts.map Tr.sz).sum
  | [] => rfl
  | t :: ts => by simp [Tr.szs, Tr.szs_eq ts]
mutual
theorem Tr.pl : ∀ t : Tr, t.d.pl = true ∧ t.d.dep ≤ 2 * t.ht
  | .nd nm mk ks => by
    obtain ⟨h1, h2⟩ := Tr.pls ks
    refine ⟨by simp [Tr.d, D.pl, DI.pls, h1], ?_⟩
    simp only [Tr.d, D.dep, deps, Tr.ht]
    omega
theorem Tr.pls : ∀ ts : List Tr, DI.pls (Tr.ds ts) = true ∧ deps (Tr.ds ts) ≤ 2 * Tr.hts ts
  | [] => ⟨rfl, by simp [Tr.ds, deps]⟩
  | t :: ts => by
    obtain ⟨h1, h2⟩ := Tr.pl t
    obtain ⟨h3, h4⟩ := Tr.pls ts
    refine ⟨by simp [Tr.ds, DI.pls, h1, h3], ?_⟩
    simp only [Tr.ds, deps, Tr.hts]
    omega
end
theorem Tr.nr (t : Tr) : t.d.noref = true := pl_nr _ (Tr.pl t).1
theorem Tr.nrs (ts : List Tr) : norefs (Tr.ds ts) = true := pls_nr _ (Tr.pls ts).1
mutual
theorem pl_dat : ∀ d : D, d.pl = true → d.dat = true
  | .str _, _ => rfl
  | .int _, _ => rfl
  | .tup ds, h => by simp only [D.dat]; exact pls_dat ds h
  | .non, h => by cases h
  | .bl _, h => by cases h
  | .lst _, h => by cases h
  | .scr _, h => by cases h
  | .ref _, h => by cases h
theorem pls_dat : ∀ ds : List D, pls ds = true → dats ds = true
  | [], _ => rfl
  | d :: ds, h => by
    simp only [DI.pls, Bool.and_eq_true] at h
    simp only [dats, pl_dat d h.1, pls_dat ds h.2, Bool.and_self]
end
theorem Tr.sz_pos : ∀ t : Tr, 1 ≤ t.sz
  | .nd _ _ _ => by simp only [Tr.sz]; omega
theorem Tr.ht_pos : ∀ t : Tr, 1 ≤ t.ht
  | .nd _ _ _ => by simp only [Tr.ht]; omega
theorem Tr.ht_mem : ∀ {ts : List Tr} {t : Tr}, t ∈ ts → t.ht ≤ Tr.hts ts
  | [], _, h => by cases h
  | a :: ts, t, h => by
    simp only [Tr.hts]
    rcases List.mem_cons.mp h with rfl | h
    · omega
    · have := Tr.ht_mem h; omega
theorem Tr.sz_mem : ∀ {ts : List Tr} {t : Tr}, t ∈ ts → t.sz ≤ Tr.szs ts
  | [], _, h => by cases h
  | a :: ts, t, h => by
    simp only [Tr.szs]
    rcases List.mem_cons.mp h with rfl | h
    · omega
    · have := Tr.sz_mem h; omega
theorem len_szs : ∀ ts : List Tr, ts.length ≤ Tr.szs ts
  | [] => by simp
  | t :: ts => by
    have := Tr.sz_pos t
    have := len_szs ts
    simp only [Tr.szs, List.length_cons]
    omega
theorem digs_len {n : Nat} (h : n < 10 ^ 18) : (digs (n : Int)).length ≤ 18 := by rw [digs_num]; exact TL.numL_len (by decide) h
theorem mkW_len {m : Nat} (h : m < 10 ^ 18) : (mkW m).length ≤ 19 := by
  unfold mkW
  split
  · simp
  · have := digs_len h
    simp only [List.length_cons]; omega
theorem joinW_len : ∀ (xs : List (List Nat)), (joinL [32] xs).length ≤ (xs.map (·.length)).sum + xs.length
  | [] => by simp [joinL]
  | [x] => by simp [joinL]
  | x :: y :: r => by
    have := joinW_len (y :: r)
    rw [joinL]
    · simp only [List.length_append, List.map_cons, List.sum_cons, List.length_cons, List.length_nil] at *
      omega
    · simp
mutual
theorem Tr.w_len : ∀ t : Tr, t.ok → t.w.length + 1 ≤ 31 * t.sz
  | .nd nm mk ks, h => by
    simp only [Tr.ok] at h
    obtain ⟨h1, h2, h3⟩ := h
    have a1 := h1.hi
    have a2 := mkW_len h2
    have a3 := Tr.ws_len ks h3
    have a4 := joinW_len (Tr.ws ks)
    have a5 : (Tr.ws ks).length = ks.length := by rw [Tr.ws_eq]; simp
    simp only [Tr.w, Tr.sz, List.length_append]
    split
    · simp only [List.length_nil]; omega
    · simp only [List.length_cons, List.length_append, List.length_nil]
      omega
theorem Tr.ws_len : ∀ ts : List Tr, Tr.oks ts → ((Tr.ws ts).map (·.length)).sum + ts.length ≤ 31 * Tr.szs ts
  | [], _ => by simp [Tr.ws]
  | t :: ts, h => by
    simp only [Tr.oks] at h
    have := Tr.w_len t h.1
    have := Tr.ws_len ts h.2
    simp only [Tr.ws, List.map_cons, List.sum_cons, Tr.szs, List.length_cons] at *
    omega
end
/-! shown -/
theorem join_w {h : AH} {xs : List (List Nat)} (hl : (xs.map (·.length)).sum + xs.length ≤ 16777216) : joinD h (.str (S " ")) (.lst (xs.map D.str)) = some (.str (joinL [32] xs)) := by
  have e : S " " = [32] := by decide
  rw [e]
  have g : getStrs (xs.map D.str) = some xs := by
    have := getStrs_map (l := xs) (g := fun x => x)
    simpa using this
  simp only [joinD, asL, Option.bind_some, g, List.length_cons, List.length_nil]
  rw [if_pos (by simpa using hl)]
theorem tup_nilE (h : AH) (ks : List Tr) : eqD h (.tup (Tr.ds ks)) (.tup []) = some ks.isEmpty := by
  rw [tup_nil h _ (pls_dat _ (Tr.pls ks).1)]
  cases ks <;> rfl
def shK : Sxs := (.cons (.ifs (.cmp .Eq (.idx (.var 0) (.cst (.int 2))) (.tup .nil)) (.cons (.ret (.var 1))
    .nil) .nil)
    (.cons (.ret (.bin .Add false (.bin .Add false (.bin .Add false (.var 1) (.cst (.str (S "(")))) (.me .join false (.cst (.str (S " "))) (.cons (.comp false [2] (.nm 2) (.any (.idx (.var 0) (.cst (.int 2)))) .no (.call 3 (.cons (.var 2) .nil))) .nil))) (.cst (.str (S ")")))))
    .nil))
theorem sh_eq : f_show_tree = ⟨1, 3, true, (.cons (.set 1 (.idx (.var 0) (.cst (.int 0))))
    (.cons (.ifs (.cmp .NotEq (.idx (.var 0) (.cst (.int 1))) (.cst (.int 0))) (.cons (.set 1 (.bin .Add false (.bin .Add false (.var 1) (.cst (.str (S ":")))) (.bi .str false (.cons (.idx (.var 0) (.cst (.int 1))) .nil))))
    .nil) .nil) shK))⟩ := rfl
theorem sh_head {F : FC} {nm : List Nat} {mk : Nat} {K : D} (h1 : nm.length ≤ 8) (h2 : mk < 10 ^ 18) (h : AH) : evSs F f_show_tree.body [some (.tup [.str nm, .int mk, K]), none, none] h = evSs F shK [some (.tup [.str nm, .int mk, K]), some (.str (nm ++ mkW mk)), none] h := by
  have e58 : S ":" = [58] := by decide
  have a2 := digs_len h2
  have hb' : mk < 1000000000000000000000000000000 := by omega
  have l3 : nm.length + 1 ≤ 16777216 := by omega
  have l4 : nm.length + 1 + (digs (mk : Int)).length ≤ 16777216 := by omega
  rw [sh_eq]
  generalize shK = T
  by_cases hm : mk = 0
  · subst hm
    simp [mkW]
  · simp [mkW, hm, hb', e58, l3, l4]
theorem show_ok : ∀ (k : Nat) (t : Tr) (h : AH), t.ok → t.ht ≤ k + 1 → t.sz ≤ 1000 → A (k + 1) 3 [t.d] h = .ok (.str t.w) h := by
  intro k
  induction k with
  | zero =>
    intro t h ho hh hz
    obtain ⟨nm, mk, ks⟩ := t
    cases ks with
    | cons a r =>
      simp only [Tr.ht, Tr.hts] at hh
      have := Tr.ht_pos a
      omega
    | nil =>
      simp only [Tr.ok] at ho
      refine ap_ok (fn := f_show_tree) (h' := []) rfl rfl (by simp [norefs, Tr.nr]) ?_ rfl
      have q0 : eqD [] (.tup []) (.tup []) = some true := tup_nilE [] []
      show ran (evSs (A 0) f_show_tree.body [some (.tup [.str nm, .int mk, .tup []]), none, none] []) = _
      rw [sh_head ho.1.hi ho.2.1]
      simp [shK, Tr.w, q0]
  | succ k ih =>
    intro t h ho hh hz
    obtain ⟨nm, mk, ks⟩ := t
    have hwl := Tr.w_len _ ho
    simp only [Tr.ok] at ho
    simp only [Tr.ht] at hh
    simp only [Tr.sz] at hz hwl
    refine ap_ok (fn := f_show_tree) (h' := []) rfl rfl (by simp [norefs, Tr.nr]) ?_ rfl
    have q0 := tup_nilE [] ks
    have hc : ∀ a b : Option D, compL (.nm 2) (evC (A (k + 1)) .no) (ev (A (k + 1)) (.call 3 (.cons (.var 2) .nil))) [a, b, none] (ks.map Tr.d) [] = .ok (ks.map fun t => .str t.w) [] := fun a b => by
      refine compL_A _ _ fun t ht => ?_
      have := ih t [] ((Tr.oks_iff ks).mp ho.2.2 t ht) (by have := Tr.ht_mem ht; omega) (by have := Tr.sz_mem ht; omega)
      simp [this]
    have ws := Tr.ws_len ks ho.2.2
    have wl : (Tr.ws ks).length = ks.length := by rw [Tr.ws_eq]; simp
    have hj : joinD [] (.str (S " ")) (.lst (ks.map fun t => .str t.w)) = some (.str (joinL [32] (Tr.ws ks))) := by
      have := join_w (h := []) (xs := Tr.ws ks) (by omega)
      rw [Tr.ws_eq] at this ⊢
      rw [List.map_map] at this
      exact this
    have kl : (ks.map fun t => D.str t.w).length ≤ 16777216 := by have := len_szs ks; simp; omega
    have a1 := ho.1.hi
    have a2 := mkW_len ho.2.1
    have jl := joinW_len (Tr.ws ks)
    have e40 : S "(" = [40] := by decide
    have e41 : S ")" = [41] := by decide
    rw [← Tr.ds_eq] at hc
    show ran (evSs (A (k + 1)) f_show_tree.body [some (.tup [.str nm, .int mk, .tup (Tr.ds ks)]), none, none] []) = _
    rw [sh_head ho.1.hi ho.2.1]
    simp only [Tr.w]
    cases hk : ks.isEmpty with
    | true =>
      rw [hk] at q0
      simp [shK, q0]
    | false =>
      rw [hk] at q0
      generalize Tr.ds ks = DS at *
      generalize joinL [32] (Tr.ws ks) = J at *
      generalize (ks.map fun t => D.str t.w) = WS at *
      generalize mkW mk = M at *
      have l0 : nm.length + M.length + 1 ≤ 16777216 := by omega
      have l5 : nm.length + (M.length + 1) ≤ 16777216 := by omega
      have l6 : nm.length + (M.length + (1 + J.length)) ≤ 16777216 := by omega
      have l7 : nm.length + (M.length + (J.length + 1)) ≤ 16777216 := by omega
      have l8 : nm.length + (M.length + (J.length + 1 + 1)) ≤ 16777216 := by omega
      have l9 : nm.length + (M.length + (J.length + 1)) + 1 ≤ 16777216 := by omega
      have l10 : nm.length + M.length + 1 + J.length ≤ 16777216 := by omega
      have l11 : nm.length + M.length + 1 + J.length + 1 ≤ 16777216 := by omega
      have l12 : nm.length + (M.length + 1) + J.length ≤ 16777216 := by omega
      simp [shK, q0, hc, kl, hj, e40, e41, l0, l5, l6, l7, l8, l9, l10, l11, l12]
end DI
set_option Elab.async false
set_option linter.all false
set_option maxRecDepth 100000
namespace DI
open PySem
theorem ltr_an {w : List Nat} (h : ∀ c ∈ w, c ∈ ltr) : ∀ c ∈ w, An c := fun c m => .inl (h c m)
theorem fig_an (n : Nat) : ∀ c ∈ digs (n : Int), An c := fun c m => by
  rw [digs_num] at m
  exact .inr (numL_an n c m)
theorem not_an {c : Nat} (h : c ∈ [32, 40, 41, 58]) : ¬ An c := by
  have : ∀ c ∈ [32, 40, 41, 58], ¬ (c ∈ ltr ∨ c ∈ fig) := by decide +kernel
  exact this c h
theorem dl_nil : Dl [] := fun c h => by simp at h
theorem dl_of {c : Nat} {r : List Nat} (h : c ∈ [32, 40, 41, 58]) : Dl (c :: r) := fun c' h' => by
  simp at h'
  subst h'
  exact not_an h
/-- what stands behind a tree -/
def Dt (post : List Nat) : Prop := ∀ c, post[0]? = some c → c = 32 ∨ c = 41
theorem Dt.dl {post : List Nat} (h : Dt post) : Dl post := fun c hc => by
  rcases h c hc with rfl | rfl
  · exact not_an (by simp)
  · exact not_an (by simp)
theorem Dt.ne {post : List Nat} (h : Dt post) {x : Nat} (hx : x ≠ 32 ∧ x ≠ 41) : post.take 1 ≠ [x] := by
  cases post with
  | nil => simp
  | cons c r =>
    simp
    rcases h c rfl with rfl | rfl
    · exact fun z => hx.1 z.symm
    · exact fun z => hx.2 z.symm
/-- a mark, or none -/
theorem s_mark (k m : Nat) (pre post : List Nat) (h : AH) (hm : m < 10 ^ 18) (hd : Dl post) (hp : post.take 1 ≠ [58]) {tx : List Nat} {a e : Int} (et : tx = pre ++ mkW m ++ post) (ea : a = pre.length) (ee : e = a + (mkW m).length) :
    A (k + 2) 4 [.str tx, .int a] h = .ok (.tup [.int m, .int e]) h := by
  refine ap_ok (fn := f_read_mark) (h' := []) rfl rfl rfl ?_ rfl
  have e58 : S ":" = [58] := by decide
  by_cases hz : m = 0
  · subst hz
    have e0 : mkW 0 = [] := rfl
    rw [e0] at et ee
    have hc : cutL tx (some a) (some (a + 1)) = post.take 1 := by
      rw [et]
      exact cut_behind (w := []) (by rw [ea]; simp)
    have : e = a := by rw [ee]; simp
    subst this
    simp [f_read_mark, st0, hc, e58, hp]
  · have e0 : mkW m = 58 :: digs (m : Int) := by simp [mkW, hz]
    rw [e0] at et ee
    have hc : cutL tx (some a) (some (a + 1)) = [58] := cut_at (pre := pre) (post := digs (m : Int) ++ post) (by rw [et]; simp) ea
    have we : ∀ h, A (k + 1) 2 [.str tx, .int (a + 1)] h = .ok (.int e) h := fun h => s_wend' k (pre ++ [58]) (digs (m : Int)) post h (by rw [et]; simp) (by rw [ea]; simp) (by rw [ee]; simp only [List.length_cons]; omega) (fig_an m) hd (by have := digs_len hm; omega)
    have cm : cutL tx (some (a + 1)) (some e) = digs (m : Int) := by
      have := cut_mid (pre := pre ++ [58]) (w := digs (m : Int)) (post := post) (a := a + 1) (b := e) (by rw [ea]; simp) (by rw [ee, ea]; simp only [List.length_cons, List.length_append, List.length_nil]; omega)
      rw [et]
      simpa using this
    have nu : ∀ h, A (k + 1) 1 [.str (digs (m : Int))] h = .ok (.int m) h := fun h => s_number k m hm h
    have hz' : ¬ (m : Int) = 0 := by omega
    simp [f_read_mark, st0, hc, e58, we, cm, nu, hz', hz]
/-! a node -/
def rdW : Sxs := (.cons (.unp [9, 1, 3] (.call 5 (.cons (.var 0) (.cons (.bin .Add false (.var 1) (.cst (.int 1))) (.cons (.bin .Add false (.var 2) (.cst (.int 1))) (.cons (.var 3) .nil))))))
    (.cons (.expr (.me .append false (.var 7) (.cons (.var 9) .nil)))
    (.cons (.set 8 (.sli false (.var 0) (.yes (.var 1)) (.yes (.bin .Add false (.var 1) (.cst (.int 1))))))
    .nil)))
def rdC : Ex := (.cmp .Eq (.var 8) (.cst (.str (S " "))))
def rdK : Sxs := (.cons (.ifs (.cmp .NotEq (.sli false (.var 0) (.yes (.var 1)) (.yes (.bin .Add false (.var 1) (.cst (.int 1))))) (.cst (.str (S "(")))) (.cons (.ret (.tup (.cons (.tup (.cons (.var 5) (.cons (.var 6) (.cons (.tup .nil) .nil)))) (.cons (.var 1) (.cons (.var 3) .nil)))))
    .nil) .nil)
    (.cons (.set 7 (.lst true .nil))
    (.cons (.set 8 (.cst (.str (S " "))))
    (.cons (.while_ rdC rdW)
    (.cons (.ifs (.cmp .NotEq (.var 8) (.cst (.str (S ")")))) (.cons (.raise_ 1)
    .nil) .nil)
    (.cons (.ret (.tup (.cons (.tup (.cons (.var 5) (.cons (.var 6) (.cons (.bi .tuple false (.cons (.var 7) .nil)) .nil)))) (.cons (.bin .Add false (.var 1) (.cst (.int 1))) (.cons (.var 3) .nil)))))
    .nil))))))
theorem rd_eq : f_read_node = ⟨4, 10, true, (.cons (.ifs (.or_ (.cmp .Gt (.var 2) (.cst (.int 20))) (.cmp .Eq (.var 3) (.cst (.int 0)))) (.cons (.raise_ 2)
    .nil) .nil)
    (.cons (.set 4 (.call 2 (.cons (.var 0) (.cons (.var 1) .nil))))
    (.cons (.set 5 (.sli false (.var 0) (.yes (.var 1)) (.yes (.var 4))))
    (.cons (.ifs (.not_ (.call 0 (.cons (.var 5) .nil))) (.cons (.raise_ 1)
    .nil) .nil)
    (.cons (.unp [6, 1] (.call 4 (.cons (.var 0) (.cons (.var 4) .nil))))
    (.cons (.set 3 (.bin .Sub false (.var 3) (.cst (.int 1))))
    rdK))))))⟩ := rfl
theorem rd_head {k : Nat} {tx pre post nm : List Nat} {mk : Nat} {a e1 e2 lv lf : Int} {h : AH} (hn : Nam nm) (hm : mk < 10 ^ 18) (hlv : lv ≤ 20) (hlf : lf ≠ 0) (hd : Dl post) (hp : post.take 1 ≠ [58])
    (et : tx = pre ++ nm ++ mkW mk ++ post) (ea : a = pre.length) (h1 : e1 = a + nm.length) (h2 : e2 = e1 + (mkW mk).length) :
    evSs (A (k + 2)) f_read_node.body (st0 f_read_node [.str tx, .int a, .int lv, .int lf]) h = evSs (A (k + 2)) rdK [some (.str tx), some (.int e2), some (.int lv), some (.int (lf - 1)), some (.int e1), some (.str nm), some (.int mk), none, none, none] h := by
  have hdl : Dl (mkW mk ++ post) := by
    unfold mkW
    split
    · simpa using hd
    · exact dl_of (by simp)
  have we : ∀ h, A (k + 2) 2 [.str tx, .int a] h = .ok (.int e1) h := fun h => s_wend' (k + 1) pre nm (mkW mk ++ post) h (by rw [et]; simp) ea h1 (ltr_an hn.lt) hdl (by have := hn.hi; omega)
  have cm : cutL tx (some a) (some e1) = nm := by
    have := cut_mid (pre := pre) (w := nm) (post := mkW mk ++ post) (a := a) (b := e1) ea (by rw [h1, ea])
    rw [et]
    simpa using this
  have nn : ∀ h, A (k + 2) 0 [.str nm] h = .ok (.bl true) h := fun h => s_name' (k + 1) nm h hn
  have mm : ∀ h, A (k + 2) 4 [.str tx, .int e1] h = .ok (.tup [.int mk, .int e2]) h := fun h => s_mark k mk (pre ++ nm) post h hm hd hp (by rw [et]) (by rw [h1, ea]; simp) h2
  have hlv' : ¬ 20 < lv := by omega
  rw [rd_eq]
  generalize rdK = T
  simp [st0, we, cm, nn, mm, hlv', hlf]
def RdT (t : Tr) (k : Nat) : Prop := ∀ (pre post : List Nat) (lv lf : Int) (h : AH) (tx : List Nat) (a b f : Int), Dt post → lv + t.ht ≤ 21 → (t.sz : Int) ≤ lf → tx = pre ++ t.w ++ post → a = pre.length → b = a + t.w.length → f = lf - t.sz →
    A k 5 [.str tx, .int a, .int lv, .int lf] h = .ok (.tup [t.d, .int b, .int f]) h
theorem kids_ok {k : Nat} {tx : List Nat} {lv : Int} {x4 x5 x6 : Option D} : ∀ (ks : List Tr) (pre post : List Nat) (c : Nat) (acc : List D) (a b lf f : Int) (x9 : Option D) (n : Nat), ks ≠ [] → (∀ t ∈ ks, RdT t k) → lv + 1 + Tr.hts ks ≤ 21 → (Tr.szs ks : Int) ≤ lf → acc.length + ks.length ≤ 1000 →
    tx = pre ++ (c :: (joinL [32] (Tr.ws ks) ++ 41 :: post)) → a = pre.length → b = a + 1 + (joinL [32] (Tr.ws ks)).length → f = lf - Tr.szs ks → ks.length < n →
    ∃ x9', whiles (fun s h => tr (ev (A k) rdC s h)) (evSs (A k) rdW) n [some (.str tx), some (.int a), some (.int lv), some (.int lf), x4, x5, x6, some (.ref 0), some (.str (S " ")), x9] [.lst acc] =
      .nx [some (.str tx), some (.int b), some (.int lv), some (.int f), x4, x5, x6, some (.ref 0), some (.str (S ")")), x9'] [.lst (acc ++ Tr.ds ks)] := by
  intro ks
  have e32 : S " " = [32] := by decide
  have e41 : S ")" = [41] := by decide
  have cT : ∀ (a lf : Int) (x9 : Option D) (H : AH), tr (ev (A k) rdC [some (.str tx), some (.int a), some (.int lv), some (.int lf), x4, x5, x6, some (.ref 0), some (.str [32]), x9] H) = .ok true H := fun a lf x9 H => by
    simp [rdC, e32]
  have cF : ∀ (a lf : Int) (x9 : Option D) (H : AH), tr (ev (A k) rdC [some (.str tx), some (.int a), some (.int lv), some (.int lf), x4, x5, x6, some (.ref 0), some (.str [41]), x9] H) = .ok false H := fun a lf x9 H => by
    simp [rdC, e32]
  have turn : ∀ (t : Tr) (a b lf f : Int) (acc : List D) (x9 : Option D) (g : Nat), A k 5 [.str tx, .int (a + 1), .int (lv + 1), .int lf] [.lst acc] = .ok (.tup [t.d, .int b, .int f]) [.lst acc] → acc.length < 1000 → cutL tx (some b) (some (b + 1)) = [g] →
      evSs (A k) rdW [some (.str tx), some (.int a), some (.int lv), some (.int lf), x4, x5, x6, some (.ref 0), some (.str [32]), x9] [.lst acc] = .nx [some (.str tx), some (.int b), some (.int lv), some (.int f), x4, x5, x6, some (.ref 0), some (.str [g]), some t.d] [.lst (acc ++ [t.d])] := fun t a b lf f acc x9 g q hl hc => by
    have hl' : acc.length < 16777216 := by omega
    simp [rdW, q, hc, hl']
  rw [e32, e41]
  induction ks with
  | nil => intro pre post c acc a b lf f x9 n hne; exact absurd rfl hne
  | cons t r ih =>
    intro pre post c acc a b lf f x9 n hne hr hh hs hl et ea eb ef hn
    obtain ⟨n, rfl⟩ : ∃ n', n = n' + 1 := ⟨n - 1, by omega⟩
    simp only [Tr.hts, Tr.szs, List.length_cons] at hh hs hl hn
    have hrt := hr t (by simp)
    cases r with
    | nil =>
      simp only [Tr.ws, joinL] at et eb
      have q := hrt (pre ++ [c]) (41 :: post) (lv + 1) lf [.lst acc] tx (a + 1) b f (fun x hx => by simp at hx; exact .inr hx.symm) (by omega) (by omega) (by rw [et]; simp) (by rw [ea]; simp) eb (by rw [ef]; simp [Tr.szs])
      have hc : cutL tx (some b) (some (b + 1)) = [41] := cut_at (pre := pre ++ [c] ++ t.w) (post := post) (by rw [et]; simp) (by rw [eb, ea]; simp; omega)
      refine ⟨some t.d, ?_⟩
      rw [whiles, cT, R.to_ok]
      simp only
      rw [turn t a b lf f acc x9 41 q (by omega) hc, O.turn_nx]
      obtain ⟨n, rfl⟩ : ∃ n', n = n' + 1 := ⟨n - 1, by simp at hn; omega⟩
      rw [whiles, cF, R.to_ok]
      simp [Tr.ds]
    | cons u r =>
      have ej : joinL [32] (Tr.ws (t :: u :: r)) = t.w ++ 32 :: joinL [32] (Tr.ws (u :: r)) := by
        simp only [Tr.ws, joinL]
        simp
      rw [ej] at et eb
      have q := hrt (pre ++ [c]) (32 :: (joinL [32] (Tr.ws (u :: r)) ++ 41 :: post)) (lv + 1) lf [.lst acc] tx (a + 1) (a + 1 + t.w.length) (lf - t.sz) (fun x hx => by simp at hx; exact .inl hx.symm) (by omega) (by omega) (by rw [et]; simp) (by rw [ea]; simp) rfl rfl
      have hc : cutL tx (some (a + 1 + t.w.length)) (some (a + 1 + t.w.length + 1)) = [32] := cut_at (pre := pre ++ [c] ++ t.w) (post := joinL [32] (Tr.ws (u :: r)) ++ 41 :: post) (by rw [et]; simp) (by rw [ea]; simp; omega)
      obtain ⟨x9', e⟩ := ih (pre ++ [c] ++ t.w) post 32 (acc ++ [t.d]) (a + 1 + t.w.length) b (lf - t.sz) f (some t.d) n (by simp) (fun x hx => hr x (by simp [hx])) (by omega) (by omega) (by simp only [List.length_append, List.length_cons, List.length_nil] at *; omega) (by rw [et]; simp) (by rw [ea]; simp; omega) (by rw [eb]; simp only [List.length_append, List.length_cons]; omega) (by rw [ef]; simp only [Tr.szs]; omega) (by simp only [List.length_cons] at *; omega)
      refine ⟨x9', ?_⟩
      rw [whiles, cT, R.to_ok]
      simp only
      rw [turn t a _ lf _ acc x9 32 q (by omega) hc, O.turn_nx, e]
      simp [Tr.ds]
theorem read_ok : ∀ (k : Nat) (t : Tr), t.ok → t.ht ≤ k + 1 → t.sz ≤ 900 → RdT t (k + 3) := by
  intro k
  induction k with
  | zero =>
    intro t ho hh hz pre post lv lf h tx a b f hp hlv hlf et ea eb ef
    obtain ⟨nm, mk, ks⟩ := t
    cases ks with
    | cons x r =>
      simp only [Tr.ht, Tr.hts] at hh
      have := Tr.ht_pos x
      omega
    | nil =>
      simp only [Tr.ok] at ho
      simp only [Tr.sz, Tr.szs, Tr.ht, Tr.hts] at hlf hlv ef
      simp [Tr.w] at et eb
      refine ap_ok (fn := f_read_node) (h' := []) rfl rfl rfl ?_ (by simp [D.noref, norefs, Tr.nr])
      show ran (evSs (A (0 + 2)) _ _ _) = _
      rw [rd_head (k := 0) (pre := pre) (post := post) ho.1 ho.2.1 (by omega) (by omega) hp.dl (hp.ne (by decide)) (by rw [et]; simp) ea rfl rfl]
      have hc : cutL tx (some (a + nm.length + (mkW mk).length)) (some (a + nm.length + (mkW mk).length + 1)) = post.take 1 := by
        have := cut_behind (pre := pre) (w := nm ++ mkW mk) (post := post) (e := a + nm.length + (mkW mk).length) (by rw [ea]; simp; omega)
        rw [et]
        simpa using this
      have e40 : S "(" = [40] := by decide
      have hne := hp.ne (x := 40) (by decide)
      have : a + nm.length + (mkW mk).length = b := by omega
      rw [this] at hc ⊢
      have : lf - 1 = f := by omega
      rw [this]
      simp [rdK, hc, e40, hne, Tr.d, Tr.ds]
  | succ k ih =>
    intro t ho hh hz pre post lv lf h tx a b f hp hlv hlf et ea eb ef
    obtain ⟨nm, mk, ks⟩ := t
    simp only [Tr.ok] at ho
    simp only [Tr.sz, Tr.ht] at hlf hlv ef hh hz
    refine ap_ok (fn := f_read_node) (h' := if ks.isEmpty then [] else [.lst (Tr.ds ks)]) rfl rfl rfl ?_ (by simp [D.noref, norefs, Tr.nr])
    show ran (evSs (A (k + 1 + 2)) _ _ _) = _
    have e40 : S "(" = [40] := by decide
    have e41 : S ")" = [41] := by decide
    cases hk : ks.isEmpty with
    | true =>
      have : ks = [] := List.isEmpty_iff.mp hk
      subst this
      simp [Tr.w] at et eb
      simp only [Tr.szs] at ef
      rw [rd_head (k := k + 1) (pre := pre) (post := post) ho.1 ho.2.1 (by omega) (by omega) hp.dl (hp.ne (by decide)) (by rw [et]; simp) ea rfl rfl]
      have hc : cutL tx (some (a + nm.length + (mkW mk).length)) (some (a + nm.length + (mkW mk).length + 1)) = post.take 1 := by
        have := cut_behind (pre := pre) (w := nm ++ mkW mk) (post := post) (e := a + nm.length + (mkW mk).length) (by rw [ea]; simp; omega)
        rw [et]
        simpa using this
      have hne := hp.ne (x := 40) (by decide)
      have : a + nm.length + (mkW mk).length = b := by omega
      rw [this] at hc ⊢
      have : lf - 1 = f := by omega
      rw [this]
      simp [rdK, hc, e40, hne, Tr.d, Tr.ds]
    | false =>
      have hne : ks ≠ [] := fun z => by rw [z] at hk; cases hk
      simp only [Tr.w, hk, Bool.false_eq_true, if_false] at et eb
      rw [rd_head (k := k + 1) (pre := pre) (post := 40 :: (joinL [32] (Tr.ws ks) ++ 41 :: post)) ho.1 ho.2.1 (by omega) (by omega) (dl_of (by simp)) (by simp) (by rw [et]; simp) ea rfl rfl]
      have hc : cutL tx (some (a + nm.length + (mkW mk).length)) (some (a + nm.length + (mkW mk).length + 1)) = [40] := cut_at (pre := pre ++ nm ++ mkW mk) (post := joinL [32] (Tr.ws ks) ++ 41 :: post) (by rw [et]; simp) (by rw [ea]; simp; omega)
      have hsz : ks.length ≤ Tr.szs ks := len_szs ks
      obtain ⟨x9, e⟩ := kids_ok (k := k + 3) (tx := tx) (lv := lv) (x4 := some (.int (a + nm.length))) (x5 := some (.str nm)) (x6 := some (.int mk)) ks (pre ++ nm ++ mkW mk) post 40 [] (a + nm.length + (mkW mk).length) (b - 1) (lf - 1) f none 100000 hne
        (fun t ht => ih t ((Tr.oks_iff ks).mp ho.2.2 t ht) (by have := Tr.ht_mem ht; omega) (by have := Tr.sz_mem ht; omega)) (by omega) (by omega) (by simp; omega) (by rw [et]; simp) (by rw [ea]; simp; omega) (by rw [eb]; simp only [List.length_append, List.length_cons, List.length_nil]; omega) (by rw [ef]; omega) (by omega)
      simp only [Tr.d]
      generalize a + nm.length + (mkW mk).length = p at *
      generalize hlf2 : lf - 1 = lf1 at *
      generalize Tr.ds ks = DS at *
      have s1 : ∀ T, evSs (A (k + 1 + 2)) (.cons (.ifs (.cmp .NotEq (.sli false (.var 0) (.yes (.var 1)) (.yes (.bin .Add false (.var 1) (.cst (.int 1))))) (.cst (.str (S "(")))) (.cons (.ret (.tup (.cons (.tup (.cons (.var 5) (.cons (.var 6) (.cons (.tup .nil) .nil)))) (.cons (.var 1) (.cons (.var 3) .nil)))))
    .nil) .nil)
    (.cons (.set 7 (.lst true .nil))
    (.cons (.set 8 (.cst (.str (S " ")))) T))) [some (.str tx), some (.int p), some (.int lv), some (.int lf1), some (.int (a + nm.length)), some (.str nm), some (.int mk), none, none, none] [] = evSs (A (k + 1 + 2)) T [some (.str tx), some (.int p), some (.int lv), some (.int lf1), some (.int (a + nm.length)), some (.str nm), some (.int mk), some (.ref 0), some (.str (S " ")), none] [.lst []] := fun T => by
        clear e
        simp [hc, e40]
      rw [rdK, s1, evSs_cons, evS_while]
      have e : whiles (fun s h => tr (ev (A (k + 1 + 2)) rdC s h)) (evSs (A (k + 1 + 2)) rdW) 100000 _ _ = _ := e
      rw [e, O.seq_nx]
      clear e s1
      have et := ref_tuple (h := [.lst DS]) (n := 0) (es := DS) rfl
      simp [et]
end DI
set_option Elab.async false
set_option linter.all false
set_option maxRecDepth 100000
namespace DI
open PySem
theorem read_tree_ok (k : Nat) (t : Tr) (h : AH) (ho : t.ok) (hk : t.ht ≤ k + 1) (hh : t.ht ≤ 20) (hz : t.sz ≤ 60) : A (k + 4) 6 [.str t.w] h = .ok t.d h := by
  have r := fun h => read_ok k t ho hk (by omega) [] [] 1 60 h t.w 0 t.w.length (60 - t.sz) (fun c hc => by simp at hc) (by omega) (by omega) (by simp) rfl (by omega) rfl
  refine ap_ok (fn := f_read_tree) (h' := []) rfl rfl rfl ?_ t.nr
  simp [f_read_tree, st0, r]
/-! written out by a stack -/
inductive Itm where
  | ss (x : List Nat) | tt (u : Tr)
def Itm.d : Itm → D
  | .ss x => .str x
  | .tt u => u.d
def Itm.w : Itm → List Nat
  | .ss x => x
  | .tt u => u.w
mutual
def Tr.cost : Tr → Nat
  | .nd _ _ ks => 2 + Tr.costs ks
def Tr.costs : List Tr → Nat
  | [] => 0
  | t :: ts => t.cost + 1 + Tr.costs ts
end
def Itm.cost : Itm → Nat
  | .ss _ => 1
  | .tt u => u.cost
def costI (l : List Itm) : Nat := (l.map Itm.cost).sum
def txtI (l : List Itm) : List Nat := (l.reverse.map Itm.w).flatten
def prs (ks : List Tr) : List Itm := (ks.reverse.map fun k => [Itm.tt k, .ss [32]]).flatten
mutual
theorem Tr.cost_le : ∀ t : Tr, t.cost + 1 ≤ 3 * t.sz
  | .nd _ _ ks => by
    have := Tr.costs_le ks
    simp only [Tr.cost, Tr.sz]; omega
theorem Tr.costs_le : ∀ ts : List Tr, Tr.costs ts ≤ 3 * Tr.szs ts
  | [] => by simp [Tr.costs]
  | t :: ts => by
    have := Tr.cost_le t
    have := Tr.costs_le ts
    simp only [Tr.costs, Tr.szs]; omega
end
theorem Itm.cost_pos (i : Itm) : 1 ≤ i.cost := by
  cases i with
  | ss x => exact Nat.le_refl _
  | tt t => cases t; simp only [Itm.cost, Tr.cost]; omega
theorem costI_app (a b : List Itm) : costI (a ++ b) = costI a + costI b := by simp [costI]
theorem costI_len : ∀ l : List Itm, l.length ≤ costI l
  | [] => by simp
  | a :: l => by
    have := a.cost_pos
    have := costI_len l
    simp only [costI, List.map_cons, List.sum_cons, List.length_cons] at *
    omega
theorem txtI_app (a b : List Itm) : txtI (a ++ b) = txtI b ++ txtI a := by simp [txtI]
theorem prs_cons (a : Tr) (r : List Tr) : prs (a :: r) = prs r ++ [.tt a, .ss [32]] := by simp [prs]
theorem prs_cost : ∀ ks : List Tr, costI (prs ks) = Tr.costs ks
  | [] => rfl
  | a :: r => by
    rw [prs_cons, costI_app, prs_cost r]
    simp only [costI, List.map_cons, List.sum_cons, List.map_nil, List.sum_nil, Itm.cost, Tr.costs]
    omega
theorem prs_txt : ∀ ks : List Tr, txtI (prs ks) = (ks.map fun k => 32 :: k.w).flatten
  | [] => rfl
  | a :: r => by
    rw [prs_cons, txtI_app, prs_txt r]
    simp [txtI, Itm.w]
theorem joinW_cons : ∀ (a : Tr) (r : List Tr), joinL [32] (Tr.ws (a :: r)) = a.w ++ (r.map fun k => 32 :: k.w).flatten
  | a, [] => by simp [Tr.ws, joinL]
  | a, b :: r => by
    have := joinW_cons b r
    simp only [Tr.ws, joinL] at *
    rw [this]
    simp
def Itm.ok : Itm → Prop
  | .ss _ => True
  | .tt u => u.ok
structure JW (B : Nat) (W : List Nat) (h : AH) (n : Nat) (rows : List (List Nat)) (lf : List Itm) : Prop where
  n0 : n ≠ 0
  h0 : h[0]? = some (.lst (rows.map D.str))
  hn : h[n]? = some (.lst (lf.map Itm.d))
  tx : rows.flatten ++ txtI lf = W
  ok : ∀ i ∈ lf, i.ok
  b : rows.length + 2 * costI lf ≤ B
def wrA : Sxs := (.cons (.expr (.me .append false (.var 2) (.cons (.cst (.str (S ")"))) .nil)))
    (.cons (.for_ (.nm 4) (.rev (.idx (.var 3) (.cst (.int 2)))) (.cons (.set 2 (.bin .Add true (.var 2) (.lst false (.cons (.var 4) (.cons (.cst (.str (S " "))) .nil)))))
    .nil))
    (.cons (.setI (.var 2) (.neg (.cst (.int 1))) (.cst (.str (S "("))))
    .nil)))
def wrB : Sxs := (.cons (.expr (.me .append false (.var 1) (.cons (.idx (.var 3) (.cst (.int 0))) .nil)))
    (.cons (.ifs (.cmp .Gt (.idx (.var 3) (.cst (.int 1))) (.cst (.int 0))) (.cons (.expr (.me .append false (.var 1) (.cons (.bin .Add false (.cst (.str (S ":"))) (.bi .str false (.cons (.idx (.var 3) (.cst (.int 1))) .nil))) .nil)))
    .nil) .nil)
    (.cons (.ifs (.cmp .NotEq (.idx (.var 3) (.cst (.int 2))) (.tup .nil)) wrA .nil)
    .nil)))
def wrL : Sxs := (.cons (.set 3 (.me .pop false (.var 2) .nil))
    (.cons (.ifs (.isi (.var 3) [.str]) (.cons (.expr (.me .append false (.var 1) (.cons (.var 3) .nil)))
    .nil) wrB)
    .nil))
theorem wr_eq : f__law_written = ⟨1, 5, true, (.cons (.set 1 (.lst true .nil))
    (.cons (.set 2 (.lst true (.cons (.var 0) .nil)))
    (.cons (.while_ (.cmp .NotEq (.var 2) (.lst false .nil)) wrL)
    (.cons (.ret (.me .join false (.cst (.str (S ""))) (.cons (.var 1) .nil)))
    .nil))))⟩ := rfl
theorem itms_dat : ∀ {l : List Itm}, dats (l.map Itm.d) = true
  | [] => rfl
  | i :: l => by
    have : i.d.dat = true := by
      cases i with
      | ss x => rfl
      | tt t => exact pl_dat _ t.pl.1
    simp [dats, this, itms_dat (l := l)]
theorem ref_pop {h : AH} {n : Nat} {es : List D} {d : D} (e : h[n]? = some (.lst (es ++ [d]))) : meD .pop h (.ref n) [] = some (d, h.set n (.lst es)) := by
  simp [meD, e]
theorem ref_meP {h : AH} {n : Nat} {es : List D} (e : h[n]? = some (.lst es)) : meT .pop h (.ref n) = true := by simp [meT, e]
/-- the loop over the branches -/
theorem br_loop {F : FC} {b : Sxs} (hb : b = .cons (.set 2 (.bin .Add true (.var 2) (.lst false (.cons (.var 4) (.cons (.cst (.str (S " "))) .nil))))) .nil) (x y z : Option D) : ∀ (ks : List Tr) (h : AH) (n : Nat) (lf : List Itm) (x4 : Option D), h[n]? = some (.lst (lf.map Itm.d)) → lf.length + 2 * ks.length ≤ 10000 →
    ∃ h' n' x4', loop (evSs F b) (.nm 4) (ks.map Tr.d) [x, y, some (.ref n), z, x4] h = .nx [x, y, some (.ref n'), z, x4'] h' ∧ h'[n']? = some (.lst ((lf ++ (ks.map fun k => [Itm.tt k, .ss [32]]).flatten).map Itm.d)) ∧ (∀ (i : Nat) (o : Ob), h[i]? = some o → h'[i]? = some o) ∧ (ks ≠ [] → h.length ≤ n')
  | [], h, n, lf, x4, e, _ => ⟨h, n, x4, rfl, by simpa using e, fun _ _ q => q, fun z => absurd rfl z⟩
  | k :: ks, h, n, lf, x4, e, hl => by
    simp only [List.length_cons] at hl
    have e32 : S " " = [32] := by decide
    have e1 : (h ++ [Ob.lst ((lf ++ [Itm.tt k, .ss [32]]).map Itm.d)])[h.length]? = some (.lst ((lf ++ [Itm.tt k, .ss [32]]).map Itm.d)) := by simp
    obtain ⟨h', n', x4', e2, e3, e4, e5⟩ := br_loop (F := F) hb x y z ks (h ++ [Ob.lst ((lf ++ [Itm.tt k, .ss [32]]).map Itm.d)]) h.length (lf ++ [Itm.tt k, .ss [32]]) (some k.d) e1 (by simp; omega)
    refine ⟨h', n', x4', ?_, ?_, fun i o q => e4 i o ?_, fun _ => ?_⟩
    · rw [List.map_cons, loop_step (s1 := [x, y, some (.ref n), z, some k.d]) (s2 := [x, y, some (.ref h.length), z, some k.d]) (h2 := h ++ [Ob.lst ((lf ++ [Itm.tt k, .ss [32]]).map Itm.d)]) rfl ?_]
      · exact e2
      · subst hb
        have l1 : (lf.map Itm.d).length + 2 ≤ 16777216 := by rw [List.length_map]; omega
        rw [List.map_append]
        generalize lf.map Itm.d = LD at *
        simp [e, e32, l1, Itm.d]
    · rw [e3]
      simp
    · rw [List.getElem?_append_left (List.getElem?_eq_some_iff.mp q).1]; exact q
    · cases ks with
      | nil =>
        simp only [List.map_nil, loop] at e2
        injection e2 with e6 e7
        have := congrArg (fun l : Sl => l[2]?) e6
        simp at this
        omega
      | cons a r =>
        have := e5 (by simp)
        simp at this
        omega
theorem wr_turn {k B : Nat} {W : List Nat} {h : AH} {n : Nat} {rows : List (List Nat)} {lf : List Itm} {i : Itm} (j : JW B W h n rows (lf ++ [i])) (hB : B ≤ 2000) (x : D) (x3 x4 : Option D) :
    ∃ h' n' rows' lf' x3' x4', evSs (A k) wrL [some x, some (.ref 0), some (.ref n), x3, x4] h = .nx [some x, some (.ref 0), some (.ref n'), x3', x4'] h' ∧ JW B W h' n' rows' lf' ∧ costI lf' < costI (lf ++ [i]) := by
  have hn := j.hn
  rw [List.map_append] at hn
  have ep := ref_pop (d := i.d) (es := lf.map Itm.d) hn
  have em := ref_meP hn
  have hb := j.b
  rw [costI_app] at hb
  have hci : costI [i] = i.cost := by simp [costI]
  have hlt := (List.getElem?_eq_some_iff.mp hn).1
  have hlt0 := (List.getElem?_eq_some_iff.mp j.h0).1
  have h0 : (h.set n (.lst (lf.map Itm.d)))[0]? = some (.lst (rows.map D.str)) := by rw [List.getElem?_set_ne j.n0]; exact j.h0
  have hn' : (h.set n (.lst (lf.map Itm.d)))[n]? = some (.lst (lf.map Itm.d)) := by rw [List.getElem?_set_self hlt]
  have s1 : evS (A k) (.set 3 (.me .pop false (.var 2) .nil)) [some x, some (.ref 0), some (.ref n), x3, x4] h = .nx [some x, some (.ref 0), some (.ref n), some i.d, x4] (h.set n (.lst (lf.map Itm.d))) := by
    have : Me.fresh .pop = false := rfl
    simp [em, ep, this]
  rw [wrL, evSs_cons, s1, O.seq_nx]
  have htx := j.tx
  rw [txtI_app] at htx
  have okl : ∀ i ∈ lf, i.ok := fun a m => j.ok a (by simp [m])
  have ipos := i.cost_pos
  generalize hH : h.set n (.lst (lf.map Itm.d)) = H at *
  have m0 := ref_meT h0
  have a0 := fun y => ref_app (x := y) h0 (by rw [List.length_map]; omega)
  cases i with
  | ss w =>
    refine ⟨H.set 0 (.lst ((rows ++ [w]).map D.str)), n, rows ++ [w], lf, some (.str w), x4, ?_, ⟨j.n0, ?_, ?_, ?_, okl, ?_⟩, by rw [costI_app, hci]; omega⟩
    · have hi : isCl .str (.str w) = true := rfl
      rw [List.map_append]
      generalize rows.map D.str = RW at *
      simp [Itm.d, hi, m0, a0, -meT_append, -meD_append]
    · rw [List.getElem?_set_self (by have := (List.getElem?_eq_some_iff.mp h0).1; omega)]
    · rw [List.getElem?_set_ne (fun z => j.n0 z.symm)]; exact hn'
    · rw [← htx]
      simp [txtI, Itm.w]
    · simp only [hci, Itm.cost] at hb
      simp
      omega
  | tt t =>
    obtain ⟨nm, mk, ks⟩ := t
    have hok : (Tr.nd nm mk ks).ok := j.ok (.tt (.nd nm mk ks)) (by simp)
    simp only [Tr.ok] at hok
    simp only [hci, Itm.cost, Tr.cost] at hb
    have hd : Itm.d (.tt (.nd nm mk ks)) = .tup [.str nm, .int mk, .tup (Tr.ds ks)] := rfl
    rw [hd]
    have e58 : S ":" = [58] := by decide
    have e40 : S "(" = [40] := by decide
    have e41 : S ")" = [41] := by decide
    have dl := digs_len hok.2.1
    -- the name and the mark
    obtain ⟨rs, H1, hr1, hr2, s2, k0, kn⟩ : ∃ (rs : List (List Nat)) (H1 : AH), rs.flatten = nm ++ mkW mk ∧ rs.length ≤ 2 ∧ (∀ T, evSs (A k) (.cons (.expr (.me .append false (.var 1) (.cons (.idx (.var 3) (.cst (.int 0))) .nil)))
    (.cons (.ifs (.cmp .Gt (.idx (.var 3) (.cst (.int 1))) (.cst (.int 0))) (.cons (.expr (.me .append false (.var 1) (.cons (.bin .Add false (.cst (.str (S ":"))) (.bi .str false (.cons (.idx (.var 3) (.cst (.int 1))) .nil))) .nil)))
    .nil) .nil) T)) [some x, some (.ref 0), some (.ref n), some (.tup [.str nm, .int mk, .tup (Tr.ds ks)]), x4] H = evSs (A k) T [some x, some (.ref 0), some (.ref n), some (.tup [.str nm, .int mk, .tup (Tr.ds ks)]), x4] H1) ∧ H1[0]? = some (.lst ((rows ++ rs).map D.str)) ∧ H1[n]? = some (.lst (lf.map Itm.d)) := by
      have b1 : (H.set 0 (.lst (rows.map D.str ++ [.str nm])))[0]? = some (.lst (rows.map D.str ++ [.str nm])) := by rw [List.getElem?_set_self (by have := (List.getElem?_eq_some_iff.mp h0).1; omega)]
      have m1 := ref_meT b1
      have a1 := fun y => ref_app (x := y) b1 (by simp; omega)
      by_cases hm : mk = 0
      · subst hm
        refine ⟨[nm], H.set 0 (.lst (rows.map D.str ++ [.str nm])), by simp [mkW], by simp, fun T => ?_, by rw [b1]; simp, by rw [List.getElem?_set_ne (fun z => j.n0 z.symm)]; exact hn'⟩
        generalize rows.map D.str = RW at *
        generalize Tr.ds ks = DS at *
        simp [m0, a0, -meT_append, -meD_append]
      · refine ⟨[nm, 58 :: digs (mk : Int)], (H.set 0 (.lst (rows.map D.str ++ [.str nm]))).set 0 (.lst (rows.map D.str ++ [.str nm] ++ [.str (58 :: digs (mk : Int))])), by simp [mkW, hm], by simp, fun T => ?_, ?_, ?_⟩
        · have hb' : mk < 1000000000000000000000000000000 := by omega
          have l1 : 1 + (digs (mk : Int)).length ≤ 16777216 := by omega
          have hm' : 0 < mk := by omega
          generalize rows.map D.str = RW at *
          generalize Tr.ds ks = DS at *
          simp [m0, a0, m1, a1, e58, hm', hb', l1, -meT_append, -meD_append, -List.set_set]
        · rw [List.getElem?_set_self (by rw [List.length_set]; have := (List.getElem?_eq_some_iff.mp h0).1; omega)]
          simp
        · rw [List.getElem?_set_ne (fun z => j.n0 z.symm), List.getElem?_set_ne (fun z => j.n0 z.symm)]; exact hn'
    have hwt : Itm.w (.tt (.nd nm mk ks)) = nm ++ mkW mk ++ (if ks.isEmpty then [] else 40 :: (joinL [32] (Tr.ws ks) ++ [41])) := rfl
    have hi : isi1 H [Cl.str] (.tup [.str nm, .int mk, .tup (Tr.ds ks)]) = some false := rfl
    have s3 : ∀ T, evSs (A k) (.cons (.ifs (.isi (.var 3) [.str]) T wrB) .nil) [some x, some (.ref 0), some (.ref n), some (.tup [.str nm, .int mk, .tup (Tr.ds ks)]), x4] H = (evSs (A k) wrB [some x, some (.ref 0), some (.ref n), some (.tup [.str nm, .int mk, .tup (Tr.ds ks)]), x4] H).seq fun s h => .nx s h := fun T => by
      generalize wrB = WB
      simp [isCl]
    rw [s3, wrB, s2]
    have q0 := tup_nilE H1 ks
    cases hk : ks.isEmpty with
    | true =>
      have : ks = [] := List.isEmpty_iff.mp hk
      subst this
      refine ⟨H1, n, rows ++ rs, lf, some (.tup [.str nm, .int mk, .tup (Tr.ds [])]), x4, ?_, ⟨j.n0, k0, kn, ?_, okl, ?_⟩, ?_⟩
      · generalize Tr.ds [] = DS at *
        generalize wrA = WA
        simp [q0]
      · rw [← htx]
        have : txtI [Itm.tt (.nd nm mk [])] = rs.flatten := by rw [hr1]; simp [txtI, hwt]
        rw [this]
        simp
      · simp; omega
      · rw [costI_app, hci]
        simp only [Itm.cost, Tr.cost]
        omega
    | false =>
      have hne : ks ≠ [] := fun z => by rw [z] at hk; cases hk
      obtain ⟨a, r, rfl⟩ : ∃ a r, ks = a :: r := by
        cases ks with
        | nil => exact absurd rfl hne
        | cons a r => exact ⟨a, r, rfl⟩
      have mm := ref_meT kn
      have cl := costI_len lf
      have cks := prs_cost (a :: r)
      have cln := costI_len (prs (a :: r))
      have plen : (prs (a :: r)).length = 2 * (a :: r).length := by
        have : ∀ l : List Tr, (prs l).length = 2 * l.length := fun l => by
          induction l with
          | nil => rfl
          | cons b l ih => rw [prs_cons, List.length_append, ih]; simp; omega
        exact this _
      have aa := fun y => ref_app (x := y) kn (by rw [List.length_map]; omega)
      have aa41 := aa (.str [41])
      have c0 : (H1.set n (.lst (lf.map Itm.d ++ [.str [41]])))[n]? = some (.lst ((lf ++ [Itm.ss [41]]).map Itm.d)) := by
        rw [List.getElem?_set_self ((List.getElem?_eq_some_iff.mp kn).1)]
        simp [Itm.d]
      have c1 : (H1.set n (.lst (lf.map Itm.d ++ [.str [41]])))[0]? = some (.lst ((rows ++ rs).map D.str)) := by rw [List.getElem?_set_ne j.n0]; exact k0
      obtain ⟨H2, n2, y4, e2, e3, e4, e5⟩ := br_loop (F := A k) rfl (some x) (some (.ref 0)) (some (.tup [.str nm, .int mk, .tup (Tr.ds (a :: r))])) (a :: r).reverse (H1.set n (.lst (lf.map Itm.d ++ [.str [41]]))) n (lf ++ [Itm.ss [41]]) x4 c0 (by simp only [List.length_append, List.length_cons, List.length_nil, List.length_reverse] at *; omega)
      have e3' : H2[n2]? = some (.lst ((lf ++ [Itm.ss [41]] ++ prs r ++ [Itm.tt a]).map Itm.d ++ [.str [32]])) := by
        rw [e3]
        congr 2
        simp [prs, Itm.d]
      have hl2 := (List.getElem?_eq_some_iff.mp e3').1
      have n2ne : n2 ≠ 0 := by
        have := e5 (by simp)
        rw [List.length_set] at this
        have := (List.getElem?_eq_some_iff.mp k0).1
        omega
      have hset : setD H2 (.ref n2) (.int (-1)) (.str [40]) = some (H2.set n2 (.lst ((lf ++ [Itm.ss [41]] ++ prs r ++ [Itm.tt a, .ss [40]]).map Itm.d))) := by
        have hlen : ∀ (l : List D) (p : D), setD H2 (.ref n2) (.int (-1)) (.str [40]) = setD H2 (.ref n2) (.int (-1)) (.str [40]) := fun _ _ => rfl
        generalize hg : (lf ++ [Itm.ss [41]] ++ prs r ++ [Itm.tt a]).map Itm.d = G at e3'
        have : (lf ++ [Itm.ss [41]] ++ prs r ++ [Itm.tt a, .ss [40]]).map Itm.d = G ++ [.str [40]] := by
          rw [← hg]
          simp [Itm.d]
        rw [this]
        simp only [setD, e3']
        rw [if_neg (by omega), if_pos (by simp; omega)]
        have hz : (-1 + ((G ++ [D.str [32]]).length : Int)).toNat = G.length := by simp only [List.length_append, List.length_cons, List.length_nil]; omega
        rw [hz]
        simp
      refine ⟨H2.set n2 (.lst ((lf ++ [Itm.ss [41]] ++ prs r ++ [Itm.tt a, .ss [40]]).map Itm.d)), n2, rows ++ rs, lf ++ [Itm.ss [41]] ++ prs r ++ [Itm.tt a, .ss [40]], some (.tup [.str nm, .int mk, .tup (Tr.ds (a :: r))]), y4, ?_, ⟨n2ne, ?_, ?_, ?_, ?_, ?_⟩, ?_⟩
      · have hrev : revD (H1.set n (.lst (lf.map Itm.d ++ [.str [41]]))) (.tup (Tr.ds (a :: r))) = some (((a :: r).reverse).map Tr.d, []) := by
          rw [Tr.ds_eq]
          simp
        rw [hk] at q0
        generalize Tr.ds (a :: r) = DS at *
        generalize ((a :: r).reverse).map Tr.d = RD at *
        generalize lf.map Itm.d ++ [.str [41]] = LL at *
        have t1 : ∀ T, evSs (A k) (.cons (.ifs (.cmp .NotEq (.idx (.var 3) (.cst (.int 2))) (.tup .nil)) T .nil) .nil) [some x, some (.ref 0), some (.ref n), some (.tup [.str nm, .int mk, .tup DS]), x4] H1 = (evSs (A k) T [some x, some (.ref 0), some (.ref n), some (.tup [.str nm, .int mk, .tup DS]), x4] H1).seq fun s h => .nx s h := fun T => by
          clear e2
          simp [q0]
        have t2 : evS (A k) (.expr (.me .append false (.var 2) (.cons (.cst (.str (S ")"))) .nil))) [some x, some (.ref 0), some (.ref n), some (.tup [.str nm, .int mk, .tup DS]), x4] H1 = .nx [some x, some (.ref 0), some (.ref n), some (.tup [.str nm, .int mk, .tup DS]), x4] (H1.set n (.lst LL)) := by
          clear e2 aa
          simp [mm, aa41, e41, -meT_append, -meD_append]
        rw [t1, wrA, evSs_cons, t2, O.seq_nx, evSs_cons]
        have t3 : evI (A k) (.rev (.idx (.var 3) (.cst (.int 2)))) [some x, some (.ref 0), some (.ref n), some (.tup [.str nm, .int mk, .tup DS]), x4] (H1.set n (.lst LL)) = .ok (RD, []) (H1.set n (.lst LL)) := by
          clear e2
          simp [hrev, -rev_tup]
        rw [evS_for, t3]
        simp only [R.to_ok, loopG_nil]
        rw [e2, O.seq_nx]
        clear e2
        simp [hset, e40, -setD_ref]
      · rw [List.getElem?_set_ne n2ne]; exact e4 0 _ c1
      · rw [List.getElem?_set_self hl2]
      · rw [← htx]
        have : txtI [Itm.tt (.nd nm mk (a :: r))] = rs.flatten ++ (40 :: (joinL [32] (Tr.ws (a :: r)) ++ [41])) := by rw [hr1]; simp [txtI, hwt]
        rw [this, joinW_cons]
        simp only [txtI_app, prs_txt]
        simp [txtI, Itm.w]
      · intro i hi
        have oks := (Tr.oks_iff _).mp hok.2.2
        simp only [List.mem_append, List.mem_cons, List.not_mem_nil, or_false] at hi
        rcases hi with ((hi | rfl) | hi) | rfl | rfl
        · exact okl i hi
        · trivial
        · have : ∀ l : List Tr, (∀ t ∈ l, t.ok) → ∀ i ∈ prs l, i.ok := fun l => by
            induction l with
            | nil => intro _ i hi; simp [prs] at hi
            | cons b l ih =>
              intro hl i hi
              rw [prs_cons] at hi
              simp only [List.mem_append, List.mem_cons, List.not_mem_nil, or_false] at hi
              rcases hi with hi | rfl | rfl
              · exact ih (fun t m => hl t (by simp [m])) i hi
              · exact hl b (by simp)
              · trivial
          exact this r (fun t m => oks t (by simp [m])) i hi
        · exact oks a (by simp)
        · trivial
      · simp only [costI_app, prs_cost, List.length_append]
        simp only [Tr.costs] at hb
        simp only [costI, List.map_cons, List.map_nil, List.sum_cons, List.sum_nil, Itm.cost] at *
        omega
      · simp only [costI_app, prs_cost]
        simp only [costI, List.map_cons, List.map_nil, List.sum_cons, List.sum_nil, Itm.cost, Tr.cost, Tr.costs]
        omega
end DI
set_option Elab.async false
set_option linter.all false
set_option maxRecDepth 100000
namespace DI
open PySem
def wrC : Ex := (.cmp .NotEq (.var 2) (.lst false .nil))
theorem wr_while {k B : Nat} {W : List Nat} (hB : B ≤ 2000) (x : D) : ∀ (m : Nat) (h : AH) (n : Nat) (rows : List (List Nat)) (lf : List Itm) (x3 x4 : Option D), JW B W h n rows lf → costI lf ≤ m →
    ∃ h' n' rows' x3' x4', whiles (fun s h => tr (ev (A k) wrC s h)) (evSs (A k) wrL) (m + 1) [some x, some (.ref 0), some (.ref n), x3, x4] h = .nx [some x, some (.ref 0), some (.ref n'), x3', x4'] h' ∧ JW B W h' n' rows' []
  | m, h, n, rows, lf, x3, x4, j, hc => by
    have q := ref_nil j.hn itms_dat
    rcases List.eq_nil_or_concat lf with rfl | ⟨l, i, rfl⟩
    · refine ⟨h, n, rows, x3, x4, ?_, j⟩
      rw [whiles]
      have : tr (ev (A k) wrC [some x, some (.ref 0), some (.ref n), x3, x4] h) = .ok false h := by
        have q' : eqD h (.ref n) (.lst []) = some true := q
        simp [wrC, q']
      rw [this, R.to_ok]
    · rw [List.concat_eq_append] at *
      have hpos : 1 ≤ costI (l ++ [i]) := by
        rw [costI_app]
        have := i.cost_pos
        simp only [costI, List.map_cons, List.map_nil, List.sum_cons, List.sum_nil]
        omega
      obtain ⟨m, rfl⟩ : ∃ m', m = m' + 1 := ⟨m - 1, by omega⟩
      obtain ⟨h1, n1, rows1, lf1, y3, y4, e1, j1, hlt⟩ := wr_turn (k := k) j hB x x3 x4
      obtain ⟨h2, n2, rows2, z3, z4, e2, j2⟩ := wr_while hB x m h1 n1 rows1 lf1 y3 y4 j1 (by omega)
      refine ⟨h2, n2, rows2, z3, z4, ?_, j2⟩
      rw [whiles]
      have : tr (ev (A k) wrC [some x, some (.ref 0), some (.ref n), x3, x4] h) = .ok true h := by
        have q' : eqD h (.ref n) (.lst []) = some false := by rw [q]; simp
        simp [wrC, q']
      rw [this, R.to_ok]
      simp only
      rw [e1, O.turn_nx, e2]
theorem joinL_flat : ∀ {xs : List (List Nat)}, joinL [] xs = xs.flatten
  | [] => rfl
  | [x] => by simp [joinL]
  | x :: y :: r => by
    have := joinL_flat (xs := y :: r)
    rw [joinL]
    · rw [this]; simp
    · simp
theorem whiles_more {c : Sl → AH → R Bool} {b : Sl → AH → O} : ∀ (n m : Nat) (s : Sl) (h : AH) (s' : Sl) (h' : AH), whiles c b n s h = .nx s' h' → n ≤ m → whiles c b m s h = .nx s' h'
  | 0, _, _, _, _, _, e, _ => by cases e
  | n + 1, m, s, h, s', h', e, hm => by
    obtain ⟨m, rfl⟩ : ∃ m', m = m' + 1 := ⟨m - 1, by omega⟩
    rw [whiles] at e ⊢
    cases hc : c s h with
    | bad => rw [hc] at e; cases e
    | exc _ _ => rw [hc] at e; cases e
    | ok t h1 =>
      rw [hc] at e
      simp only [R.to_ok] at e ⊢
      cases t with
      | false => exact e
      | true =>
        simp only at e ⊢
        cases hb : b s h1 with
        | nx s2 h2 => rw [hb] at e; simp only [O.turn_nx] at e ⊢; exact whiles_more n m s2 h2 s' h' e (by omega)
        | ct s2 h2 => rw [hb] at e; simp only [O.turn_ct] at e ⊢; exact whiles_more n m s2 h2 s' h' e (by omega)
        | rt d h2 => rw [hb] at e; cases e
        | bk s2 h2 => rw [hb] at e; exact e
        | ex _ _ _ => rw [hb] at e; cases e
        | bad => rw [hb] at e; cases e
theorem written_ok (k : Nat) (t : Tr) (h : AH) (ho : t.ok) (hz : t.sz ≤ 100) : A (k + 1) 11 [t.d] h = .ok (.str t.w) h := by
  have hc := Tr.cost_le t
  have j0 : JW 2000 t.w [.lst [], .lst [t.d]] 1 [] [.tt t] := by
    refine ⟨by decide, rfl, rfl, by simp [txtI, Itm.w], ?_, ?_⟩
    · intro i hi; simp at hi; subst hi; exact ho
    · simp [costI, Itm.cost]; omega
  obtain ⟨h', n', rows', x3, x4, e, j⟩ := wr_while (k := k) (Nat.le_refl _) t.d (costI [.tt t]) _ 1 [] [.tt t] none none j0 (Nat.le_refl _)
  have e := whiles_more _ 100000 _ _ _ _ e (by simp [costI, Itm.cost]; omega)
  refine ap_ok (fn := f__law_written) (h' := h') rfl rfl (by simp [norefs, Tr.nr]) ?_ rfl
  rw [wr_eq]
  have s1 : ∀ T, evSs (A k) (.cons (.set 1 (.lst true .nil)) (.cons (.set 2 (.lst true (.cons (.var 0) .nil))) T)) (st0 ⟨1, 5, true, (.cons (.set 1 (.lst true .nil))
    (.cons (.set 2 (.lst true (.cons (.var 0) .nil)))
    (.cons (.while_ (.cmp .NotEq (.var 2) (.lst false .nil)) wrL)
    (.cons (.ret (.me .join false (.cst (.str (S ""))) (.cons (.var 1) .nil)))
    .nil))))⟩ [t.d]) [] = evSs (A k) T [some t.d, some (.ref 0), some (.ref 1), none, none] [.lst [], .lst [t.d]] := fun T => by
    clear e
    simp [st0]
  show ran (evSs (A k) _ _ _) = _
  rw [s1, evSs_cons, evS_while]
  have e : whiles (fun s h => tr (ev (A k) (.cmp .NotEq (.var 2) (.lst false .nil)) s h)) (evSs (A k) wrL) 100000 _ _ = _ := e
  rw [e, O.seq_nx]
  clear e s1
  have tx := j.tx
  have : txtI [] = [] := rfl
  rw [this, List.append_nil] at tx
  have wl := Tr.w_len t ho
  have e0 : S "" = [] := by decide
  have hj : joinD h' (.str (S "")) (.ref 0) = some (.str t.w) := by
    have g : getStrs (rows'.map D.str) = some rows' := by
      have := getStrs_map (l := rows') (g := fun x => x)
      simpa using this
    rw [e0]
    have hfl : (rows'.map (·.length)).sum = t.w.length := by rw [← tx, List.length_flatten]
    simp only [joinD, asL, j.h0, Option.bind_some, g, List.length_nil]
    rw [if_pos (by rw [hfl]; omega), joinL_flat, tx]
  simp [hj]
theorem told_ok (k : Nat) (t : Tr) (h : AH) (ho : t.ok) (hk : t.ht ≤ 20) (hz : t.sz ≤ 60) : A (k + 50) 12 [t.d] h = .ok (.bl true) h := by
  refine ap_ok (fn := f__law_told) (h' := []) rfl rfl (by simp [norefs, Tr.nr]) ?_ rfl
  have e1 : ∀ h, A (k + 49) 11 [t.d] h = .ok (.str t.w) h := fun h => written_ok (k + 48) t h ho (by omega)
  have e2 : ∀ h, A (k + 49) 3 [t.d] h = .ok (.str t.w) h := fun h => show_ok (k + 48) t h ho (by omega) (by omega)
  have e3 : ∀ h, A (k + 49) 6 [.str t.w] h = .ok t.d h := fun h => read_tree_ok (k + 45) t h ho (by omega) hk hz
  have e4 : ∀ h, A (k + 49) 9 [t.d, t.d] h = .ok (.bl true) h := fun h => same_ok 40 (k + 47) t.d h t.pl.1 (by have := t.pl.2; omega) (by omega)
  generalize t.d = TD at *
  simp [f__law_told, st0, e1, e2, e3, e4, isCl]
end DI
set_option Elab.async false
set_option linter.all false
set_option maxRecDepth 100000
namespace DI
open PySem
/-! words -/
theorem ltr_len : ltr.length = 26 := by decide +kernel
theorem ltr_at (c : Int) : ∃ x, x ∈ ltr ∧ atL ltr (c % 26) = some x := by
  have h : (c % 26).toNat < ltr.length := by rw [ltr_len]; omega
  refine ⟨ltr[(c % 26).toNat], List.getElem_mem h, ?_⟩
  unfold atL
  rw [if_pos (by omega), List.getElem?_eq_getElem h]
def ww : List (List Nat) := [S "mark", S "text", S "up", S "sign", S "down", S "form", S "num", S "row", S "add", S "many", S "show", S "a"]
theorem ww_nam : ∀ w ∈ ww, Nam w := fun w hw => by
  have : ∀ w ∈ ww, 1 ≤ w.length ∧ w.length ≤ 8 ∧ ∀ c ∈ w, c ∈ ltr := by decide +kernel
  obtain ⟨h1, h2, h3⟩ := this w hw
  exact ⟨h1, h2, h3⟩
theorem ww_at (c : Int) : ∃ w, Nam w ∧ atL (ww.map D.str) (c % 12) = some (.str w) := by
  have h : (c % 12).toNat < ww.length := by
    have : ww.length = 12 := rfl
    omega
  refine ⟨ww[(c % 12).toNat], ww_nam _ (List.getElem_mem h), ?_⟩
  unfold atL
  rw [if_pos (by omega), List.getElem?_map, List.getElem?_eq_getElem h]
  rfl
theorem rep_ltr {x : Nat} (hx : x ∈ ltr) (k : Int) : ∀ c ∈ repL k [x], c ∈ ltr := fun c hc => by
  simp [repL] at hc
  rw [hc.2]; exact hx
theorem s_word (k : Nat) (c j : Int) (h : AH) : ∃ w, Nam w ∧ A (k + 1) 7 [.int c, .int j] h = .ok (.str w) h := by
  have e0 : S "abcdefghijklmnopqrstuvwxyz" = ltr := rfl
  by_cases hz : c % 3 = 1 ∧ j < 12
  · obtain ⟨w, hw, ew⟩ := ww_at (c / 3 + j)
    refine ⟨w, hw, ap_ok (fn := f__law_word) (h' := []) rfl rfl rfl ?_ rfl⟩
    simp only [ww, List.map_cons, List.map_nil] at ew
    simp [f__law_word, st0, hz.1, hz.2, ew]
  · obtain ⟨x, hx, ex⟩ := ltr_at (c / 64)
    obtain ⟨y, hy, ey⟩ := ltr_at (c / 1664 + j)
    have hp : 0 < 1 + c % 8 := by omega
    have b1 : 0 ≤ c / 8 % (1 + c % 8) := Int.emod_nonneg _ (by omega)
    have b2 : c / 8 % (1 + c % 8) < 1 + c % 8 := Int.emod_lt_of_pos _ hp
    have b3 : 1 + c % 8 ≤ 8 := by omega
    have s1 : ∀ T : Sxs, ∀ s : Sl, s[0]? = some (some (.int c)) → s[1]? = some (some (.int j)) → ∀ h, evS (A k) (.ifs (.and_ (.cmp .Eq (.bin .Mod false (.var 0) (.cst (.int 3))) (.cst (.int 1))) (.cmp .Lt (.var 1) (.cst (.int 12)))) T .nil) s h = .nx s h := fun T s h1 h2 h => by
      by_cases z1 : c % 3 = 1
      · have z2 : ¬ j < 12 := fun z => hz ⟨z1, z⟩
        simp [h1, h2, z1, z2]
      · simp [h1, h2, z1]
    generalize hl : 1 + c % 8 = l at *
    generalize ha : c / 8 % l = a at *
    have m1 : -1000000 < a ∧ a < 1000000 ∧ a.toNat ≤ 16777216 := by omega
    have m2 : -1000000 < l - a - 1 ∧ l - a - 1 < 1000000 ∧ (l - a - 1).toNat ≤ 16777216 := by omega
    have m3 : l - a ≤ 16777217 := by omega
    have q1 : a.toNat + 1 ≤ 16777216 := by omega
    have q2 : a.toNat + 1 + (l - a - 1).toNat ≤ 16777216 := by omega
    have q3 : a.toNat + 1 + ((l - a).toNat - 1) ≤ 16777216 := by omega
    refine ⟨repL a [x] ++ [y] ++ repL (l - a - 1) [x], ⟨?_, ?_, ?_⟩, ap_ok (fn := f__law_word) (h' := []) rfl rfl rfl ?_ rfl⟩
    · simp only [List.length_append, List.length_cons, List.length_nil]; omega
    · simp only [List.length_append, rep_len1, List.length_cons, List.length_nil]; omega
    · intro d hd
      rcases List.mem_append.mp hd with hd | hd
      · rcases List.mem_append.mp hd with hd | hd
        · exact rep_ltr hx _ d hd
        · simp at hd; subst hd; exact hy
      · exact rep_ltr hx _ d hd
    · have hb : ∃ T, f__law_word.body = (.cons (.set 2 (.cst (.str (S "abcdefghijklmnopqrstuvwxyz"))))
    (.cons (.ifs (.and_ (.cmp .Eq (.bin .Mod false (.var 0) (.cst (.int 3))) (.cst (.int 1))) (.cmp .Lt (.var 1) (.cst (.int 12)))) T .nil)
    (.cons (.set 4 (.bin .Add false (.cst (.int 1)) (.bin .Mod false (.var 0) (.cst (.int 8)))))
    (.cons (.set 5 (.bin .Mod false (.bin .FloorDiv false (.var 0) (.cst (.int 8))) (.var 4)))
    (.cons (.set 6 (.idx (.var 2) (.bin .Mod false (.bin .FloorDiv false (.var 0) (.cst (.int 64))) (.cst (.int 26)))))
    (.cons (.ret (.bin .Add false (.bin .Add false (.bin .Mult false (.var 6) (.var 5)) (.idx (.var 2) (.bin .Mod false (.bin .Add false (.bin .FloorDiv false (.var 0) (.cst (.int 1664))) (.var 1)) (.cst (.int 26))))) (.bin .Mult false (.var 6) (.bin .Sub false (.bin .Sub false (.var 4) (.var 5)) (.cst (.int 1))))))
    .nil)))))) := ⟨_, rfl⟩
      obtain ⟨T, hb⟩ := hb
      show ran (evSs (A k) f__law_word.body _ _) = _
      rw [hb, evSs_cons]
      have s0 : evS (A k) (.set 2 (.cst (.str (S "abcdefghijklmnopqrstuvwxyz")))) (st0 f__law_word [.int c, .int j]) [] = .nx [some (.int c), some (.int j), some (.str ltr), none, none, none, none] [] := by
        simp [st0, f__law_word, e0]
      rw [s0, O.seq_nx, evSs_cons, s1 T _ rfl rfl, O.seq_nx]
      simp [hl, hp, ha, ex, ey, m1, m2, m3, rep_len1, q1, q2, q3]
/-! sums -/
def Sg (n : Nat) (f : Nat → Nat) : Nat := ((List.range n).map f).sum
theorem Sg_zero (f : Nat → Nat) : Sg 0 f = 0 := rfl
theorem Sg_succ (n : Nat) (f : Nat → Nat) : Sg (n + 1) f = Sg n f + f n := by simp [Sg, List.range_succ]
theorem Sg_congr {n : Nat} {f g : Nat → Nat} (h : ∀ i, i < n → f i = g i) : Sg n f = Sg n g := by
  induction n with
  | zero => rfl
  | succ n ih => rw [Sg_succ, Sg_succ, ih fun i hi => h i (by omega), h n (by omega)]
theorem Sg_add (n : Nat) (f g : Nat → Nat) : Sg n (fun i => f i + g i) = Sg n f + Sg n g := by
  induction n with
  | zero => rfl
  | succ n ih => rw [Sg_succ, Sg_succ, Sg_succ, ih]; omega
theorem Sg_comm (n m : Nat) (a : Nat → Nat → Nat) : Sg n (fun i => Sg m (fun j => a i j)) = Sg m (fun j => Sg n (fun i => a i j)) := by
  induction n with
  | zero =>
    rw [Sg_zero]
    induction m with
    | zero => rfl
    | succ m ih => rw [Sg_succ, ← ih]; rfl
  | succ n ih =>
    rw [Sg_succ, ih, ← Sg_add]
    exact Sg_congr fun j _ => (Sg_succ n (fun i => a i j)).symm
theorem Sg_const (n c : Nat) : Sg n (fun _ => c) = n * c := by
  induction n with
  | zero => simp [Sg_zero]
  | succ n ih => rw [Sg_succ, ih, Nat.succ_mul]
theorem Sg_spike {n p : Nat} (x : Nat) (hp : p < n) : Sg n (fun i => if p = i then x else 0) = x := by
  induction n with
  | zero => omega
  | succ n ih =>
    rw [Sg_succ]
    by_cases h : p = n
    · subst h
      have : Sg p (fun i => if p = i then x else 0) = 0 := by
        rw [Sg_congr (g := fun _ => 0) fun i hi => if_neg (by omega), Sg_const]
        simp
      rw [this]; simp
    · rw [ih (by omega), if_neg h]; simp
theorem Sg_first (n : Nat) (f : Nat → Nat) (hn : 0 < n) : Sg n f = f 0 + Sg n (fun j => if 1 ≤ j then f j else 0) := by
  induction n with
  | zero => omega
  | succ n ih =>
    rw [Sg_succ, Sg_succ]
    by_cases h : n = 0
    · subst h; simp [Sg_zero]
    · rw [ih (by omega), if_pos (by omega)]; omega
/-! rows -/
structure Rw where
  nm : List Nat
  mr : Nat
  ks : List Nat
  dp : Nat
/-- every node has its parent, which tells it once -/
structure RB (most : Nat) (rows : List Rw) (par : Nat → Nat) : Prop where
  pos : 0 < rows.length
  nam : ∀ w ∈ rows, Nam w.nm ∧ w.mr < 10 ^ 18 ∧ 1 ≤ w.dp ∧ w.dp ≤ most
  root : ∃ w, rows[0]? = some w ∧ w.dp = 1
  kids : ∀ (i : Nat) w, rows[i]? = some w → ∀ j ∈ w.ks, i < j ∧ j < rows.length ∧ ∃ u, rows[j]? = some u ∧ u.dp = w.dp + 1
  pj : ∀ j, 1 ≤ j → j < rows.length → par j < j
  sum : ∀ (i : Nat) w (f : Nat → Nat), rows[i]? = some w → (w.ks.map f).sum = Sg rows.length (fun j => if 1 ≤ j ∧ par j = i then f j else 0)
def putK' (w : Rw) (p n : Nat) : Rw := { w with ks := w.ks.take p ++ [n] ++ w.ks.drop p }
theorem RB.step {most : Nat} {rows : List Rw} {par : Nat → Nat} (r : RB most rows par) {up p : Nat} {w : Rw} (hw : rows[up]? = some w) (hd : w.dp < most) {nm : List Nat} {mk : Nat} (hn : Nam nm) (hm : mk < 10 ^ 18) :
    RB most (rows.set up (putK' w p rows.length) ++ [(Rw.mk nm mk [] (w.dp + 1))]) (fun j => if j = rows.length then up else par j) := by
  have hup := (List.getElem?_eq_some_iff.mp hw).1
  have hl : (rows.set up (putK' w p rows.length) ++ [(Rw.mk nm mk [] (w.dp + 1))]).length = rows.length + 1 := by simp
  have wm : w ∈ rows := List.mem_of_getElem? hw
  have wk := r.nam w wm
  -- what stands at i
  have at_ : ∀ (i : Nat) u, (rows.set up (putK' w p rows.length) ++ [(Rw.mk nm mk [] (w.dp + 1))])[i]? = some u → (i = up ∧ u = putK' w p rows.length) ∨ (i ≠ up ∧ i < rows.length ∧ rows[i]? = some u) ∨ (i = rows.length ∧ u = (Rw.mk nm mk [] (w.dp + 1))) := by
    intro i u e
    by_cases hi : i < rows.length
    · rw [List.getElem?_append_left (by rw [List.length_set]; exact hi)] at e
      by_cases hu : i = up
      · subst hu
        rw [List.getElem?_set_self hi] at e
        cases e
        exact .inl ⟨rfl, rfl⟩
      · rw [List.getElem?_set_ne (fun z => hu z.symm)] at e
        exact .inr (.inl ⟨hu, hi, e⟩)
    · rw [List.getElem?_append_right (by rw [List.length_set]; omega), List.length_set] at e
      have h0 := (List.getElem?_eq_some_iff.mp e).1
      have : i - rows.length = 0 := by simp at h0; omega
      rw [this] at e
      simp at e
      exact .inr (.inr ⟨by omega, e.symm⟩)
  have dpk : ∀ (j : Nat) u, rows[j]? = some u → ∃ u', (rows.set up (putK' w p rows.length) ++ [(Rw.mk nm mk [] (w.dp + 1))])[j]? = some u' ∧ u'.dp = u.dp := by
    intro j u e
    have hj := (List.getElem?_eq_some_iff.mp e).1
    rw [List.getElem?_append_left (by rw [List.length_set]; exact hj)]
    by_cases hu : j = up
    · subst hu
      rw [List.getElem?_set_self hj]
      rw [hw] at e
      cases e
      exact ⟨_, rfl, rfl⟩
    · rw [List.getElem?_set_ne (fun z => hu z.symm)]
      exact ⟨u, e, rfl⟩
  have newdp : ∃ u', (rows.set up (putK' w p rows.length) ++ [(Rw.mk nm mk [] (w.dp + 1))])[rows.length]? = some u' ∧ u'.dp = w.dp + 1 := by
    refine ⟨(Rw.mk nm mk [] (w.dp + 1)), ?_, rfl⟩
    rw [List.getElem?_append_right (by rw [List.length_set]; omega), List.length_set]
    simp
  refine ⟨by omega, ?_, ?_, ?_, ?_, ?_⟩
  · intro u hu
    obtain ⟨i, hi, e⟩ := List.mem_iff_getElem.mp hu
    rcases at_ i u (by rw [List.getElem?_eq_getElem hi, e]) with ⟨_, rfl⟩ | ⟨_, _, e⟩ | ⟨_, rfl⟩
    · exact wk
    · exact r.nam u (List.mem_of_getElem? e)
    · exact ⟨hn, hm, by simp, by show w.dp + 1 ≤ most; omega⟩
  · obtain ⟨u, e, hu⟩ := r.root
    obtain ⟨u', e', h'⟩ := dpk 0 u e
    exact ⟨u', e', by omega⟩
  · intro i u e j hj
    rw [hl]
    rcases at_ i u e with ⟨rfl, rfl⟩ | ⟨_, _, e⟩ | ⟨_, rfl⟩
    · have hj : j ∈ w.ks.take p ++ [rows.length] ++ w.ks.drop p := hj
      have : j ∈ w.ks ∨ j = rows.length := by
        rcases List.mem_append.mp hj with hj | hj
        · rcases List.mem_append.mp hj with hj | hj
          · exact .inl (List.mem_of_mem_take hj)
          · simp at hj; exact .inr hj
        · exact .inl (List.mem_of_mem_drop hj)
      rcases this with hj | rfl
      · obtain ⟨h1, h2, u, h3, h4⟩ := r.kids _ w hw j hj
        obtain ⟨u', e', h'⟩ := dpk j u h3
        exact ⟨h1, by omega, u', e', by rw [h', h4]; rfl⟩
      · obtain ⟨u', e', h'⟩ := newdp
        exact ⟨by omega, by omega, u', e', h'⟩
    · obtain ⟨h1, h2, v, h3, h4⟩ := r.kids i u e j hj
      obtain ⟨u', e', h'⟩ := dpk j v h3
      exact ⟨h1, by omega, u', e', by omega⟩
    · cases hj
  · intro j h1 h2
    rw [hl] at h2
    show (if j = rows.length then up else par j) < j
    split
    · omega
    · exact r.pj j h1 (by omega)
  · intro i u f e
    rw [hl, Sg_succ]
    have hlast : (if 1 ≤ rows.length ∧ (if rows.length = rows.length then up else par rows.length) = i then f rows.length else 0) = if up = i then f rows.length else 0 := by
      have := r.pos
      have h1 : 1 ≤ rows.length := by omega
      simp [h1]
    rw [hlast]
    have hrest : Sg rows.length (fun j => if 1 ≤ j ∧ (if j = rows.length then up else par j) = i then f j else 0) = Sg rows.length (fun j => if 1 ≤ j ∧ par j = i then f j else 0) := Sg_congr fun j hj => by rw [if_neg (by omega : ¬ j = rows.length)]
    rw [hrest]
    rcases at_ i u e with ⟨rfl, rfl⟩ | ⟨hne, _, e⟩ | ⟨rfl, rfl⟩
    · rw [if_pos rfl, ← r.sum i w f hw]
      show ((w.ks.take p ++ [rows.length] ++ w.ks.drop p).map f).sum = _
      have := congrArg List.sum (congrArg (List.map f) (List.take_append_drop p w.ks))
      rw [List.map_append, List.sum_append] at this
      simp only [List.map_append, List.sum_append, List.map_cons, List.map_nil, List.sum_cons, List.sum_nil]
      omega
    · rw [if_neg (fun z => hne z.symm), r.sum i u f e]
      simp
    · rw [if_neg (by omega)]
      have : Sg rows.length (fun j => if 1 ≤ j ∧ par j = rows.length then f j else 0) = 0 := by
        rw [Sg_congr (g := fun _ => 0) fun j hj => if_neg (fun ⟨h1, h2⟩ => by have := r.pj j h1 hj; omega), Sg_const]
        simp
      rw [this]
      rfl
/-! the trees of the rows -/
def trF (rows : List Rw) : Nat → Nat → Tr
  | 0, _ => .nd [] 0 []
  | f + 1, i => match rows[i]? with
    | some w => .nd w.nm w.mr (w.ks.map (trF rows f))
    | none => .nd [] 0 []
def trR (rows : List Rw) (i : Nat) : Tr := trF rows (rows.length - i) i
theorem trF_st {most : Nat} {rows : List Rw} {par : Nat → Nat} (r : RB most rows par) : ∀ (f g i : Nat), i < rows.length → rows.length - i ≤ f → rows.length - i ≤ g → trF rows f i = trF rows g i
  | 0, _, i, hi, h1, _ => by omega
  | _, 0, i, hi, _, h2 => by omega
  | f + 1, g + 1, i, hi, h1, h2 => by
    simp only [trF]
    rw [List.getElem?_eq_getElem hi]
    simp only
    congr 1
    apply List.map_congr_left
    intro j hj
    obtain ⟨k1, k2, _⟩ := r.kids i _ (List.getElem?_eq_getElem hi) j hj
    exact trF_st r f g j k2 (by omega) (by omega)
theorem trR_eq {most : Nat} {rows : List Rw} {par : Nat → Nat} (r : RB most rows par) {i : Nat} {w : Rw} (e : rows[i]? = some w) : trR rows i = .nd w.nm w.mr (w.ks.map (trR rows)) := by
  have hi := (List.getElem?_eq_some_iff.mp e).1
  obtain ⟨f, hf⟩ : ∃ f, rows.length - i = f + 1 := ⟨rows.length - i - 1, by omega⟩
  unfold trR
  rw [hf]
  simp only [trF, e]
  congr 1
  apply List.map_congr_left
  intro j hj
  obtain ⟨k1, k2, _⟩ := r.kids i w e j hj
  exact trF_st r f _ j k2 (by omega) (by omega)
theorem trR_all {most : Nat} {rows : List Rw} {par : Nat → Nat} (r : RB most rows par) : ∀ (n i : Nat) (w : Rw), rows.length - i ≤ n → rows[i]? = some w → (trR rows i).ok ∧ (trR rows i).ht + w.dp ≤ most + 1
  | 0, i, w, hn, e => by have := (List.getElem?_eq_some_iff.mp e).1; omega
  | n + 1, i, w, hn, e => by
    rw [trR_eq r e]
    have wk := r.nam w (List.mem_of_getElem? e)
    have ih : ∀ j ∈ w.ks, (trR rows j).ok ∧ (trR rows j).ht + (w.dp + 1) ≤ most + 1 := fun j hj => by
      obtain ⟨k1, k2, u, k3, k4⟩ := r.kids i w e j hj
      have := trR_all r n j u (by omega) k3
      rw [k4] at this
      exact this
    refine ⟨?_, ?_⟩
    · simp only [Tr.ok]
      refine ⟨wk.1, wk.2.1, (Tr.oks_iff _).mpr fun t ht => ?_⟩
      obtain ⟨j, hj, rfl⟩ := List.mem_map.mp ht
      exact (ih j hj).1
    · simp only [Tr.ht]
      have : ∀ l : List Nat, (∀ j ∈ l, (trR rows j).ht + (w.dp + 1) ≤ most + 1) → Tr.hts (l.map (trR rows)) + (w.dp + 1) ≤ most + 1 ∨ l = [] := by
        intro l
        induction l with
        | nil => intro _; exact .inr rfl
        | cons a l ihl =>
          intro h
          left
          have h1 := h a (by simp)
          have h2 := ihl fun j hj => h j (by simp [hj])
          simp only [List.map_cons, Tr.hts]
          rcases h2 with h2 | rfl
          · omega
          · simp only [List.map_nil, Tr.hts]; omega
      rcases this w.ks fun j hj => (ih j hj).2 with h | h
      · omega
      · rw [h]
        simp only [List.map_nil, Tr.hts]
        omega
theorem trR_sz {most : Nat} {rows : List Rw} {par : Nat → Nat} (r : RB most rows par) : (trR rows 0).sz = rows.length := by
  have hs : ∀ i, i < rows.length → (trR rows i).sz = 1 + Sg rows.length (fun j => if 1 ≤ j ∧ par j = i then (trR rows j).sz else 0) := fun i hi => by
    have e := List.getElem?_eq_getElem hi
    rw [trR_eq r e]
    simp only [Tr.sz, Tr.szs_eq, List.map_map]
    rw [← r.sum i _ (fun j => (trR rows j).sz) e]
    rfl
  have h1 : Sg rows.length (fun i => (trR rows i).sz) = rows.length + Sg rows.length (fun j => if 1 ≤ j then (trR rows j).sz else 0) := by
    rw [Sg_congr hs, Sg_add, Sg_const, Sg_comm]
    have : Sg rows.length (fun j => Sg rows.length fun i => if 1 ≤ j ∧ par j = i then (trR rows j).sz else 0) = Sg rows.length (fun j => if 1 ≤ j then (trR rows j).sz else 0) := Sg_congr fun j hj => by
      by_cases h : 1 ≤ j
      · rw [if_pos h]
        refine (Sg_congr fun i _ => ?_).trans (Sg_spike (n := rows.length) (p := par j) ((trR rows j).sz) (by have := r.pj j h hj; omega))
        simp [h]
      · rw [if_neg h, Sg_congr (g := fun _ => 0) fun i _ => if_neg (fun z => h z.1), Sg_const]
        simp
    rw [this]
    omega
  have h2 := Sg_first rows.length (fun i => (trR rows i).sz) r.pos
  omega
end DI
set_option Elab.async false
set_option linter.all false
set_option maxRecDepth 100000
namespace DI
open PySem
theorem g_word (k : Nat) (c j : Int) : Gv prog (k + 1) i__law_word [.int c, .int j] fun d => ∃ w, Nam w ∧ d = .str w := by
  refine gv_of (fn := f__law_word) rfl rfl rfl ?_
  have e0 : S "abcdefghijklmnopqrstuvwxyz" = ltr := rfl
  obtain ⟨w, hw, ew⟩ := ww_at (c / 3 + j)
  obtain ⟨x, hx, ex⟩ := ltr_at (c / 64)
  obtain ⟨y, hy, ey⟩ := ltr_at (c / 1664 + j)
  simp only [ww, List.map_cons, List.map_nil] at ew
  simp only [st0, List.map_cons, List.map_nil, List.length_cons, List.length_nil, List.replicate_succ, List.replicate_zero, List.cons_append, List.nil_append, Nat.reduceSub, Nat.reduceAdd, f__law_word]
  simp (disch := (first | omega | (simp only [List.length_set, List.length_append, List.length_cons, List.length_nil, List.length_map, List.length_range]; omega))) only [sat_ok, sat_exc, sat_bad, Kx_ap, seq_n, seq_t, seq_x, vs_nil, vs_cons, optS_some, optS_none, optS_ite, optS_ite2, optS_map, sat_opt, orD_some, orD_none, orD_none2, varS_some, v_var, v_cst, KM_f, KM_t, KB2_ap, KB1_ap, v_bin, KNeg_i, v_neg, KC2_ap, KC1_ap, v_cmp, KH1_ap, KH2_ap, KH3_ap, v_chn, KIsN_t, KIsN_f, v_isN, v_notN, KAnd_ap, AndB_t, AndB_f, v_and, KOr_ap, OrB_t, OrB_f, v_or, KNot_ap, v_not, KA2_ap, KA1_ap, va_nil, va_cons, KTup_ap, v_tup, KLst_f, KLst_t, v_lst, KI2_ap, KI1_ap, v_idx, KCall_ap, v_call, KIsi_ap, v_isi, KBi_ap, v_bi, KO_i, vo_no, vo_yes, KS3_ap, KS2_ap, KS1_ap, v_sli, KMe3_ap, KMe2_ap, KMe1_ap, v_me, KLrg_ap, v_lrng, KLv2_t, KLv2_f, KLv_ap, v_lrev, v_dnew, KInC_ap, v_inC, v_isE, v_exf, KItm_ap, vi_any, KRng_ap, vi_rng, KRrg_ap, vi_rrng, KZip_ap, vi_zip, KRev_ap, vi_rev, KCmp_ap, v_comp, AsgS_some, KTr_ap, vc_no, vc_yes, KN_ap, KSet_ap, vs_pass, vs_ret, vs_retN, vs_expr, vs_set, Br_T, Br_F, Bif_some, KIf_ap, vs_ifs, ic_and, ic_or, ic_not, ic_var, ic_cst, ic_cmp, ic_chn, ic_isN, ic_notN, ic_idx, ic_call, ic_isi, ic_bi, ic_me, ic_inC, ic_isE, ic_lrev, KFor_ap, vs_for, KForI_ap, KForA_ref, KForA_tup, KForA_lst, KForA_scr, KForA_str, vs_forA, KSI3_ap, KSI2_ap, KSI1_ap, vs_setI, KUnp_ap, vs_unp, KAug2_t, KAug2_f, AugS_ap, vs_aug, vs_raise, gone_n, gone_n0, gone_t, gone_x, Hdl_ap, try_n, try_t, try_x, vs_try, Bwh_some, BrW_T, BrW_F, KWh_ap, loopG_nil', bin_add, bin_sub, bin_mul, bin_div, bin_mod, bin_muls, add_str, add_tup, add_lst, add_rl, cmp_eq, cmp_ne, cmp_lt, cmp_le, cmp_gt, cmp_ge, cmp_in, cmp_notin, eqD_int, eqD_str, in_str1, in_tup, in_lst, truth_bl, truth_non, truth_int, truth_str, truth_tup, truth_lst, dBi_s, dBi_i, dBi_t, dLook_t, dLook_l, dLook_s, dLook_c, idx_tup, idx_lst, idx_str, idx_scr, bi_len_str, bi_len_tup, bi_len_lst, bi_len_scr, bi_int_int, bi_int_bl, bi_int_str, bi_str_int, bi_list_tup, bi_list_lst, bi_list_scr, bi_tuple_tup, bi_tuple_lst, bi_min2, bi_max2, sli_str, sli_tup, sli_lst, meT_append, meT_join, asL_ref, asL_lst, meD_append, meD_join, rng1, rng2, isi_i, isi_b, isi_s, isi_t, isi_l, isi_n, isCl, List.any_cons, List.any_nil, zip_tup, zip_lst, rev_tup, rev_lst, lrev_tup, lrev_lst, asg_nm, asg_tp2, asg_tp3, items_tup, items_lst, items_scr, items_str, Option.map_some, Option.map_none, Option.bind_some, Option.isSome_some, atL_0, atL_1, atL_2, atL_3, List.getElem?_cons_zero, List.getElem?_cons_succ, List.getElem?_nil, List.set_cons_zero, List.set_cons_succ, List.set_nil, List.length_cons, List.length_nil, List.cons_append, List.nil_append, decide_eq_true_eq, decide_eq_false_iff_not, Bool.not_eq_true', Bool.not_true, Bool.not_false, Bool.false_eq_true, Bool.or_false, Bool.or_true, Bool.true_or, Bool.and_true, Bool.and_false, if_true, wipes_cons, wipes_nil, isNon_non, isNon_bl, isNon_int, isNon_str, isNon_tup, isNon_lst, isNon_ref, Me.fresh, true_and, and_true, slotOk_s, slotOk_n, hide_s, hide_n, ne_eq, not_true_eq_false, not_false_eq_true, Bool.and_self, S_eq, String.reduceEq, Int.reduceLT, Int.reduceLE, Nat.reduceLeDiff, Nat.reduceAdd, Nat.reduceLT, Nat.reduceMul, Int.reduceNeg, Nat.zero_add, Int.reduceAdd, Int.reduceSub, Int.reduceEq, Nat.reduceEqDiff, Int.reduceToNat, ↓reduceIte, items_ref, set_last, pow18, pow12, List.getElem?_append_left, List.getElem?_append_right, List.getElem?_set_self, List.getElem?_set_ne, Nat.sub_self, id_eq, List.map_cons, List.map_nil, Nat.reducePow, big18, bi_len_ref, bi_list_ref, dBi_len, dBi_list, dGet_ref, dLook_ref, dPut_ref, dCmp_in, dCmp_nin, kOf_int, kOf_str, tOf_two, idx_rs, idx_rt, idx_ri, setD_rs, setD_rt, setD_ref, in_ref, isi_ref, dIsi_ref, meT_pop, meT_insert, meT_reverse, meT_clear, meT_strip, meT_startswith, meT_split, meT_partition, meD_insert, meD_pop, meD_reverse, meD_clear, meD_strip, meD_startswith, meD_partition, meD_split, List.length_append, List.length_map, List.length_range, List.length_set, List.length_reverse, e0]
  refine cut_br (fun s h => s = [some (.int c), some (.int j), some (.str ltr), none, none, none, none] ∧ h = []) (br (fun h1 => ?_) (fun h1 => ?_)) ?_
  · simp (disch := (first | omega | (simp only [List.length_set, List.length_append, List.length_cons, List.length_nil, List.length_map, List.length_range]; omega))) only [sat_ok, sat_exc, sat_bad, Kx_ap, seq_n, seq_t, seq_x, vs_nil, vs_cons, optS_some, optS_none, optS_ite, optS_ite2, optS_map, sat_opt, orD_some, orD_none, orD_none2, varS_some, v_var, v_cst, KM_f, KM_t, KB2_ap, KB1_ap, v_bin, KNeg_i, v_neg, KC2_ap, KC1_ap, v_cmp, KH1_ap, KH2_ap, KH3_ap, v_chn, KIsN_t, KIsN_f, v_isN, v_notN, KAnd_ap, AndB_t, AndB_f, v_and, KOr_ap, OrB_t, OrB_f, v_or, KNot_ap, v_not, KA2_ap, KA1_ap, va_nil, va_cons, KTup_ap, v_tup, KLst_f, KLst_t, v_lst, KI2_ap, KI1_ap, v_idx, KCall_ap, v_call, KIsi_ap, v_isi, KBi_ap, v_bi, KO_i, vo_no, vo_yes, KS3_ap, KS2_ap, KS1_ap, v_sli, KMe3_ap, KMe2_ap, KMe1_ap, v_me, KLrg_ap, v_lrng, KLv2_t, KLv2_f, KLv_ap, v_lrev, v_dnew, KInC_ap, v_inC, v_isE, v_exf, KItm_ap, vi_any, KRng_ap, vi_rng, KRrg_ap, vi_rrng, KZip_ap, vi_zip, KRev_ap, vi_rev, KCmp_ap, v_comp, AsgS_some, KTr_ap, vc_no, vc_yes, KN_ap, KSet_ap, vs_pass, vs_ret, vs_retN, vs_expr, vs_set, Br_T, Br_F, Bif_some, KIf_ap, vs_ifs, ic_and, ic_or, ic_not, ic_var, ic_cst, ic_cmp, ic_chn, ic_isN, ic_notN, ic_idx, ic_call, ic_isi, ic_bi, ic_me, ic_inC, ic_isE, ic_lrev, KFor_ap, vs_for, KForI_ap, KForA_ref, KForA_tup, KForA_lst, KForA_scr, KForA_str, vs_forA, KSI3_ap, KSI2_ap, KSI1_ap, vs_setI, KUnp_ap, vs_unp, KAug2_t, KAug2_f, AugS_ap, vs_aug, vs_raise, gone_n, gone_n0, gone_t, gone_x, Hdl_ap, try_n, try_t, try_x, vs_try, Bwh_some, BrW_T, BrW_F, KWh_ap, loopG_nil', bin_add, bin_sub, bin_mul, bin_div, bin_mod, bin_muls, add_str, add_tup, add_lst, add_rl, cmp_eq, cmp_ne, cmp_lt, cmp_le, cmp_gt, cmp_ge, cmp_in, cmp_notin, eqD_int, eqD_str, in_str1, in_tup, in_lst, truth_bl, truth_non, truth_int, truth_str, truth_tup, truth_lst, dBi_s, dBi_i, dBi_t, dLook_t, dLook_l, dLook_s, dLook_c, idx_tup, idx_lst, idx_str, idx_scr, bi_len_str, bi_len_tup, bi_len_lst, bi_len_scr, bi_int_int, bi_int_bl, bi_int_str, bi_str_int, bi_list_tup, bi_list_lst, bi_list_scr, bi_tuple_tup, bi_tuple_lst, bi_min2, bi_max2, sli_str, sli_tup, sli_lst, meT_append, meT_join, asL_ref, asL_lst, meD_append, meD_join, rng1, rng2, isi_i, isi_b, isi_s, isi_t, isi_l, isi_n, isCl, List.any_cons, List.any_nil, zip_tup, zip_lst, rev_tup, rev_lst, lrev_tup, lrev_lst, asg_nm, asg_tp2, asg_tp3, items_tup, items_lst, items_scr, items_str, Option.map_some, Option.map_none, Option.bind_some, Option.isSome_some, atL_0, atL_1, atL_2, atL_3, List.getElem?_cons_zero, List.getElem?_cons_succ, List.getElem?_nil, List.set_cons_zero, List.set_cons_succ, List.set_nil, List.length_cons, List.length_nil, List.cons_append, List.nil_append, decide_eq_true_eq, decide_eq_false_iff_not, Bool.not_eq_true', Bool.not_true, Bool.not_false, Bool.false_eq_true, Bool.or_false, Bool.or_true, Bool.true_or, Bool.and_true, Bool.and_false, if_true, wipes_cons, wipes_nil, isNon_non, isNon_bl, isNon_int, isNon_str, isNon_tup, isNon_lst, isNon_ref, Me.fresh, true_and, and_true, slotOk_s, slotOk_n, hide_s, hide_n, ne_eq, not_true_eq_false, not_false_eq_true, Bool.and_self, S_eq, String.reduceEq, Int.reduceLT, Int.reduceLE, Nat.reduceLeDiff, Nat.reduceAdd, Nat.reduceLT, Nat.reduceMul, Int.reduceNeg, Nat.zero_add, Int.reduceAdd, Int.reduceSub, Int.reduceEq, Nat.reduceEqDiff, Int.reduceToNat, ↓reduceIte, items_ref, set_last, pow18, pow12, List.getElem?_append_left, List.getElem?_append_right, List.getElem?_set_self, List.getElem?_set_ne, Nat.sub_self, id_eq, List.map_cons, List.map_nil, Nat.reducePow, big18, bi_len_ref, bi_list_ref, dBi_len, dBi_list, dGet_ref, dLook_ref, dPut_ref, dCmp_in, dCmp_nin, kOf_int, kOf_str, tOf_two, idx_rs, idx_rt, idx_ri, setD_rs, setD_rt, setD_ref, in_ref, isi_ref, dIsi_ref, meT_pop, meT_insert, meT_reverse, meT_clear, meT_strip, meT_startswith, meT_split, meT_partition, meD_insert, meD_pop, meD_reverse, meD_clear, meD_strip, meD_startswith, meD_partition, meD_split, List.length_append, List.length_map, List.length_range, List.length_set, List.length_reverse]
    refine br (fun h2 => ?_) (fun h2 => ?_)
    · simp (disch := (first | omega | (simp only [List.length_set, List.length_append, List.length_cons, List.length_nil, List.length_map, List.length_range]; omega))) only [sat_ok, sat_exc, sat_bad, Kx_ap, seq_n, seq_t, seq_x, vs_nil, vs_cons, optS_some, optS_none, optS_ite, optS_ite2, optS_map, sat_opt, orD_some, orD_none, orD_none2, varS_some, v_var, v_cst, KM_f, KM_t, KB2_ap, KB1_ap, v_bin, KNeg_i, v_neg, KC2_ap, KC1_ap, v_cmp, KH1_ap, KH2_ap, KH3_ap, v_chn, KIsN_t, KIsN_f, v_isN, v_notN, KAnd_ap, AndB_t, AndB_f, v_and, KOr_ap, OrB_t, OrB_f, v_or, KNot_ap, v_not, KA2_ap, KA1_ap, va_nil, va_cons, KTup_ap, v_tup, KLst_f, KLst_t, v_lst, KI2_ap, KI1_ap, v_idx, KCall_ap, v_call, KIsi_ap, v_isi, KBi_ap, v_bi, KO_i, vo_no, vo_yes, KS3_ap, KS2_ap, KS1_ap, v_sli, KMe3_ap, KMe2_ap, KMe1_ap, v_me, KLrg_ap, v_lrng, KLv2_t, KLv2_f, KLv_ap, v_lrev, v_dnew, KInC_ap, v_inC, v_isE, v_exf, KItm_ap, vi_any, KRng_ap, vi_rng, KRrg_ap, vi_rrng, KZip_ap, vi_zip, KRev_ap, vi_rev, KCmp_ap, v_comp, AsgS_some, KTr_ap, vc_no, vc_yes, KN_ap, KSet_ap, vs_pass, vs_ret, vs_retN, vs_expr, vs_set, Br_T, Br_F, Bif_some, KIf_ap, vs_ifs, ic_and, ic_or, ic_not, ic_var, ic_cst, ic_cmp, ic_chn, ic_isN, ic_notN, ic_idx, ic_call, ic_isi, ic_bi, ic_me, ic_inC, ic_isE, ic_lrev, KFor_ap, vs_for, KForI_ap, KForA_ref, KForA_tup, KForA_lst, KForA_scr, KForA_str, vs_forA, KSI3_ap, KSI2_ap, KSI1_ap, vs_setI, KUnp_ap, vs_unp, KAug2_t, KAug2_f, AugS_ap, vs_aug, vs_raise, gone_n, gone_n0, gone_t, gone_x, Hdl_ap, try_n, try_t, try_x, vs_try, Bwh_some, BrW_T, BrW_F, KWh_ap, loopG_nil', bin_add, bin_sub, bin_mul, bin_div, bin_mod, bin_muls, add_str, add_tup, add_lst, add_rl, cmp_eq, cmp_ne, cmp_lt, cmp_le, cmp_gt, cmp_ge, cmp_in, cmp_notin, eqD_int, eqD_str, in_str1, in_tup, in_lst, truth_bl, truth_non, truth_int, truth_str, truth_tup, truth_lst, dBi_s, dBi_i, dBi_t, dLook_t, dLook_l, dLook_s, dLook_c, idx_tup, idx_lst, idx_str, idx_scr, bi_len_str, bi_len_tup, bi_len_lst, bi_len_scr, bi_int_int, bi_int_bl, bi_int_str, bi_str_int, bi_list_tup, bi_list_lst, bi_list_scr, bi_tuple_tup, bi_tuple_lst, bi_min2, bi_max2, sli_str, sli_tup, sli_lst, meT_append, meT_join, asL_ref, asL_lst, meD_append, meD_join, rng1, rng2, isi_i, isi_b, isi_s, isi_t, isi_l, isi_n, isCl, List.any_cons, List.any_nil, zip_tup, zip_lst, rev_tup, rev_lst, lrev_tup, lrev_lst, asg_nm, asg_tp2, asg_tp3, items_tup, items_lst, items_scr, items_str, Option.map_some, Option.map_none, Option.bind_some, Option.isSome_some, atL_0, atL_1, atL_2, atL_3, List.getElem?_cons_zero, List.getElem?_cons_succ, List.getElem?_nil, List.set_cons_zero, List.set_cons_succ, List.set_nil, List.length_cons, List.length_nil, List.cons_append, List.nil_append, decide_eq_true_eq, decide_eq_false_iff_not, Bool.not_eq_true', Bool.not_true, Bool.not_false, Bool.false_eq_true, Bool.or_false, Bool.or_true, Bool.true_or, Bool.and_true, Bool.and_false, if_true, wipes_cons, wipes_nil, isNon_non, isNon_bl, isNon_int, isNon_str, isNon_tup, isNon_lst, isNon_ref, Me.fresh, true_and, and_true, slotOk_s, slotOk_n, hide_s, hide_n, ne_eq, not_true_eq_false, not_false_eq_true, Bool.and_self, S_eq, String.reduceEq, Int.reduceLT, Int.reduceLE, Nat.reduceLeDiff, Nat.reduceAdd, Nat.reduceLT, Nat.reduceMul, Int.reduceNeg, Nat.zero_add, Int.reduceAdd, Int.reduceSub, Int.reduceEq, Nat.reduceEqDiff, Int.reduceToNat, ↓reduceIte, items_ref, set_last, pow18, pow12, List.getElem?_append_left, List.getElem?_append_right, List.getElem?_set_self, List.getElem?_set_ne, Nat.sub_self, id_eq, List.map_cons, List.map_nil, Nat.reducePow, big18, bi_len_ref, bi_list_ref, dBi_len, dBi_list, dGet_ref, dLook_ref, dPut_ref, dCmp_in, dCmp_nin, kOf_int, kOf_str, tOf_two, idx_rs, idx_rt, idx_ri, setD_rs, setD_rt, setD_ref, in_ref, isi_ref, dIsi_ref, meT_pop, meT_insert, meT_reverse, meT_clear, meT_strip, meT_startswith, meT_split, meT_partition, meD_insert, meD_pop, meD_reverse, meD_clear, meD_strip, meD_startswith, meD_partition, meD_split, List.length_append, List.length_map, List.length_range, List.length_set, List.length_reverse, ew]
      exact Rq_pl rfl ⟨w, hw, rfl⟩
    · simp (disch := (first | omega | (simp only [List.length_set, List.length_append, List.length_cons, List.length_nil, List.length_map, List.length_range]; omega))) only [sat_ok, sat_exc, sat_bad, Kx_ap, seq_n, seq_t, seq_x, vs_nil, vs_cons, optS_some, optS_none, optS_ite, optS_ite2, optS_map, sat_opt, orD_some, orD_none, orD_none2, varS_some, v_var, v_cst, KM_f, KM_t, KB2_ap, KB1_ap, v_bin, KNeg_i, v_neg, KC2_ap, KC1_ap, v_cmp, KH1_ap, KH2_ap, KH3_ap, v_chn, KIsN_t, KIsN_f, v_isN, v_notN, KAnd_ap, AndB_t, AndB_f, v_and, KOr_ap, OrB_t, OrB_f, v_or, KNot_ap, v_not, KA2_ap, KA1_ap, va_nil, va_cons, KTup_ap, v_tup, KLst_f, KLst_t, v_lst, KI2_ap, KI1_ap, v_idx, KCall_ap, v_call, KIsi_ap, v_isi, KBi_ap, v_bi, KO_i, vo_no, vo_yes, KS3_ap, KS2_ap, KS1_ap, v_sli, KMe3_ap, KMe2_ap, KMe1_ap, v_me, KLrg_ap, v_lrng, KLv2_t, KLv2_f, KLv_ap, v_lrev, v_dnew, KInC_ap, v_inC, v_isE, v_exf, KItm_ap, vi_any, KRng_ap, vi_rng, KRrg_ap, vi_rrng, KZip_ap, vi_zip, KRev_ap, vi_rev, KCmp_ap, v_comp, AsgS_some, KTr_ap, vc_no, vc_yes, KN_ap, KSet_ap, vs_pass, vs_ret, vs_retN, vs_expr, vs_set, Br_T, Br_F, Bif_some, KIf_ap, vs_ifs, ic_and, ic_or, ic_not, ic_var, ic_cst, ic_cmp, ic_chn, ic_isN, ic_notN, ic_idx, ic_call, ic_isi, ic_bi, ic_me, ic_inC, ic_isE, ic_lrev, KFor_ap, vs_for, KForI_ap, KForA_ref, KForA_tup, KForA_lst, KForA_scr, KForA_str, vs_forA, KSI3_ap, KSI2_ap, KSI1_ap, vs_setI, KUnp_ap, vs_unp, KAug2_t, KAug2_f, AugS_ap, vs_aug, vs_raise, gone_n, gone_n0, gone_t, gone_x, Hdl_ap, try_n, try_t, try_x, vs_try, Bwh_some, BrW_T, BrW_F, KWh_ap, loopG_nil', bin_add, bin_sub, bin_mul, bin_div, bin_mod, bin_muls, add_str, add_tup, add_lst, add_rl, cmp_eq, cmp_ne, cmp_lt, cmp_le, cmp_gt, cmp_ge, cmp_in, cmp_notin, eqD_int, eqD_str, in_str1, in_tup, in_lst, truth_bl, truth_non, truth_int, truth_str, truth_tup, truth_lst, dBi_s, dBi_i, dBi_t, dLook_t, dLook_l, dLook_s, dLook_c, idx_tup, idx_lst, idx_str, idx_scr, bi_len_str, bi_len_tup, bi_len_lst, bi_len_scr, bi_int_int, bi_int_bl, bi_int_str, bi_str_int, bi_list_tup, bi_list_lst, bi_list_scr, bi_tuple_tup, bi_tuple_lst, bi_min2, bi_max2, sli_str, sli_tup, sli_lst, meT_append, meT_join, asL_ref, asL_lst, meD_append, meD_join, rng1, rng2, isi_i, isi_b, isi_s, isi_t, isi_l, isi_n, isCl, List.any_cons, List.any_nil, zip_tup, zip_lst, rev_tup, rev_lst, lrev_tup, lrev_lst, asg_nm, asg_tp2, asg_tp3, items_tup, items_lst, items_scr, items_str, Option.map_some, Option.map_none, Option.bind_some, Option.isSome_some, atL_0, atL_1, atL_2, atL_3, List.getElem?_cons_zero, List.getElem?_cons_succ, List.getElem?_nil, List.set_cons_zero, List.set_cons_succ, List.set_nil, List.length_cons, List.length_nil, List.cons_append, List.nil_append, decide_eq_true_eq, decide_eq_false_iff_not, Bool.not_eq_true', Bool.not_true, Bool.not_false, Bool.false_eq_true, Bool.or_false, Bool.or_true, Bool.true_or, Bool.and_true, Bool.and_false, if_true, wipes_cons, wipes_nil, isNon_non, isNon_bl, isNon_int, isNon_str, isNon_tup, isNon_lst, isNon_ref, Me.fresh, true_and, and_true, slotOk_s, slotOk_n, hide_s, hide_n, ne_eq, not_true_eq_false, not_false_eq_true, Bool.and_self, S_eq, String.reduceEq, Int.reduceLT, Int.reduceLE, Nat.reduceLeDiff, Nat.reduceAdd, Nat.reduceLT, Nat.reduceMul, Int.reduceNeg, Nat.zero_add, Int.reduceAdd, Int.reduceSub, Int.reduceEq, Nat.reduceEqDiff, Int.reduceToNat, ↓reduceIte, items_ref, set_last, pow18, pow12, List.getElem?_append_left, List.getElem?_append_right, List.getElem?_set_self, List.getElem?_set_ne, Nat.sub_self, id_eq, List.map_cons, List.map_nil, Nat.reducePow, big18, bi_len_ref, bi_list_ref, dBi_len, dBi_list, dGet_ref, dLook_ref, dPut_ref, dCmp_in, dCmp_nin, kOf_int, kOf_str, tOf_two, idx_rs, idx_rt, idx_ri, setD_rs, setD_rt, setD_ref, in_ref, isi_ref, dIsi_ref, meT_pop, meT_insert, meT_reverse, meT_clear, meT_strip, meT_startswith, meT_split, meT_partition, meD_insert, meD_pop, meD_reverse, meD_clear, meD_strip, meD_startswith, meD_partition, meD_split, List.length_append, List.length_map, List.length_range, List.length_set, List.length_reverse]
  · simp (disch := (first | omega | (simp only [List.length_set, List.length_append, List.length_cons, List.length_nil, List.length_map, List.length_range]; omega))) only [sat_ok, sat_exc, sat_bad, Kx_ap, seq_n, seq_t, seq_x, vs_nil, vs_cons, optS_some, optS_none, optS_ite, optS_ite2, optS_map, sat_opt, orD_some, orD_none, orD_none2, varS_some, v_var, v_cst, KM_f, KM_t, KB2_ap, KB1_ap, v_bin, KNeg_i, v_neg, KC2_ap, KC1_ap, v_cmp, KH1_ap, KH2_ap, KH3_ap, v_chn, KIsN_t, KIsN_f, v_isN, v_notN, KAnd_ap, AndB_t, AndB_f, v_and, KOr_ap, OrB_t, OrB_f, v_or, KNot_ap, v_not, KA2_ap, KA1_ap, va_nil, va_cons, KTup_ap, v_tup, KLst_f, KLst_t, v_lst, KI2_ap, KI1_ap, v_idx, KCall_ap, v_call, KIsi_ap, v_isi, KBi_ap, v_bi, KO_i, vo_no, vo_yes, KS3_ap, KS2_ap, KS1_ap, v_sli, KMe3_ap, KMe2_ap, KMe1_ap, v_me, KLrg_ap, v_lrng, KLv2_t, KLv2_f, KLv_ap, v_lrev, v_dnew, KInC_ap, v_inC, v_isE, v_exf, KItm_ap, vi_any, KRng_ap, vi_rng, KRrg_ap, vi_rrng, KZip_ap, vi_zip, KRev_ap, vi_rev, KCmp_ap, v_comp, AsgS_some, KTr_ap, vc_no, vc_yes, KN_ap, KSet_ap, vs_pass, vs_ret, vs_retN, vs_expr, vs_set, Br_T, Br_F, Bif_some, KIf_ap, vs_ifs, ic_and, ic_or, ic_not, ic_var, ic_cst, ic_cmp, ic_chn, ic_isN, ic_notN, ic_idx, ic_call, ic_isi, ic_bi, ic_me, ic_inC, ic_isE, ic_lrev, KFor_ap, vs_for, KForI_ap, KForA_ref, KForA_tup, KForA_lst, KForA_scr, KForA_str, vs_forA, KSI3_ap, KSI2_ap, KSI1_ap, vs_setI, KUnp_ap, vs_unp, KAug2_t, KAug2_f, AugS_ap, vs_aug, vs_raise, gone_n, gone_n0, gone_t, gone_x, Hdl_ap, try_n, try_t, try_x, vs_try, Bwh_some, BrW_T, BrW_F, KWh_ap, loopG_nil', bin_add, bin_sub, bin_mul, bin_div, bin_mod, bin_muls, add_str, add_tup, add_lst, add_rl, cmp_eq, cmp_ne, cmp_lt, cmp_le, cmp_gt, cmp_ge, cmp_in, cmp_notin, eqD_int, eqD_str, in_str1, in_tup, in_lst, truth_bl, truth_non, truth_int, truth_str, truth_tup, truth_lst, dBi_s, dBi_i, dBi_t, dLook_t, dLook_l, dLook_s, dLook_c, idx_tup, idx_lst, idx_str, idx_scr, bi_len_str, bi_len_tup, bi_len_lst, bi_len_scr, bi_int_int, bi_int_bl, bi_int_str, bi_str_int, bi_list_tup, bi_list_lst, bi_list_scr, bi_tuple_tup, bi_tuple_lst, bi_min2, bi_max2, sli_str, sli_tup, sli_lst, meT_append, meT_join, asL_ref, asL_lst, meD_append, meD_join, rng1, rng2, isi_i, isi_b, isi_s, isi_t, isi_l, isi_n, isCl, List.any_cons, List.any_nil, zip_tup, zip_lst, rev_tup, rev_lst, lrev_tup, lrev_lst, asg_nm, asg_tp2, asg_tp3, items_tup, items_lst, items_scr, items_str, Option.map_some, Option.map_none, Option.bind_some, Option.isSome_some, atL_0, atL_1, atL_2, atL_3, List.getElem?_cons_zero, List.getElem?_cons_succ, List.getElem?_nil, List.set_cons_zero, List.set_cons_succ, List.set_nil, List.length_cons, List.length_nil, List.cons_append, List.nil_append, decide_eq_true_eq, decide_eq_false_iff_not, Bool.not_eq_true', Bool.not_true, Bool.not_false, Bool.false_eq_true, Bool.or_false, Bool.or_true, Bool.true_or, Bool.and_true, Bool.and_false, if_true, wipes_cons, wipes_nil, isNon_non, isNon_bl, isNon_int, isNon_str, isNon_tup, isNon_lst, isNon_ref, Me.fresh, true_and, and_true, slotOk_s, slotOk_n, hide_s, hide_n, ne_eq, not_true_eq_false, not_false_eq_true, Bool.and_self, S_eq, String.reduceEq, Int.reduceLT, Int.reduceLE, Nat.reduceLeDiff, Nat.reduceAdd, Nat.reduceLT, Nat.reduceMul, Int.reduceNeg, Nat.zero_add, Int.reduceAdd, Int.reduceSub, Int.reduceEq, Nat.reduceEqDiff, Int.reduceToNat, ↓reduceIte, items_ref, set_last, pow18, pow12, List.getElem?_append_left, List.getElem?_append_right, List.getElem?_set_self, List.getElem?_set_ne, Nat.sub_self, id_eq, List.map_cons, List.map_nil, Nat.reducePow, big18, bi_len_ref, bi_list_ref, dBi_len, dBi_list, dGet_ref, dLook_ref, dPut_ref, dCmp_in, dCmp_nin, kOf_int, kOf_str, tOf_two, idx_rs, idx_rt, idx_ri, setD_rs, setD_rt, setD_ref, in_ref, isi_ref, dIsi_ref, meT_pop, meT_insert, meT_reverse, meT_clear, meT_strip, meT_startswith, meT_split, meT_partition, meD_insert, meD_pop, meD_reverse, meD_clear, meD_strip, meD_startswith, meD_partition, meD_split, List.length_append, List.length_map, List.length_range, List.length_set, List.length_reverse]
  · rintro _ _ ⟨rfl, rfl⟩
    have hp : 0 < 1 + c % 8 := by omega
    have b1 : 0 ≤ c / 8 % (1 + c % 8) := Int.emod_nonneg _ (by omega)
    have b2 : c / 8 % (1 + c % 8) < 1 + c % 8 := Int.emod_lt_of_pos _ hp
    have b3 : 1 + c % 8 ≤ 8 := by omega
    generalize hl : 1 + c % 8 = l at *
    generalize ha : c / 8 % l = a at *
    simp (disch := (first | omega | (simp only [List.length_set, List.length_append, List.length_cons, List.length_nil, List.length_map, List.length_range]; omega))) only [sat_ok, sat_exc, sat_bad, Kx_ap, seq_n, seq_t, seq_x, vs_nil, vs_cons, optS_some, optS_none, optS_ite, optS_ite2, optS_map, sat_opt, orD_some, orD_none, orD_none2, varS_some, v_var, v_cst, KM_f, KM_t, KB2_ap, KB1_ap, v_bin, KNeg_i, v_neg, KC2_ap, KC1_ap, v_cmp, KH1_ap, KH2_ap, KH3_ap, v_chn, KIsN_t, KIsN_f, v_isN, v_notN, KAnd_ap, AndB_t, AndB_f, v_and, KOr_ap, OrB_t, OrB_f, v_or, KNot_ap, v_not, KA2_ap, KA1_ap, va_nil, va_cons, KTup_ap, v_tup, KLst_f, KLst_t, v_lst, KI2_ap, KI1_ap, v_idx, KCall_ap, v_call, KIsi_ap, v_isi, KBi_ap, v_bi, KO_i, vo_no, vo_yes, KS3_ap, KS2_ap, KS1_ap, v_sli, KMe3_ap, KMe2_ap, KMe1_ap, v_me, KLrg_ap, v_lrng, KLv2_t, KLv2_f, KLv_ap, v_lrev, v_dnew, KInC_ap, v_inC, v_isE, v_exf, KItm_ap, vi_any, KRng_ap, vi_rng, KRrg_ap, vi_rrng, KZip_ap, vi_zip, KRev_ap, vi_rev, KCmp_ap, v_comp, AsgS_some, KTr_ap, vc_no, vc_yes, KN_ap, KSet_ap, vs_pass, vs_ret, vs_retN, vs_expr, vs_set, Br_T, Br_F, Bif_some, KIf_ap, vs_ifs, ic_and, ic_or, ic_not, ic_var, ic_cst, ic_cmp, ic_chn, ic_isN, ic_notN, ic_idx, ic_call, ic_isi, ic_bi, ic_me, ic_inC, ic_isE, ic_lrev, KFor_ap, vs_for, KForI_ap, KForA_ref, KForA_tup, KForA_lst, KForA_scr, KForA_str, vs_forA, KSI3_ap, KSI2_ap, KSI1_ap, vs_setI, KUnp_ap, vs_unp, KAug2_t, KAug2_f, AugS_ap, vs_aug, vs_raise, gone_n, gone_n0, gone_t, gone_x, Hdl_ap, try_n, try_t, try_x, vs_try, Bwh_some, BrW_T, BrW_F, KWh_ap, loopG_nil', bin_add, bin_sub, bin_mul, bin_div, bin_mod, bin_muls, add_str, add_tup, add_lst, add_rl, cmp_eq, cmp_ne, cmp_lt, cmp_le, cmp_gt, cmp_ge, cmp_in, cmp_notin, eqD_int, eqD_str, in_str1, in_tup, in_lst, truth_bl, truth_non, truth_int, truth_str, truth_tup, truth_lst, dBi_s, dBi_i, dBi_t, dLook_t, dLook_l, dLook_s, dLook_c, idx_tup, idx_lst, idx_str, idx_scr, bi_len_str, bi_len_tup, bi_len_lst, bi_len_scr, bi_int_int, bi_int_bl, bi_int_str, bi_str_int, bi_list_tup, bi_list_lst, bi_list_scr, bi_tuple_tup, bi_tuple_lst, bi_min2, bi_max2, sli_str, sli_tup, sli_lst, meT_append, meT_join, asL_ref, asL_lst, meD_append, meD_join, rng1, rng2, isi_i, isi_b, isi_s, isi_t, isi_l, isi_n, isCl, List.any_cons, List.any_nil, zip_tup, zip_lst, rev_tup, rev_lst, lrev_tup, lrev_lst, asg_nm, asg_tp2, asg_tp3, items_tup, items_lst, items_scr, items_str, Option.map_some, Option.map_none, Option.bind_some, Option.isSome_some, atL_0, atL_1, atL_2, atL_3, List.getElem?_cons_zero, List.getElem?_cons_succ, List.getElem?_nil, List.set_cons_zero, List.set_cons_succ, List.set_nil, List.length_cons, List.length_nil, List.cons_append, List.nil_append, decide_eq_true_eq, decide_eq_false_iff_not, Bool.not_eq_true', Bool.not_true, Bool.not_false, Bool.false_eq_true, Bool.or_false, Bool.or_true, Bool.true_or, Bool.and_true, Bool.and_false, if_true, wipes_cons, wipes_nil, isNon_non, isNon_bl, isNon_int, isNon_str, isNon_tup, isNon_lst, isNon_ref, Me.fresh, true_and, and_true, slotOk_s, slotOk_n, hide_s, hide_n, ne_eq, not_true_eq_false, not_false_eq_true, Bool.and_self, S_eq, String.reduceEq, Int.reduceLT, Int.reduceLE, Nat.reduceLeDiff, Nat.reduceAdd, Nat.reduceLT, Nat.reduceMul, Int.reduceNeg, Nat.zero_add, Int.reduceAdd, Int.reduceSub, Int.reduceEq, Nat.reduceEqDiff, Int.reduceToNat, ↓reduceIte, items_ref, set_last, pow18, pow12, List.getElem?_append_left, List.getElem?_append_right, List.getElem?_set_self, List.getElem?_set_ne, Nat.sub_self, id_eq, List.map_cons, List.map_nil, Nat.reducePow, big18, bi_len_ref, bi_list_ref, dBi_len, dBi_list, dGet_ref, dLook_ref, dPut_ref, dCmp_in, dCmp_nin, kOf_int, kOf_str, tOf_two, idx_rs, idx_rt, idx_ri, setD_rs, setD_rt, setD_ref, in_ref, isi_ref, dIsi_ref, meT_pop, meT_insert, meT_reverse, meT_clear, meT_strip, meT_startswith, meT_split, meT_partition, meD_insert, meD_pop, meD_reverse, meD_clear, meD_strip, meD_startswith, meD_partition, meD_split, List.length_append, List.length_map, List.length_range, List.length_set, List.length_reverse, hl, ha, ex, ey, List.length_append, rep_len1]
    repeat refine And.intro (by first | omega | decide | assumption | exact sm_r (by omega) | exact sm_l (by omega)) ?_
    refine Rq_pl rfl ⟨_, ⟨?_, ?_, ?_⟩, rfl⟩
    · simp only [List.length_append, List.length_cons, List.length_nil]; omega
    · simp only [List.length_append, rep_len1, List.length_cons, List.length_nil]; omega
    · intro d hd
      rcases List.mem_append.mp hd with hd | hd
      · rcases List.mem_append.mp hd with hd | hd
        · exact rep_ltr hx _ d hd
        · simp at hd; subst hd; exact hy
      · exact rep_ltr hx _ d hd
/-! the rows, as they lie -/
def kp (i : Nat) : Nat := if i = 0 then 0 else 2 * i + 1
def rp (i : Nat) : Nat := kp i + 1
structure HR (h : AH) (rows : List Rw) : Prop where
  len : h.length = 2 * rows.length + 1
  top : h[2]? = some (.lst ((List.range rows.length).map fun i => .ref (rp i)))
  row : ∀ (i : Nat) w, rows[i]? = some w → h[rp i]? = some (.lst [.str w.nm, .int w.mr, .ref (kp i), .int w.dp])
  kid : ∀ (i : Nat) w, rows[i]? = some w → h[kp i]? = some (.lst (w.ks.map fun j => .int (j : Nat)))
theorem RB.klen {most : Nat} {rows : List Rw} {par : Nat → Nat} (rb : RB most rows par) {up : Nat} {w : Rw} (hw : rows[up]? = some w) : w.ks.length ≤ rows.length := by
  have q := rb.sum up w (fun _ => 1) hw
  rw [sum_ones] at q
  rw [q]
  have : ∀ n : Nat, Sg n (fun j => if 1 ≤ j ∧ par j = up then 1 else 0) ≤ n := fun n => by
    induction n with
    | zero => simp [Sg]
    | succ n ih => rw [Sg_succ]; split <;> omega
  exact this _
theorem HR.step {h : AH} {rows : List Rw} (r : HR h rows) {up p : Nat} {w : Rw} (hw : rows[up]? = some w) (nm : List Nat) (mk : Nat) :
    HR (((h.set (kp up) (Ob.lst ((putK' w p rows.length).ks.map fun j => .int (j : Nat)))) ++ [Ob.lst []] ++ [Ob.lst [.str nm, .int mk, .ref (2 * rows.length + 1), .int (w.dp + 1 : Nat)]]).set 2 (Ob.lst (((List.range rows.length).map fun i => D.ref (rp i)) ++ [.ref (2 * rows.length + 2)]))) (rows.set up (putK' w p rows.length) ++ [Rw.mk nm mk [] (w.dp + 1)]) := by
  have hup := (List.getElem?_eq_some_iff.mp hw).1
  have rl := r.len
  have k2 : ∀ i, kp i ≠ 2 := fun i => by unfold kp; split <;> omega
  have r2 : ∀ i, rp i ≠ 2 := fun i => by unfold rp kp; split <;> omega
  have kl : ∀ i, i < rows.length → kp i < h.length := fun i hi => by unfold kp; split <;> omega
  have rpl : ∀ i, i < rows.length → rp i < h.length := fun i hi => by unfold rp kp; split <;> omega
  have rk : ∀ i j, rp i ≠ kp j := fun i j => by unfold rp kp; split <;> split <;> omega
  have kk : ∀ i j, i ≠ j → kp i ≠ kp j := fun i j hij => by unfold kp; split <;> split <;> omega
  have kn : kp rows.length = 2 * rows.length + 1 := by unfold kp; rw [if_neg (by omega)]
  have rn : rp rows.length = 2 * rows.length + 2 := by unfold rp; rw [kn]
  have go : ∀ i : Nat, i ≠ 2 → i < h.length → ∀ (x y z : Ob) (o : Option Ob), (h.set (kp up) x)[i]? = o → (((h.set (kp up) x ++ [y] ++ [z]).set 2 (Ob.lst (((List.range rows.length).map fun i => D.ref (rp i)) ++ [D.ref (2 * rows.length + 2)])))[i]?) = o := by
    intro i h2 hl x y z o e
    rw [List.getElem?_set_ne (fun z => h2 z.symm), List.append_assoc, List.getElem?_append_left (by rw [List.length_set]; exact hl)]
    exact e
  have at_ : ∀ (i : Nat) u, (rows.set up (putK' w p rows.length) ++ [(Rw.mk nm mk [] (w.dp + 1))])[i]? = some u → (i = up ∧ u = putK' w p rows.length) ∨ (i ≠ up ∧ i < rows.length ∧ rows[i]? = some u) ∨ (i = rows.length ∧ u = (Rw.mk nm mk [] (w.dp + 1))) := by
    intro i u e
    by_cases hi : i < rows.length
    · rw [List.getElem?_append_left (by rw [List.length_set]; exact hi)] at e
      by_cases hu : i = up
      · subst hu
        rw [List.getElem?_set_self hi] at e
        cases e
        exact .inl ⟨rfl, rfl⟩
      · rw [List.getElem?_set_ne (fun z => hu z.symm)] at e
        exact .inr (.inl ⟨hu, hi, e⟩)
    · rw [List.getElem?_append_right (by rw [List.length_set]; omega), List.length_set] at e
      have h0 := (List.getElem?_eq_some_iff.mp e).1
      have : i - rows.length = 0 := by simp at h0; omega
      rw [this] at e
      simp at e
      exact .inr (.inr ⟨by omega, e.symm⟩)
  refine ⟨by simp; omega, ?_, fun i u e => ?_, fun i u e => ?_⟩
  · rw [List.getElem?_set_self (by simp; omega)]
    simp [List.range_succ, rn]
  · rcases at_ i u e with ⟨rfl, rfl⟩ | ⟨hne, hi, e⟩ | ⟨rfl, rfl⟩
    · exact go _ (r2 i) (rpl i hup) _ _ _ _ (by rw [List.getElem?_set_ne (fun z => rk _ _ z.symm)]; exact r.row i w hw)
    · exact go _ (r2 i) (rpl i hi) _ _ _ _ (by rw [List.getElem?_set_ne (fun z => rk _ _ z.symm)]; exact r.row i u e)
    · rw [List.getElem?_set_ne (fun z => r2 _ z.symm), rn, List.getElem?_append_right (by simp; omega)]
      simp [rl, kn]
  · rcases at_ i u e with ⟨rfl, rfl⟩ | ⟨hne, hi, e⟩ | ⟨rfl, rfl⟩
    · exact go _ (k2 i) (kl i hup) _ _ _ _ (by rw [List.getElem?_set_self (kl i hup)])
    · exact go _ (k2 i) (kl i hi) _ _ _ _ (by rw [List.getElem?_set_ne (fun z => kk _ _ (fun q => hne q.symm) z)]; exact r.kid i u e)
    · rw [List.getElem?_set_ne (fun z => k2 _ z.symm), kn, List.append_assoc, List.getElem?_append_right (by simp; omega)]
      simp [rl]
theorem s_built (k : Nat) (ns : List Int) (wd : Int) (most : Nat) (hm : 2 ≤ most ∧ most ≤ 100) : Gv prog (k + 2) i__law_built [.scr ns, .int wd, .int most] fun d => ∃ t : Tr, d = t.d ∧ t.ok ∧ t.ht ≤ most ∧ t.sz ≤ 60 := by
  refine gv_of (fn := f__law_built) rfl rfl rfl ?_
  simp only [st0, List.map_cons, List.map_nil, List.length_cons, List.length_nil, List.replicate_succ, List.replicate_zero, List.cons_append, List.nil_append, Nat.reduceSub, Nat.reduceAdd, f__law_built]
  have es : ∀ h : AH, sliD h (.scr ns) none (some 59) = some (.lst ((ns.take 59).map .int)) := fun h => by
    show some (D.lst (cutL (ns.map D.int) none (some ((59 : Nat) : Int)))) = _
    rw [cutL_to, List.map_take]
  simp (disch := (first | omega | (simp only [List.length_set, List.length_append, List.length_cons, List.length_nil, List.length_map, List.length_range]; omega))) only [sat_ok, sat_exc, sat_bad, Kx_ap, seq_n, seq_t, seq_x, vs_nil, vs_cons, optS_some, optS_none, optS_ite, optS_ite2, optS_map, sat_opt, orD_some, orD_none, orD_none2, varS_some, v_var, v_cst, KM_f, KM_t, KB2_ap, KB1_ap, v_bin, KNeg_i, v_neg, KC2_ap, KC1_ap, v_cmp, KH1_ap, KH2_ap, KH3_ap, v_chn, KIsN_t, KIsN_f, v_isN, v_notN, KAnd_ap, AndB_t, AndB_f, v_and, KOr_ap, OrB_t, OrB_f, v_or, KNot_ap, v_not, KA2_ap, KA1_ap, va_nil, va_cons, KTup_ap, v_tup, KLst_f, KLst_t, v_lst, KI2_ap, KI1_ap, v_idx, KCall_ap, v_call, KIsi_ap, v_isi, KBi_ap, v_bi, KO_i, vo_no, vo_yes, KS3_ap, KS2_ap, KS1_ap, v_sli, KMe3_ap, KMe2_ap, KMe1_ap, v_me, KLrg_ap, v_lrng, KLv2_t, KLv2_f, KLv_ap, v_lrev, v_dnew, KInC_ap, v_inC, v_isE, v_exf, KItm_ap, vi_any, KRng_ap, vi_rng, KRrg_ap, vi_rrng, KZip_ap, vi_zip, KRev_ap, vi_rev, KCmp_ap, v_comp, AsgS_some, KTr_ap, vc_no, vc_yes, KN_ap, KSet_ap, vs_pass, vs_ret, vs_retN, vs_expr, vs_set, Br_T, Br_F, Bif_some, KIf_ap, vs_ifs, ic_and, ic_or, ic_not, ic_var, ic_cst, ic_cmp, ic_chn, ic_isN, ic_notN, ic_idx, ic_call, ic_isi, ic_bi, ic_me, ic_inC, ic_isE, ic_lrev, KFor_ap, vs_for, KForI_ap, KForA_ref, KForA_tup, KForA_lst, KForA_scr, KForA_str, vs_forA, KSI3_ap, KSI2_ap, KSI1_ap, vs_setI, KUnp_ap, vs_unp, KAug2_t, KAug2_f, AugS_ap, vs_aug, vs_raise, gone_n, gone_n0, gone_t, gone_x, Hdl_ap, try_n, try_t, try_x, vs_try, Bwh_some, BrW_T, BrW_F, KWh_ap, loopG_nil', bin_add, bin_sub, bin_mul, bin_div, bin_mod, bin_muls, add_str, add_tup, add_lst, add_rl, cmp_eq, cmp_ne, cmp_lt, cmp_le, cmp_gt, cmp_ge, cmp_in, cmp_notin, eqD_int, eqD_str, in_str1, in_tup, in_lst, truth_bl, truth_non, truth_int, truth_str, truth_tup, truth_lst, dBi_s, dBi_i, dBi_t, dLook_t, dLook_l, dLook_s, dLook_c, idx_tup, idx_lst, idx_str, idx_scr, bi_len_str, bi_len_tup, bi_len_lst, bi_len_scr, bi_int_int, bi_int_bl, bi_int_str, bi_str_int, bi_list_tup, bi_list_lst, bi_list_scr, bi_tuple_tup, bi_tuple_lst, bi_min2, bi_max2, sli_str, sli_tup, sli_lst, meT_append, meT_join, asL_ref, asL_lst, meD_append, meD_join, rng1, rng2, isi_i, isi_b, isi_s, isi_t, isi_l, isi_n, isCl, List.any_cons, List.any_nil, zip_tup, zip_lst, rev_tup, rev_lst, lrev_tup, lrev_lst, asg_nm, asg_tp2, asg_tp3, items_tup, items_lst, items_scr, items_str, Option.map_some, Option.map_none, Option.bind_some, Option.isSome_some, atL_0, atL_1, atL_2, atL_3, List.getElem?_cons_zero, List.getElem?_cons_succ, List.getElem?_nil, List.set_cons_zero, List.set_cons_succ, List.set_nil, List.length_cons, List.length_nil, List.cons_append, List.nil_append, decide_eq_true_eq, decide_eq_false_iff_not, Bool.not_eq_true', Bool.not_true, Bool.not_false, Bool.false_eq_true, Bool.or_false, Bool.or_true, Bool.true_or, Bool.and_true, Bool.and_false, if_true, wipes_cons, wipes_nil, isNon_non, isNon_bl, isNon_int, isNon_str, isNon_tup, isNon_lst, isNon_ref, Me.fresh, true_and, and_true, slotOk_s, slotOk_n, hide_s, hide_n, ne_eq, not_true_eq_false, not_false_eq_true, Bool.and_self, S_eq, String.reduceEq, Int.reduceLT, Int.reduceLE, Nat.reduceLeDiff, Nat.reduceAdd, Nat.reduceLT, Nat.reduceMul, Int.reduceNeg, Nat.zero_add, Int.reduceAdd, Int.reduceSub, Int.reduceEq, Nat.reduceEqDiff, Int.reduceToNat, ↓reduceIte, items_ref, set_last, pow18, pow12, List.getElem?_append_left, List.getElem?_append_right, List.getElem?_set_self, List.getElem?_set_ne, Nat.sub_self, id_eq, List.map_cons, List.map_nil, Nat.reducePow, big18, bi_len_ref, bi_list_ref, dBi_len, dBi_list, dGet_ref, dLook_ref, dPut_ref, dCmp_in, dCmp_nin, kOf_int, kOf_str, tOf_two, idx_rs, idx_rt, idx_ri, setD_rs, setD_rt, setD_ref, in_ref, isi_ref, dIsi_ref, meT_pop, meT_insert, meT_reverse, meT_clear, meT_strip, meT_startswith, meT_split, meT_partition, meD_insert, meD_pop, meD_reverse, meD_clear, meD_strip, meD_startswith, meD_partition, meD_split, List.length_append, List.length_map, List.length_range, List.length_set, List.length_reverse]
  refine gv_sat (g_word k wd 9) ?_
  rintro _ ⟨w0, hw0, rfl⟩
  simp (disch := (first | omega | (simp only [List.length_set, List.length_append, List.length_cons, List.length_nil, List.length_map, List.length_range]; omega))) only [sat_ok, sat_exc, sat_bad, Kx_ap, seq_n, seq_t, seq_x, vs_nil, vs_cons, optS_some, optS_none, optS_ite, optS_ite2, optS_map, sat_opt, orD_some, orD_none, orD_none2, varS_some, v_var, v_cst, KM_f, KM_t, KB2_ap, KB1_ap, v_bin, KNeg_i, v_neg, KC2_ap, KC1_ap, v_cmp, KH1_ap, KH2_ap, KH3_ap, v_chn, KIsN_t, KIsN_f, v_isN, v_notN, KAnd_ap, AndB_t, AndB_f, v_and, KOr_ap, OrB_t, OrB_f, v_or, KNot_ap, v_not, KA2_ap, KA1_ap, va_nil, va_cons, KTup_ap, v_tup, KLst_f, KLst_t, v_lst, KI2_ap, KI1_ap, v_idx, KCall_ap, v_call, KIsi_ap, v_isi, KBi_ap, v_bi, KO_i, vo_no, vo_yes, KS3_ap, KS2_ap, KS1_ap, v_sli, KMe3_ap, KMe2_ap, KMe1_ap, v_me, KLrg_ap, v_lrng, KLv2_t, KLv2_f, KLv_ap, v_lrev, v_dnew, KInC_ap, v_inC, v_isE, v_exf, KItm_ap, vi_any, KRng_ap, vi_rng, KRrg_ap, vi_rrng, KZip_ap, vi_zip, KRev_ap, vi_rev, KCmp_ap, v_comp, AsgS_some, KTr_ap, vc_no, vc_yes, KN_ap, KSet_ap, vs_pass, vs_ret, vs_retN, vs_expr, vs_set, Br_T, Br_F, Bif_some, KIf_ap, vs_ifs, ic_and, ic_or, ic_not, ic_var, ic_cst, ic_cmp, ic_chn, ic_isN, ic_notN, ic_idx, ic_call, ic_isi, ic_bi, ic_me, ic_inC, ic_isE, ic_lrev, KFor_ap, vs_for, KForI_ap, KForA_ref, KForA_tup, KForA_lst, KForA_scr, KForA_str, vs_forA, KSI3_ap, KSI2_ap, KSI1_ap, vs_setI, KUnp_ap, vs_unp, KAug2_t, KAug2_f, AugS_ap, vs_aug, vs_raise, gone_n, gone_n0, gone_t, gone_x, Hdl_ap, try_n, try_t, try_x, vs_try, Bwh_some, BrW_T, BrW_F, KWh_ap, loopG_nil', bin_add, bin_sub, bin_mul, bin_div, bin_mod, bin_muls, add_str, add_tup, add_lst, add_rl, cmp_eq, cmp_ne, cmp_lt, cmp_le, cmp_gt, cmp_ge, cmp_in, cmp_notin, eqD_int, eqD_str, in_str1, in_tup, in_lst, truth_bl, truth_non, truth_int, truth_str, truth_tup, truth_lst, dBi_s, dBi_i, dBi_t, dLook_t, dLook_l, dLook_s, dLook_c, idx_tup, idx_lst, idx_str, idx_scr, bi_len_str, bi_len_tup, bi_len_lst, bi_len_scr, bi_int_int, bi_int_bl, bi_int_str, bi_str_int, bi_list_tup, bi_list_lst, bi_list_scr, bi_tuple_tup, bi_tuple_lst, bi_min2, bi_max2, sli_str, sli_tup, sli_lst, meT_append, meT_join, asL_ref, asL_lst, meD_append, meD_join, rng1, rng2, isi_i, isi_b, isi_s, isi_t, isi_l, isi_n, isCl, List.any_cons, List.any_nil, zip_tup, zip_lst, rev_tup, rev_lst, lrev_tup, lrev_lst, asg_nm, asg_tp2, asg_tp3, items_tup, items_lst, items_scr, items_str, Option.map_some, Option.map_none, Option.bind_some, Option.isSome_some, atL_0, atL_1, atL_2, atL_3, List.getElem?_cons_zero, List.getElem?_cons_succ, List.getElem?_nil, List.set_cons_zero, List.set_cons_succ, List.set_nil, List.length_cons, List.length_nil, List.cons_append, List.nil_append, decide_eq_true_eq, decide_eq_false_iff_not, Bool.not_eq_true', Bool.not_true, Bool.not_false, Bool.false_eq_true, Bool.or_false, Bool.or_true, Bool.true_or, Bool.and_true, Bool.and_false, if_true, wipes_cons, wipes_nil, isNon_non, isNon_bl, isNon_int, isNon_str, isNon_tup, isNon_lst, isNon_ref, Me.fresh, true_and, and_true, slotOk_s, slotOk_n, hide_s, hide_n, ne_eq, not_true_eq_false, not_false_eq_true, Bool.and_self, S_eq, String.reduceEq, Int.reduceLT, Int.reduceLE, Nat.reduceLeDiff, Nat.reduceAdd, Nat.reduceLT, Nat.reduceMul, Int.reduceNeg, Nat.zero_add, Int.reduceAdd, Int.reduceSub, Int.reduceEq, Nat.reduceEqDiff, Int.reduceToNat, ↓reduceIte, items_ref, set_last, pow18, pow12, List.getElem?_append_left, List.getElem?_append_right, List.getElem?_set_self, List.getElem?_set_ne, Nat.sub_self, id_eq, List.map_cons, List.map_nil, Nat.reducePow, big18, bi_len_ref, bi_list_ref, dBi_len, dBi_list, dGet_ref, dLook_ref, dPut_ref, dCmp_in, dCmp_nin, kOf_int, kOf_str, tOf_two, idx_rs, idx_rt, idx_ri, setD_rs, setD_rt, setD_ref, in_ref, isi_ref, dIsi_ref, meT_pop, meT_insert, meT_reverse, meT_clear, meT_strip, meT_startswith, meT_split, meT_partition, meD_insert, meD_pop, meD_reverse, meD_clear, meD_strip, meD_startswith, meD_partition, meD_split, List.length_append, List.length_map, List.length_range, List.length_set, List.length_reverse, es]
  refine loop_sat (fun i => .int i) (ns.take 59) (fun pre s h => ∃ rows par x4 x5 x6 x7, RB most rows par ∧ HR h rows ∧ rows.length = pre.length + 1 ∧ s = [some (.scr ns), some (.int wd), some (.int most), some (.ref 2), x4, x5, x6, x7, none, none, none]) rfl ?_ ?_ ?_
  · refine ⟨[⟨w0, 0, [], 1⟩], fun _ => 0, none, none, none, none, ⟨by simp, ?_, ⟨_, rfl, rfl⟩, ?_, ?_, ?_⟩, ⟨rfl, rfl, ?_, ?_⟩, rfl, rfl⟩
    · intro w hw; simp at hw; subst hw; exact ⟨hw0, by simp, by simp, by show 1 ≤ most; omega⟩
    · intro i w e j hj
      have : i = 0 := by have := (List.getElem?_eq_some_iff.mp e).1; simp at this; exact this
      subst this; simp at e; subst e; cases hj
    · intro j h1 h2; simp at h2; omega
    · intro i w f e
      have : i = 0 := by have := (List.getElem?_eq_some_iff.mp e).1; simp at this; exact this
      subst this; simp at e; subst e
      simp [Sg]
    · intro i w e
      have : i = 0 := by have := (List.getElem?_eq_some_iff.mp e).1; simp at this; exact this
      subst this; simp at e; subst e; rfl
    · intro i w e
      have : i = 0 := by have := (List.getElem?_eq_some_iff.mp e).1; simp at this; exact this
      subst this; simp at e; subst e; rfl
  · rintro pre a post s h e ⟨rows, par, x4, x5, x6, x7, rb, hr, hl, rfl⟩
    have htop := hr.top
    have hlen : pre.length < 59 := by
      have := congrArg List.length e
      simp at this; omega
    have pos := rb.pos
    have u1 : 0 ≤ a % 1000000000000000000 / 5 % (rows.length : Int) := Int.emod_nonneg _ (by omega)
    have u2 : a % 1000000000000000000 / 5 % (rows.length : Int) < rows.length := Int.emod_lt_of_pos _ (by omega)
    simp (disch := (first | omega | (simp only [List.length_set, List.length_append, List.length_cons, List.length_nil, List.length_map, List.length_range]; omega))) only [sat_ok, sat_exc, sat_bad, Kx_ap, seq_n, seq_t, seq_x, vs_nil, vs_cons, optS_some, optS_none, optS_ite, optS_ite2, optS_map, sat_opt, orD_some, orD_none, orD_none2, varS_some, v_var, v_cst, KM_f, KM_t, KB2_ap, KB1_ap, v_bin, KNeg_i, v_neg, KC2_ap, KC1_ap, v_cmp, KH1_ap, KH2_ap, KH3_ap, v_chn, KIsN_t, KIsN_f, v_isN, v_notN, KAnd_ap, AndB_t, AndB_f, v_and, KOr_ap, OrB_t, OrB_f, v_or, KNot_ap, v_not, KA2_ap, KA1_ap, va_nil, va_cons, KTup_ap, v_tup, KLst_f, KLst_t, v_lst, KI2_ap, KI1_ap, v_idx, KCall_ap, v_call, KIsi_ap, v_isi, KBi_ap, v_bi, KO_i, vo_no, vo_yes, KS3_ap, KS2_ap, KS1_ap, v_sli, KMe3_ap, KMe2_ap, KMe1_ap, v_me, KLrg_ap, v_lrng, KLv2_t, KLv2_f, KLv_ap, v_lrev, v_dnew, KInC_ap, v_inC, v_isE, v_exf, KItm_ap, vi_any, KRng_ap, vi_rng, KRrg_ap, vi_rrng, KZip_ap, vi_zip, KRev_ap, vi_rev, KCmp_ap, v_comp, AsgS_some, KTr_ap, vc_no, vc_yes, KN_ap, KSet_ap, vs_pass, vs_ret, vs_retN, vs_expr, vs_set, Br_T, Br_F, Bif_some, KIf_ap, vs_ifs, ic_and, ic_or, ic_not, ic_var, ic_cst, ic_cmp, ic_chn, ic_isN, ic_notN, ic_idx, ic_call, ic_isi, ic_bi, ic_me, ic_inC, ic_isE, ic_lrev, KFor_ap, vs_for, KForI_ap, KForA_ref, KForA_tup, KForA_lst, KForA_scr, KForA_str, vs_forA, KSI3_ap, KSI2_ap, KSI1_ap, vs_setI, KUnp_ap, vs_unp, KAug2_t, KAug2_f, AugS_ap, vs_aug, vs_raise, gone_n, gone_n0, gone_t, gone_x, Hdl_ap, try_n, try_t, try_x, vs_try, Bwh_some, BrW_T, BrW_F, KWh_ap, loopG_nil', bin_add, bin_sub, bin_mul, bin_div, bin_mod, bin_muls, add_str, add_tup, add_lst, add_rl, cmp_eq, cmp_ne, cmp_lt, cmp_le, cmp_gt, cmp_ge, cmp_in, cmp_notin, eqD_int, eqD_str, in_str1, in_tup, in_lst, truth_bl, truth_non, truth_int, truth_str, truth_tup, truth_lst, dBi_s, dBi_i, dBi_t, dLook_t, dLook_l, dLook_s, dLook_c, idx_tup, idx_lst, idx_str, idx_scr, bi_len_str, bi_len_tup, bi_len_lst, bi_len_scr, bi_int_int, bi_int_bl, bi_int_str, bi_str_int, bi_list_tup, bi_list_lst, bi_list_scr, bi_tuple_tup, bi_tuple_lst, bi_min2, bi_max2, sli_str, sli_tup, sli_lst, meT_append, meT_join, asL_ref, asL_lst, meD_append, meD_join, rng1, rng2, isi_i, isi_b, isi_s, isi_t, isi_l, isi_n, isCl, List.any_cons, List.any_nil, zip_tup, zip_lst, rev_tup, rev_lst, lrev_tup, lrev_lst, asg_nm, asg_tp2, asg_tp3, items_tup, items_lst, items_scr, items_str, Option.map_some, Option.map_none, Option.bind_some, Option.isSome_some, atL_0, atL_1, atL_2, atL_3, List.getElem?_cons_zero, List.getElem?_cons_succ, List.getElem?_nil, List.set_cons_zero, List.set_cons_succ, List.set_nil, List.length_cons, List.length_nil, List.cons_append, List.nil_append, decide_eq_true_eq, decide_eq_false_iff_not, Bool.not_eq_true', Bool.not_true, Bool.not_false, Bool.false_eq_true, Bool.or_false, Bool.or_true, Bool.true_or, Bool.and_true, Bool.and_false, if_true, wipes_cons, wipes_nil, isNon_non, isNon_bl, isNon_int, isNon_str, isNon_tup, isNon_lst, isNon_ref, Me.fresh, true_and, and_true, slotOk_s, slotOk_n, hide_s, hide_n, ne_eq, not_true_eq_false, not_false_eq_true, Bool.and_self, S_eq, String.reduceEq, Int.reduceLT, Int.reduceLE, Nat.reduceLeDiff, Nat.reduceAdd, Nat.reduceLT, Nat.reduceMul, Int.reduceNeg, Nat.zero_add, Int.reduceAdd, Int.reduceSub, Int.reduceEq, Nat.reduceEqDiff, Int.reduceToNat, ↓reduceIte, items_ref, set_last, pow18, pow12, List.getElem?_append_left, List.getElem?_append_right, List.getElem?_set_self, List.getElem?_set_ne, Nat.sub_self, id_eq, List.map_cons, List.map_nil, Nat.reducePow, big18, bi_len_ref, bi_list_ref, dBi_len, dBi_list, dGet_ref, dLook_ref, dPut_ref, dCmp_in, dCmp_nin, kOf_int, kOf_str, tOf_two, idx_rs, idx_rt, idx_ri, setD_rs, setD_rt, setD_ref, in_ref, isi_ref, dIsi_ref, meT_pop, meT_insert, meT_reverse, meT_clear, meT_strip, meT_startswith, meT_split, meT_partition, meD_insert, meD_pop, meD_reverse, meD_clear, meD_strip, meD_startswith, meD_partition, meD_split, List.length_append, List.length_map, List.length_range, List.length_set, List.length_reverse, htop]
    repeat refine And.intro (by first | omega | decide | assumption | exact sm_r (by omega) | exact sm_l (by omega)) ?_
    -- the one above
    obtain ⟨up, hup, eup⟩ : ∃ up : Nat, up < rows.length ∧ atL [D.int ((rows.length : Int) - 1), D.int (a % 1000000000000000000 / 5 % (rows.length : Int))] (if 1 < a % 1000000000000000000 % 5 then 1 else 0) = some (.int (up : Nat)) := by
      by_cases q : 1 < a % 1000000000000000000 % 5
      · refine ⟨(a % 1000000000000000000 / 5 % (rows.length : Int)).toNat, by omega, ?_⟩
        simp only [q, if_true, atL_1, List.getElem?_cons_succ, List.getElem?_cons_zero]
        rw [Int.toNat_of_nonneg u1]
      · refine ⟨rows.length - 1, by omega, ?_⟩
        simp only [q, if_false, atL_0, List.getElem?_cons_zero]
        congr; omega
    refine optS_of eup ?_
    obtain ⟨w, hw⟩ : ∃ w, rows[up]? = some w := ⟨_, List.getElem?_eq_getElem hup⟩
    have ea : ∀ up : Nat, up < rows.length → atL ((List.range rows.length).map fun i => D.ref (rp i)) (up : Int) = some (.ref (rp up)) := fun up hup => by
      rw [atL_nat, List.getElem?_map, List.getElem?_range hup]; rfl
    have er := hr.row up w hw
    simp (disch := (first | omega | (simp only [List.length_set, List.length_append, List.length_cons, List.length_nil, List.length_map, List.length_range]; omega))) only [sat_ok, sat_exc, sat_bad, Kx_ap, seq_n, seq_t, seq_x, vs_nil, vs_cons, optS_some, optS_none, optS_ite, optS_ite2, optS_map, sat_opt, orD_some, orD_none, orD_none2, varS_some, v_var, v_cst, KM_f, KM_t, KB2_ap, KB1_ap, v_bin, KNeg_i, v_neg, KC2_ap, KC1_ap, v_cmp, KH1_ap, KH2_ap, KH3_ap, v_chn, KIsN_t, KIsN_f, v_isN, v_notN, KAnd_ap, AndB_t, AndB_f, v_and, KOr_ap, OrB_t, OrB_f, v_or, KNot_ap, v_not, KA2_ap, KA1_ap, va_nil, va_cons, KTup_ap, v_tup, KLst_f, KLst_t, v_lst, KI2_ap, KI1_ap, v_idx, KCall_ap, v_call, KIsi_ap, v_isi, KBi_ap, v_bi, KO_i, vo_no, vo_yes, KS3_ap, KS2_ap, KS1_ap, v_sli, KMe3_ap, KMe2_ap, KMe1_ap, v_me, KLrg_ap, v_lrng, KLv2_t, KLv2_f, KLv_ap, v_lrev, v_dnew, KInC_ap, v_inC, v_isE, v_exf, KItm_ap, vi_any, KRng_ap, vi_rng, KRrg_ap, vi_rrng, KZip_ap, vi_zip, KRev_ap, vi_rev, KCmp_ap, v_comp, AsgS_some, KTr_ap, vc_no, vc_yes, KN_ap, KSet_ap, vs_pass, vs_ret, vs_retN, vs_expr, vs_set, Br_T, Br_F, Bif_some, KIf_ap, vs_ifs, ic_and, ic_or, ic_not, ic_var, ic_cst, ic_cmp, ic_chn, ic_isN, ic_notN, ic_idx, ic_call, ic_isi, ic_bi, ic_me, ic_inC, ic_isE, ic_lrev, KFor_ap, vs_for, KForI_ap, KForA_ref, KForA_tup, KForA_lst, KForA_scr, KForA_str, vs_forA, KSI3_ap, KSI2_ap, KSI1_ap, vs_setI, KUnp_ap, vs_unp, KAug2_t, KAug2_f, AugS_ap, vs_aug, vs_raise, gone_n, gone_n0, gone_t, gone_x, Hdl_ap, try_n, try_t, try_x, vs_try, Bwh_some, BrW_T, BrW_F, KWh_ap, loopG_nil', bin_add, bin_sub, bin_mul, bin_div, bin_mod, bin_muls, add_str, add_tup, add_lst, add_rl, cmp_eq, cmp_ne, cmp_lt, cmp_le, cmp_gt, cmp_ge, cmp_in, cmp_notin, eqD_int, eqD_str, in_str1, in_tup, in_lst, truth_bl, truth_non, truth_int, truth_str, truth_tup, truth_lst, dBi_s, dBi_i, dBi_t, dLook_t, dLook_l, dLook_s, dLook_c, idx_tup, idx_lst, idx_str, idx_scr, bi_len_str, bi_len_tup, bi_len_lst, bi_len_scr, bi_int_int, bi_int_bl, bi_int_str, bi_str_int, bi_list_tup, bi_list_lst, bi_list_scr, bi_tuple_tup, bi_tuple_lst, bi_min2, bi_max2, sli_str, sli_tup, sli_lst, meT_append, meT_join, asL_ref, asL_lst, meD_append, meD_join, rng1, rng2, isi_i, isi_b, isi_s, isi_t, isi_l, isi_n, isCl, List.any_cons, List.any_nil, zip_tup, zip_lst, rev_tup, rev_lst, lrev_tup, lrev_lst, asg_nm, asg_tp2, asg_tp3, items_tup, items_lst, items_scr, items_str, Option.map_some, Option.map_none, Option.bind_some, Option.isSome_some, atL_0, atL_1, atL_2, atL_3, List.getElem?_cons_zero, List.getElem?_cons_succ, List.getElem?_nil, List.set_cons_zero, List.set_cons_succ, List.set_nil, List.length_cons, List.length_nil, List.cons_append, List.nil_append, decide_eq_true_eq, decide_eq_false_iff_not, Bool.not_eq_true', Bool.not_true, Bool.not_false, Bool.false_eq_true, Bool.or_false, Bool.or_true, Bool.true_or, Bool.and_true, Bool.and_false, if_true, wipes_cons, wipes_nil, isNon_non, isNon_bl, isNon_int, isNon_str, isNon_tup, isNon_lst, isNon_ref, Me.fresh, true_and, and_true, slotOk_s, slotOk_n, hide_s, hide_n, ne_eq, not_true_eq_false, not_false_eq_true, Bool.and_self, S_eq, String.reduceEq, Int.reduceLT, Int.reduceLE, Nat.reduceLeDiff, Nat.reduceAdd, Nat.reduceLT, Nat.reduceMul, Int.reduceNeg, Nat.zero_add, Int.reduceAdd, Int.reduceSub, Int.reduceEq, Nat.reduceEqDiff, Int.reduceToNat, ↓reduceIte, items_ref, set_last, pow18, pow12, List.getElem?_append_left, List.getElem?_append_right, List.getElem?_set_self, List.getElem?_set_ne, Nat.sub_self, id_eq, List.map_cons, List.map_nil, Nat.reducePow, big18, bi_len_ref, bi_list_ref, dBi_len, dBi_list, dGet_ref, dLook_ref, dPut_ref, dCmp_in, dCmp_nin, kOf_int, kOf_str, tOf_two, idx_rs, idx_rt, idx_ri, setD_rs, setD_rt, setD_ref, in_ref, isi_ref, dIsi_ref, meT_pop, meT_insert, meT_reverse, meT_clear, meT_strip, meT_startswith, meT_split, meT_partition, meD_insert, meD_pop, meD_reverse, meD_clear, meD_strip, meD_startswith, meD_partition, meD_split, List.length_append, List.length_map, List.length_range, List.length_set, List.length_reverse, htop, ea up hup, er]
    refine cut_br (fun s h' => h' = h ∧ ∃ (up : Nat) (w : Rw), rows[up]? = some w ∧ w.dp < most ∧ s = [some (.scr ns), some (.int wd), some (.int most), some (.ref 2), some (.int a), some (.int (a % 1000000000000000000)), some (.int up), x7, none, none, none]) (br (fun hc => ?_) (fun hc => ?_)) ?_
    · simp (disch := (first | omega | (simp only [List.length_set, List.length_append, List.length_cons, List.length_nil, List.length_map, List.length_range]; omega))) only [sat_ok, sat_exc, sat_bad, Kx_ap, seq_n, seq_t, seq_x, vs_nil, vs_cons, optS_some, optS_none, optS_ite, optS_ite2, optS_map, sat_opt, orD_some, orD_none, orD_none2, varS_some, v_var, v_cst, KM_f, KM_t, KB2_ap, KB1_ap, v_bin, KNeg_i, v_neg, KC2_ap, KC1_ap, v_cmp, KH1_ap, KH2_ap, KH3_ap, v_chn, KIsN_t, KIsN_f, v_isN, v_notN, KAnd_ap, AndB_t, AndB_f, v_and, KOr_ap, OrB_t, OrB_f, v_or, KNot_ap, v_not, KA2_ap, KA1_ap, va_nil, va_cons, KTup_ap, v_tup, KLst_f, KLst_t, v_lst, KI2_ap, KI1_ap, v_idx, KCall_ap, v_call, KIsi_ap, v_isi, KBi_ap, v_bi, KO_i, vo_no, vo_yes, KS3_ap, KS2_ap, KS1_ap, v_sli, KMe3_ap, KMe2_ap, KMe1_ap, v_me, KLrg_ap, v_lrng, KLv2_t, KLv2_f, KLv_ap, v_lrev, v_dnew, KInC_ap, v_inC, v_isE, v_exf, KItm_ap, vi_any, KRng_ap, vi_rng, KRrg_ap, vi_rrng, KZip_ap, vi_zip, KRev_ap, vi_rev, KCmp_ap, v_comp, AsgS_some, KTr_ap, vc_no, vc_yes, KN_ap, KSet_ap, vs_pass, vs_ret, vs_retN, vs_expr, vs_set, Br_T, Br_F, Bif_some, KIf_ap, vs_ifs, ic_and, ic_or, ic_not, ic_var, ic_cst, ic_cmp, ic_chn, ic_isN, ic_notN, ic_idx, ic_call, ic_isi, ic_bi, ic_me, ic_inC, ic_isE, ic_lrev, KFor_ap, vs_for, KForI_ap, KForA_ref, KForA_tup, KForA_lst, KForA_scr, KForA_str, vs_forA, KSI3_ap, KSI2_ap, KSI1_ap, vs_setI, KUnp_ap, vs_unp, KAug2_t, KAug2_f, AugS_ap, vs_aug, vs_raise, gone_n, gone_n0, gone_t, gone_x, Hdl_ap, try_n, try_t, try_x, vs_try, Bwh_some, BrW_T, BrW_F, KWh_ap, loopG_nil', bin_add, bin_sub, bin_mul, bin_div, bin_mod, bin_muls, add_str, add_tup, add_lst, add_rl, cmp_eq, cmp_ne, cmp_lt, cmp_le, cmp_gt, cmp_ge, cmp_in, cmp_notin, eqD_int, eqD_str, in_str1, in_tup, in_lst, truth_bl, truth_non, truth_int, truth_str, truth_tup, truth_lst, dBi_s, dBi_i, dBi_t, dLook_t, dLook_l, dLook_s, dLook_c, idx_tup, idx_lst, idx_str, idx_scr, bi_len_str, bi_len_tup, bi_len_lst, bi_len_scr, bi_int_int, bi_int_bl, bi_int_str, bi_str_int, bi_list_tup, bi_list_lst, bi_list_scr, bi_tuple_tup, bi_tuple_lst, bi_min2, bi_max2, sli_str, sli_tup, sli_lst, meT_append, meT_join, asL_ref, asL_lst, meD_append, meD_join, rng1, rng2, isi_i, isi_b, isi_s, isi_t, isi_l, isi_n, isCl, List.any_cons, List.any_nil, zip_tup, zip_lst, rev_tup, rev_lst, lrev_tup, lrev_lst, asg_nm, asg_tp2, asg_tp3, items_tup, items_lst, items_scr, items_str, Option.map_some, Option.map_none, Option.bind_some, Option.isSome_some, atL_0, atL_1, atL_2, atL_3, List.getElem?_cons_zero, List.getElem?_cons_succ, List.getElem?_nil, List.set_cons_zero, List.set_cons_succ, List.set_nil, List.length_cons, List.length_nil, List.cons_append, List.nil_append, decide_eq_true_eq, decide_eq_false_iff_not, Bool.not_eq_true', Bool.not_true, Bool.not_false, Bool.false_eq_true, Bool.or_false, Bool.or_true, Bool.true_or, Bool.and_true, Bool.and_false, if_true, wipes_cons, wipes_nil, isNon_non, isNon_bl, isNon_int, isNon_str, isNon_tup, isNon_lst, isNon_ref, Me.fresh, true_and, and_true, slotOk_s, slotOk_n, hide_s, hide_n, ne_eq, not_true_eq_false, not_false_eq_true, Bool.and_self, S_eq, String.reduceEq, Int.reduceLT, Int.reduceLE, Nat.reduceLeDiff, Nat.reduceAdd, Nat.reduceLT, Nat.reduceMul, Int.reduceNeg, Nat.zero_add, Int.reduceAdd, Int.reduceSub, Int.reduceEq, Nat.reduceEqDiff, Int.reduceToNat, ↓reduceIte, items_ref, set_last, pow18, pow12, List.getElem?_append_left, List.getElem?_append_right, List.getElem?_set_self, List.getElem?_set_ne, Nat.sub_self, id_eq, List.map_cons, List.map_nil, Nat.reducePow, big18, bi_len_ref, bi_list_ref, dBi_len, dBi_list, dGet_ref, dLook_ref, dPut_ref, dCmp_in, dCmp_nin, kOf_int, kOf_str, tOf_two, idx_rs, idx_rt, idx_ri, setD_rs, setD_rt, setD_ref, in_ref, isi_ref, dIsi_ref, meT_pop, meT_insert, meT_reverse, meT_clear, meT_strip, meT_startswith, meT_split, meT_partition, meD_insert, meD_pop, meD_reverse, meD_clear, meD_strip, meD_startswith, meD_partition, meD_split, List.length_append, List.length_map, List.length_range, List.length_set, List.length_reverse]
      obtain ⟨w0, hw0, hd0⟩ := rb.root
      have := rb.nam w0 (List.mem_of_getElem? hw0)
      have h2 := (rb.nam w (List.mem_of_getElem? hw)).2.2
      refine ⟨0, w0, hw0, ?_, rfl⟩
      omega
    · simp (disch := (first | omega | (simp only [List.length_set, List.length_append, List.length_cons, List.length_nil, List.length_map, List.length_range]; omega))) only [sat_ok, sat_exc, sat_bad, Kx_ap, seq_n, seq_t, seq_x, vs_nil, vs_cons, optS_some, optS_none, optS_ite, optS_ite2, optS_map, sat_opt, orD_some, orD_none, orD_none2, varS_some, v_var, v_cst, KM_f, KM_t, KB2_ap, KB1_ap, v_bin, KNeg_i, v_neg, KC2_ap, KC1_ap, v_cmp, KH1_ap, KH2_ap, KH3_ap, v_chn, KIsN_t, KIsN_f, v_isN, v_notN, KAnd_ap, AndB_t, AndB_f, v_and, KOr_ap, OrB_t, OrB_f, v_or, KNot_ap, v_not, KA2_ap, KA1_ap, va_nil, va_cons, KTup_ap, v_tup, KLst_f, KLst_t, v_lst, KI2_ap, KI1_ap, v_idx, KCall_ap, v_call, KIsi_ap, v_isi, KBi_ap, v_bi, KO_i, vo_no, vo_yes, KS3_ap, KS2_ap, KS1_ap, v_sli, KMe3_ap, KMe2_ap, KMe1_ap, v_me, KLrg_ap, v_lrng, KLv2_t, KLv2_f, KLv_ap, v_lrev, v_dnew, KInC_ap, v_inC, v_isE, v_exf, KItm_ap, vi_any, KRng_ap, vi_rng, KRrg_ap, vi_rrng, KZip_ap, vi_zip, KRev_ap, vi_rev, KCmp_ap, v_comp, AsgS_some, KTr_ap, vc_no, vc_yes, KN_ap, KSet_ap, vs_pass, vs_ret, vs_retN, vs_expr, vs_set, Br_T, Br_F, Bif_some, KIf_ap, vs_ifs, ic_and, ic_or, ic_not, ic_var, ic_cst, ic_cmp, ic_chn, ic_isN, ic_notN, ic_idx, ic_call, ic_isi, ic_bi, ic_me, ic_inC, ic_isE, ic_lrev, KFor_ap, vs_for, KForI_ap, KForA_ref, KForA_tup, KForA_lst, KForA_scr, KForA_str, vs_forA, KSI3_ap, KSI2_ap, KSI1_ap, vs_setI, KUnp_ap, vs_unp, KAug2_t, KAug2_f, AugS_ap, vs_aug, vs_raise, gone_n, gone_n0, gone_t, gone_x, Hdl_ap, try_n, try_t, try_x, vs_try, Bwh_some, BrW_T, BrW_F, KWh_ap, loopG_nil', bin_add, bin_sub, bin_mul, bin_div, bin_mod, bin_muls, add_str, add_tup, add_lst, add_rl, cmp_eq, cmp_ne, cmp_lt, cmp_le, cmp_gt, cmp_ge, cmp_in, cmp_notin, eqD_int, eqD_str, in_str1, in_tup, in_lst, truth_bl, truth_non, truth_int, truth_str, truth_tup, truth_lst, dBi_s, dBi_i, dBi_t, dLook_t, dLook_l, dLook_s, dLook_c, idx_tup, idx_lst, idx_str, idx_scr, bi_len_str, bi_len_tup, bi_len_lst, bi_len_scr, bi_int_int, bi_int_bl, bi_int_str, bi_str_int, bi_list_tup, bi_list_lst, bi_list_scr, bi_tuple_tup, bi_tuple_lst, bi_min2, bi_max2, sli_str, sli_tup, sli_lst, meT_append, meT_join, asL_ref, asL_lst, meD_append, meD_join, rng1, rng2, isi_i, isi_b, isi_s, isi_t, isi_l, isi_n, isCl, List.any_cons, List.any_nil, zip_tup, zip_lst, rev_tup, rev_lst, lrev_tup, lrev_lst, asg_nm, asg_tp2, asg_tp3, items_tup, items_lst, items_scr, items_str, Option.map_some, Option.map_none, Option.bind_some, Option.isSome_some, atL_0, atL_1, atL_2, atL_3, List.getElem?_cons_zero, List.getElem?_cons_succ, List.getElem?_nil, List.set_cons_zero, List.set_cons_succ, List.set_nil, List.length_cons, List.length_nil, List.cons_append, List.nil_append, decide_eq_true_eq, decide_eq_false_iff_not, Bool.not_eq_true', Bool.not_true, Bool.not_false, Bool.false_eq_true, Bool.or_false, Bool.or_true, Bool.true_or, Bool.and_true, Bool.and_false, if_true, wipes_cons, wipes_nil, isNon_non, isNon_bl, isNon_int, isNon_str, isNon_tup, isNon_lst, isNon_ref, Me.fresh, true_and, and_true, slotOk_s, slotOk_n, hide_s, hide_n, ne_eq, not_true_eq_false, not_false_eq_true, Bool.and_self, S_eq, String.reduceEq, Int.reduceLT, Int.reduceLE, Nat.reduceLeDiff, Nat.reduceAdd, Nat.reduceLT, Nat.reduceMul, Int.reduceNeg, Nat.zero_add, Int.reduceAdd, Int.reduceSub, Int.reduceEq, Nat.reduceEqDiff, Int.reduceToNat, ↓reduceIte, items_ref, set_last, pow18, pow12, List.getElem?_append_left, List.getElem?_append_right, List.getElem?_set_self, List.getElem?_set_ne, Nat.sub_self, id_eq, List.map_cons, List.map_nil, Nat.reducePow, big18, bi_len_ref, bi_list_ref, dBi_len, dBi_list, dGet_ref, dLook_ref, dPut_ref, dCmp_in, dCmp_nin, kOf_int, kOf_str, tOf_two, idx_rs, idx_rt, idx_ri, setD_rs, setD_rt, setD_ref, in_ref, isi_ref, dIsi_ref, meT_pop, meT_insert, meT_reverse, meT_clear, meT_strip, meT_startswith, meT_split, meT_partition, meD_insert, meD_pop, meD_reverse, meD_clear, meD_strip, meD_startswith, meD_partition, meD_split, List.length_append, List.length_map, List.length_range, List.length_set, List.length_reverse]
      exact ⟨up, w, hw, by omega, rfl⟩
    · clear hw eup ea er up w hup
      rintro s h' ⟨rfl, up, w, hw, hd, rfl⟩
      have hup := (List.getElem?_eq_some_iff.mp hw).1
      have hlen := hr.len
      have er := hr.row up w hw
      have ek := hr.kid up w hw
      have l1 := rb.klen hw
      have p1 : 0 ≤ a % 1000000000000000000 / 13 % ((w.ks.length : Int) + 1) := Int.emod_nonneg _ (by omega)
      have p2 : a % 1000000000000000000 / 13 % ((w.ks.length : Int) + 1) < (w.ks.length : Int) + 1 := Int.emod_lt_of_pos _ (by omega)
      obtain ⟨mk, hmk, emk⟩ : ∃ mk : Nat, mk < 10 ^ 18 ∧ atL [D.int 0, D.int (a % 1000000000000000000 / 11 % 10), D.int (a % 1000000000000000000)] (a % 1000000000000000000 / 7 % 3) = some (.int mk) := by
        rcases (by omega : a % 1000000000000000000 / 7 % 3 = 0 ∨ a % 1000000000000000000 / 7 % 3 = 1 ∨ a % 1000000000000000000 / 7 % 3 = 2) with q | q | q
        · exact ⟨0, by decide, by rw [q]; rfl⟩
        · refine ⟨(a % 1000000000000000000 / 11 % 10).toNat, by omega, ?_⟩
          rw [q, Int.toNat_of_nonneg (by omega)]; rfl
        · refine ⟨(a % 1000000000000000000).toNat, by omega, ?_⟩
          rw [q, Int.toNat_of_nonneg (by omega)]; rfl
      have ea : atL ((List.range rows.length).map fun i => D.ref (rp i)) (up : Int) = some (.ref (rp up)) := by
        rw [atL_nat, List.getElem?_map, List.getElem?_range hup]; rfl
      have k2 : kp up ≠ 2 := by unfold kp; split <;> omega
      have kl : kp up < h'.length := by unfold kp; split <;> omega
      have rk : kp up ≠ rp up := by unfold rp; omega
      have rl : rp up < h'.length := by unfold rp kp; split <;> omega
      have r2 : rp up ≠ 2 := by unfold rp kp; split <;> omega
      simp (disch := (first | omega | (simp only [List.length_set, List.length_append, List.length_cons, List.length_nil, List.length_map, List.length_range]; omega))) only [sat_ok, sat_exc, sat_bad, Kx_ap, seq_n, seq_t, seq_x, vs_nil, vs_cons, optS_some, optS_none, optS_ite, optS_ite2, optS_map, sat_opt, orD_some, orD_none, orD_none2, varS_some, v_var, v_cst, KM_f, KM_t, KB2_ap, KB1_ap, v_bin, KNeg_i, v_neg, KC2_ap, KC1_ap, v_cmp, KH1_ap, KH2_ap, KH3_ap, v_chn, KIsN_t, KIsN_f, v_isN, v_notN, KAnd_ap, AndB_t, AndB_f, v_and, KOr_ap, OrB_t, OrB_f, v_or, KNot_ap, v_not, KA2_ap, KA1_ap, va_nil, va_cons, KTup_ap, v_tup, KLst_f, KLst_t, v_lst, KI2_ap, KI1_ap, v_idx, KCall_ap, v_call, KIsi_ap, v_isi, KBi_ap, v_bi, KO_i, vo_no, vo_yes, KS3_ap, KS2_ap, KS1_ap, v_sli, KMe3_ap, KMe2_ap, KMe1_ap, v_me, KLrg_ap, v_lrng, KLv2_t, KLv2_f, KLv_ap, v_lrev, v_dnew, KInC_ap, v_inC, v_isE, v_exf, KItm_ap, vi_any, KRng_ap, vi_rng, KRrg_ap, vi_rrng, KZip_ap, vi_zip, KRev_ap, vi_rev, KCmp_ap, v_comp, AsgS_some, KTr_ap, vc_no, vc_yes, KN_ap, KSet_ap, vs_pass, vs_ret, vs_retN, vs_expr, vs_set, Br_T, Br_F, Bif_some, KIf_ap, vs_ifs, ic_and, ic_or, ic_not, ic_var, ic_cst, ic_cmp, ic_chn, ic_isN, ic_notN, ic_idx, ic_call, ic_isi, ic_bi, ic_me, ic_inC, ic_isE, ic_lrev, KFor_ap, vs_for, KForI_ap, KForA_ref, KForA_tup, KForA_lst, KForA_scr, KForA_str, vs_forA, KSI3_ap, KSI2_ap, KSI1_ap, vs_setI, KUnp_ap, vs_unp, KAug2_t, KAug2_f, AugS_ap, vs_aug, vs_raise, gone_n, gone_n0, gone_t, gone_x, Hdl_ap, try_n, try_t, try_x, vs_try, Bwh_some, BrW_T, BrW_F, KWh_ap, loopG_nil', bin_add, bin_sub, bin_mul, bin_div, bin_mod, bin_muls, add_str, add_tup, add_lst, add_rl, cmp_eq, cmp_ne, cmp_lt, cmp_le, cmp_gt, cmp_ge, cmp_in, cmp_notin, eqD_int, eqD_str, in_str1, in_tup, in_lst, truth_bl, truth_non, truth_int, truth_str, truth_tup, truth_lst, dBi_s, dBi_i, dBi_t, dLook_t, dLook_l, dLook_s, dLook_c, idx_tup, idx_lst, idx_str, idx_scr, bi_len_str, bi_len_tup, bi_len_lst, bi_len_scr, bi_int_int, bi_int_bl, bi_int_str, bi_str_int, bi_list_tup, bi_list_lst, bi_list_scr, bi_tuple_tup, bi_tuple_lst, bi_min2, bi_max2, sli_str, sli_tup, sli_lst, meT_append, meT_join, asL_ref, asL_lst, meD_append, meD_join, rng1, rng2, isi_i, isi_b, isi_s, isi_t, isi_l, isi_n, isCl, List.any_cons, List.any_nil, zip_tup, zip_lst, rev_tup, rev_lst, lrev_tup, lrev_lst, asg_nm, asg_tp2, asg_tp3, items_tup, items_lst, items_scr, items_str, Option.map_some, Option.map_none, Option.bind_some, Option.isSome_some, atL_0, atL_1, atL_2, atL_3, List.getElem?_cons_zero, List.getElem?_cons_succ, List.getElem?_nil, List.set_cons_zero, List.set_cons_succ, List.set_nil, List.length_cons, List.length_nil, List.cons_append, List.nil_append, decide_eq_true_eq, decide_eq_false_iff_not, Bool.not_eq_true', Bool.not_true, Bool.not_false, Bool.false_eq_true, Bool.or_false, Bool.or_true, Bool.true_or, Bool.and_true, Bool.and_false, if_true, wipes_cons, wipes_nil, isNon_non, isNon_bl, isNon_int, isNon_str, isNon_tup, isNon_lst, isNon_ref, Me.fresh, true_and, and_true, slotOk_s, slotOk_n, hide_s, hide_n, ne_eq, not_true_eq_false, not_false_eq_true, Bool.and_self, S_eq, String.reduceEq, Int.reduceLT, Int.reduceLE, Nat.reduceLeDiff, Nat.reduceAdd, Nat.reduceLT, Nat.reduceMul, Int.reduceNeg, Nat.zero_add, Int.reduceAdd, Int.reduceSub, Int.reduceEq, Nat.reduceEqDiff, Int.reduceToNat, ↓reduceIte, items_ref, set_last, pow18, pow12, List.getElem?_append_left, List.getElem?_append_right, List.getElem?_set_self, List.getElem?_set_ne, Nat.sub_self, id_eq, List.map_cons, List.map_nil, Nat.reducePow, big18, bi_len_ref, bi_list_ref, dBi_len, dBi_list, dGet_ref, dLook_ref, dPut_ref, dCmp_in, dCmp_nin, kOf_int, kOf_str, tOf_two, idx_rs, idx_rt, idx_ri, setD_rs, setD_rt, setD_ref, in_ref, isi_ref, dIsi_ref, meT_pop, meT_insert, meT_reverse, meT_clear, meT_strip, meT_startswith, meT_split, meT_partition, meD_insert, meD_pop, meD_reverse, meD_clear, meD_strip, meD_startswith, meD_partition, meD_split, List.length_append, List.length_map, List.length_range, List.length_set, List.length_reverse, htop, ea, er, ek, emk]
      repeat refine And.intro (by first | omega | decide | assumption | exact sm_r (by omega) | exact sm_l (by omega)) ?_
      refine gv_sat (g_word k wd _) ?_
      rintro _ ⟨w1, hw1, rfl⟩
      simp (disch := (first | omega | (simp only [List.length_set, List.length_append, List.length_cons, List.length_nil, List.length_map, List.length_range]; omega))) only [sat_ok, sat_exc, sat_bad, Kx_ap, seq_n, seq_t, seq_x, vs_nil, vs_cons, optS_some, optS_none, optS_ite, optS_ite2, optS_map, sat_opt, orD_some, orD_none, orD_none2, varS_some, v_var, v_cst, KM_f, KM_t, KB2_ap, KB1_ap, v_bin, KNeg_i, v_neg, KC2_ap, KC1_ap, v_cmp, KH1_ap, KH2_ap, KH3_ap, v_chn, KIsN_t, KIsN_f, v_isN, v_notN, KAnd_ap, AndB_t, AndB_f, v_and, KOr_ap, OrB_t, OrB_f, v_or, KNot_ap, v_not, KA2_ap, KA1_ap, va_nil, va_cons, KTup_ap, v_tup, KLst_f, KLst_t, v_lst, KI2_ap, KI1_ap, v_idx, KCall_ap, v_call, KIsi_ap, v_isi, KBi_ap, v_bi, KO_i, vo_no, vo_yes, KS3_ap, KS2_ap, KS1_ap, v_sli, KMe3_ap, KMe2_ap, KMe1_ap, v_me, KLrg_ap, v_lrng, KLv2_t, KLv2_f, KLv_ap, v_lrev, v_dnew, KInC_ap, v_inC, v_isE, v_exf, KItm_ap, vi_any, KRng_ap, vi_rng, KRrg_ap, vi_rrng, KZip_ap, vi_zip, KRev_ap, vi_rev, KCmp_ap, v_comp, AsgS_some, KTr_ap, vc_no, vc_yes, KN_ap, KSet_ap, vs_pass, vs_ret, vs_retN, vs_expr, vs_set, Br_T, Br_F, Bif_some, KIf_ap, vs_ifs, ic_and, ic_or, ic_not, ic_var, ic_cst, ic_cmp, ic_chn, ic_isN, ic_notN, ic_idx, ic_call, ic_isi, ic_bi, ic_me, ic_inC, ic_isE, ic_lrev, KFor_ap, vs_for, KForI_ap, KForA_ref, KForA_tup, KForA_lst, KForA_scr, KForA_str, vs_forA, KSI3_ap, KSI2_ap, KSI1_ap, vs_setI, KUnp_ap, vs_unp, KAug2_t, KAug2_f, AugS_ap, vs_aug, vs_raise, gone_n, gone_n0, gone_t, gone_x, Hdl_ap, try_n, try_t, try_x, vs_try, Bwh_some, BrW_T, BrW_F, KWh_ap, loopG_nil', bin_add, bin_sub, bin_mul, bin_div, bin_mod, bin_muls, add_str, add_tup, add_lst, add_rl, cmp_eq, cmp_ne, cmp_lt, cmp_le, cmp_gt, cmp_ge, cmp_in, cmp_notin, eqD_int, eqD_str, in_str1, in_tup, in_lst, truth_bl, truth_non, truth_int, truth_str, truth_tup, truth_lst, dBi_s, dBi_i, dBi_t, dLook_t, dLook_l, dLook_s, dLook_c, idx_tup, idx_lst, idx_str, idx_scr, bi_len_str, bi_len_tup, bi_len_lst, bi_len_scr, bi_int_int, bi_int_bl, bi_int_str, bi_str_int, bi_list_tup, bi_list_lst, bi_list_scr, bi_tuple_tup, bi_tuple_lst, bi_min2, bi_max2, sli_str, sli_tup, sli_lst, meT_append, meT_join, asL_ref, asL_lst, meD_append, meD_join, rng1, rng2, isi_i, isi_b, isi_s, isi_t, isi_l, isi_n, isCl, List.any_cons, List.any_nil, zip_tup, zip_lst, rev_tup, rev_lst, lrev_tup, lrev_lst, asg_nm, asg_tp2, asg_tp3, items_tup, items_lst, items_scr, items_str, Option.map_some, Option.map_none, Option.bind_some, Option.isSome_some, atL_0, atL_1, atL_2, atL_3, List.getElem?_cons_zero, List.getElem?_cons_succ, List.getElem?_nil, List.set_cons_zero, List.set_cons_succ, List.set_nil, List.length_cons, List.length_nil, List.cons_append, List.nil_append, decide_eq_true_eq, decide_eq_false_iff_not, Bool.not_eq_true', Bool.not_true, Bool.not_false, Bool.false_eq_true, Bool.or_false, Bool.or_true, Bool.true_or, Bool.and_true, Bool.and_false, if_true, wipes_cons, wipes_nil, isNon_non, isNon_bl, isNon_int, isNon_str, isNon_tup, isNon_lst, isNon_ref, Me.fresh, true_and, and_true, slotOk_s, slotOk_n, hide_s, hide_n, ne_eq, not_true_eq_false, not_false_eq_true, Bool.and_self, S_eq, String.reduceEq, Int.reduceLT, Int.reduceLE, Nat.reduceLeDiff, Nat.reduceAdd, Nat.reduceLT, Nat.reduceMul, Int.reduceNeg, Nat.zero_add, Int.reduceAdd, Int.reduceSub, Int.reduceEq, Nat.reduceEqDiff, Int.reduceToNat, ↓reduceIte, items_ref, set_last, pow18, pow12, List.getElem?_append_left, List.getElem?_append_right, List.getElem?_set_self, List.getElem?_set_ne, Nat.sub_self, id_eq, List.map_cons, List.map_nil, Nat.reducePow, big18, bi_len_ref, bi_list_ref, dBi_len, dBi_list, dGet_ref, dLook_ref, dPut_ref, dCmp_in, dCmp_nin, kOf_int, kOf_str, tOf_two, idx_rs, idx_rt, idx_ri, setD_rs, setD_rt, setD_ref, in_ref, isi_ref, dIsi_ref, meT_pop, meT_insert, meT_reverse, meT_clear, meT_strip, meT_startswith, meT_split, meT_partition, meD_insert, meD_pop, meD_reverse, meD_clear, meD_strip, meD_startswith, meD_partition, meD_split, List.length_append, List.length_map, List.length_range, List.length_set, List.length_reverse, htop, ea, er, ek, emk]
      repeat refine And.intro (by first | omega | decide | assumption | exact sm_r (by omega) | exact sm_l (by omega)) ?_
      have st := hr.step (p := (a % 1000000000000000000 / 13 % ((w.ks.length : Int) + 1)).toNat) hw w1 mk
      have sb := rb.step (p := (a % 1000000000000000000 / 13 % ((w.ks.length : Int) + 1)).toNat) hw hd hw1 hmk
      refine ⟨_, _, _, _, _, _, sb, ?_, by simp [hl], rfl⟩
      rw [← hlen] at st
      simp only [putK', List.map_append, List.map_take, List.map_drop, List.map_cons, List.map_nil] at st
      rw [show 2 * rows.length + 2 = h'.length + 1 by omega, show ((w.dp + 1 : Nat) : Int) = (w.dp : Int) + 1 by omega] at st
      exact st
  · rintro s h ⟨rows, par, x4, x5, x6, x7, rb, hr, hl, rfl⟩
    have htop := hr.top
    have hlen := hr.len
    have hl60 : rows.length ≤ 60 := by rw [hl, List.length_take]; omega
    simp (disch := (first | omega | (simp only [List.length_set, List.length_append, List.length_cons, List.length_nil, List.length_map, List.length_range]; omega))) only [sat_ok, sat_exc, sat_bad, Kx_ap, seq_n, seq_t, seq_x, vs_nil, vs_cons, optS_some, optS_none, optS_ite, optS_ite2, optS_map, sat_opt, orD_some, orD_none, orD_none2, varS_some, v_var, v_cst, KM_f, KM_t, KB2_ap, KB1_ap, v_bin, KNeg_i, v_neg, KC2_ap, KC1_ap, v_cmp, KH1_ap, KH2_ap, KH3_ap, v_chn, KIsN_t, KIsN_f, v_isN, v_notN, KAnd_ap, AndB_t, AndB_f, v_and, KOr_ap, OrB_t, OrB_f, v_or, KNot_ap, v_not, KA2_ap, KA1_ap, va_nil, va_cons, KTup_ap, v_tup, KLst_f, KLst_t, v_lst, KI2_ap, KI1_ap, v_idx, KCall_ap, v_call, KIsi_ap, v_isi, KBi_ap, v_bi, KO_i, vo_no, vo_yes, KS3_ap, KS2_ap, KS1_ap, v_sli, KMe3_ap, KMe2_ap, KMe1_ap, v_me, KLrg_ap, v_lrng, KLv2_t, KLv2_f, KLv_ap, v_lrev, v_dnew, KInC_ap, v_inC, v_isE, v_exf, KItm_ap, vi_any, KRng_ap, vi_rng, KRrg_ap, vi_rrng, KZip_ap, vi_zip, KRev_ap, vi_rev, KCmp_ap, v_comp, AsgS_some, KTr_ap, vc_no, vc_yes, KN_ap, KSet_ap, vs_pass, vs_ret, vs_retN, vs_expr, vs_set, Br_T, Br_F, Bif_some, KIf_ap, vs_ifs, ic_and, ic_or, ic_not, ic_var, ic_cst, ic_cmp, ic_chn, ic_isN, ic_notN, ic_idx, ic_call, ic_isi, ic_bi, ic_me, ic_inC, ic_isE, ic_lrev, KFor_ap, vs_for, KForI_ap, KForA_ref, KForA_tup, KForA_lst, KForA_scr, KForA_str, vs_forA, KSI3_ap, KSI2_ap, KSI1_ap, vs_setI, KUnp_ap, vs_unp, KAug2_t, KAug2_f, AugS_ap, vs_aug, vs_raise, gone_n, gone_n0, gone_t, gone_x, Hdl_ap, try_n, try_t, try_x, vs_try, Bwh_some, BrW_T, BrW_F, KWh_ap, loopG_nil', bin_add, bin_sub, bin_mul, bin_div, bin_mod, bin_muls, add_str, add_tup, add_lst, add_rl, cmp_eq, cmp_ne, cmp_lt, cmp_le, cmp_gt, cmp_ge, cmp_in, cmp_notin, eqD_int, eqD_str, in_str1, in_tup, in_lst, truth_bl, truth_non, truth_int, truth_str, truth_tup, truth_lst, dBi_s, dBi_i, dBi_t, dLook_t, dLook_l, dLook_s, dLook_c, idx_tup, idx_lst, idx_str, idx_scr, bi_len_str, bi_len_tup, bi_len_lst, bi_len_scr, bi_int_int, bi_int_bl, bi_int_str, bi_str_int, bi_list_tup, bi_list_lst, bi_list_scr, bi_tuple_tup, bi_tuple_lst, bi_min2, bi_max2, sli_str, sli_tup, sli_lst, meT_append, meT_join, asL_ref, asL_lst, meD_append, meD_join, rng1, rng2, isi_i, isi_b, isi_s, isi_t, isi_l, isi_n, isCl, List.any_cons, List.any_nil, zip_tup, zip_lst, rev_tup, rev_lst, lrev_tup, lrev_lst, asg_nm, asg_tp2, asg_tp3, items_tup, items_lst, items_scr, items_str, Option.map_some, Option.map_none, Option.bind_some, Option.isSome_some, atL_0, atL_1, atL_2, atL_3, List.getElem?_cons_zero, List.getElem?_cons_succ, List.getElem?_nil, List.set_cons_zero, List.set_cons_succ, List.set_nil, List.length_cons, List.length_nil, List.cons_append, List.nil_append, decide_eq_true_eq, decide_eq_false_iff_not, Bool.not_eq_true', Bool.not_true, Bool.not_false, Bool.false_eq_true, Bool.or_false, Bool.or_true, Bool.true_or, Bool.and_true, Bool.and_false, if_true, wipes_cons, wipes_nil, isNon_non, isNon_bl, isNon_int, isNon_str, isNon_tup, isNon_lst, isNon_ref, Me.fresh, true_and, and_true, slotOk_s, slotOk_n, hide_s, hide_n, ne_eq, not_true_eq_false, not_false_eq_true, Bool.and_self, S_eq, String.reduceEq, Int.reduceLT, Int.reduceLE, Nat.reduceLeDiff, Nat.reduceAdd, Nat.reduceLT, Nat.reduceMul, Int.reduceNeg, Nat.zero_add, Int.reduceAdd, Int.reduceSub, Int.reduceEq, Nat.reduceEqDiff, Int.reduceToNat, ↓reduceIte, items_ref, set_last, pow18, pow12, List.getElem?_append_left, List.getElem?_append_right, List.getElem?_set_self, List.getElem?_set_ne, Nat.sub_self, id_eq, List.map_cons, List.map_nil, Nat.reducePow, big18, bi_len_ref, bi_list_ref, dBi_len, dBi_list, dGet_ref, dLook_ref, dPut_ref, dCmp_in, dCmp_nin, kOf_int, kOf_str, tOf_two, idx_rs, idx_rt, idx_ri, setD_rs, setD_rt, setD_ref, in_ref, isi_ref, dIsi_ref, meT_pop, meT_insert, meT_reverse, meT_clear, meT_strip, meT_startswith, meT_split, meT_partition, meD_insert, meD_pop, meD_reverse, meD_clear, meD_strip, meD_startswith, meD_partition, meD_split, List.length_append, List.length_map, List.length_range, List.length_set, List.length_reverse, htop]
    repeat refine And.intro (by first | omega | decide | assumption | exact sm_r (by omega) | exact sm_l (by omega)) ?_
    have kl : ∀ i, i < rows.length → kp i < h.length := fun i hi => by unfold kp; split <;> omega
    have rl : ∀ i, i < rows.length → rp i < h.length := fun i hi => by unfold rp kp; split <;> omega
    refine loop_sat (fun i => .int (i : Nat)) (List.range rows.length).reverse (fun pre s H => ∃ x9, H = h ++ [Ob.dk (pre.map fun (i : Nat) => (Sum.inl (i : Int), (trR rows i).d))] ∧ s = [some (.scr ns), some (.int wd), some (.int most), some (.ref 2), x4, x5, x6, x7, some (.ref h.length), x9, none]) (by simp [List.map_reverse]) ⟨_, rfl, rfl⟩ ?_ ?_
    · rintro pre i post _ _ e ⟨x9, rfl, rfl⟩
      obtain ⟨hi, hpl, hpre⟩ := range_rev e
      have hwi := List.getElem?_eq_getElem hi
      have ea : atL ((List.range rows.length).map fun i => D.ref (rp i)) (i : Int) = some (.ref (rp i)) := by
        rw [atL_nat, List.getElem?_map, List.getElem?_range hi]; rfl
      have kl := kl i hi
      have rl := rl i hi
      have er := hr.row i _ hwi
      have ek := hr.kid i _ hwi
      have kds := rb.kids i _ hwi
      simp (disch := (first | omega | (simp only [List.length_set, List.length_append, List.length_cons, List.length_nil, List.length_map, List.length_range]; omega))) only [sat_ok, sat_exc, sat_bad, Kx_ap, seq_n, seq_t, seq_x, vs_nil, vs_cons, optS_some, optS_none, optS_ite, optS_ite2, optS_map, sat_opt, orD_some, orD_none, orD_none2, varS_some, v_var, v_cst, KM_f, KM_t, KB2_ap, KB1_ap, v_bin, KNeg_i, v_neg, KC2_ap, KC1_ap, v_cmp, KH1_ap, KH2_ap, KH3_ap, v_chn, KIsN_t, KIsN_f, v_isN, v_notN, KAnd_ap, AndB_t, AndB_f, v_and, KOr_ap, OrB_t, OrB_f, v_or, KNot_ap, v_not, KA2_ap, KA1_ap, va_nil, va_cons, KTup_ap, v_tup, KLst_f, KLst_t, v_lst, KI2_ap, KI1_ap, v_idx, KCall_ap, v_call, KIsi_ap, v_isi, KBi_ap, v_bi, KO_i, vo_no, vo_yes, KS3_ap, KS2_ap, KS1_ap, v_sli, KMe3_ap, KMe2_ap, KMe1_ap, v_me, KLrg_ap, v_lrng, KLv2_t, KLv2_f, KLv_ap, v_lrev, v_dnew, KInC_ap, v_inC, v_isE, v_exf, KItm_ap, vi_any, KRng_ap, vi_rng, KRrg_ap, vi_rrng, KZip_ap, vi_zip, KRev_ap, vi_rev, KCmp_ap, v_comp, AsgS_some, KTr_ap, vc_no, vc_yes, KN_ap, KSet_ap, vs_pass, vs_ret, vs_retN, vs_expr, vs_set, Br_T, Br_F, Bif_some, KIf_ap, vs_ifs, ic_and, ic_or, ic_not, ic_var, ic_cst, ic_cmp, ic_chn, ic_isN, ic_notN, ic_idx, ic_call, ic_isi, ic_bi, ic_me, ic_inC, ic_isE, ic_lrev, KFor_ap, vs_for, KForI_ap, KForA_ref, KForA_tup, KForA_lst, KForA_scr, KForA_str, vs_forA, KSI3_ap, KSI2_ap, KSI1_ap, vs_setI, KUnp_ap, vs_unp, KAug2_t, KAug2_f, AugS_ap, vs_aug, vs_raise, gone_n, gone_n0, gone_t, gone_x, Hdl_ap, try_n, try_t, try_x, vs_try, Bwh_some, BrW_T, BrW_F, KWh_ap, loopG_nil', bin_add, bin_sub, bin_mul, bin_div, bin_mod, bin_muls, add_str, add_tup, add_lst, add_rl, cmp_eq, cmp_ne, cmp_lt, cmp_le, cmp_gt, cmp_ge, cmp_in, cmp_notin, eqD_int, eqD_str, in_str1, in_tup, in_lst, truth_bl, truth_non, truth_int, truth_str, truth_tup, truth_lst, dBi_s, dBi_i, dBi_t, dLook_t, dLook_l, dLook_s, dLook_c, idx_tup, idx_lst, idx_str, idx_scr, bi_len_str, bi_len_tup, bi_len_lst, bi_len_scr, bi_int_int, bi_int_bl, bi_int_str, bi_str_int, bi_list_tup, bi_list_lst, bi_list_scr, bi_tuple_tup, bi_tuple_lst, bi_min2, bi_max2, sli_str, sli_tup, sli_lst, meT_append, meT_join, asL_ref, asL_lst, meD_append, meD_join, rng1, rng2, isi_i, isi_b, isi_s, isi_t, isi_l, isi_n, isCl, List.any_cons, List.any_nil, zip_tup, zip_lst, rev_tup, rev_lst, lrev_tup, lrev_lst, asg_nm, asg_tp2, asg_tp3, items_tup, items_lst, items_scr, items_str, Option.map_some, Option.map_none, Option.bind_some, Option.isSome_some, atL_0, atL_1, atL_2, atL_3, List.getElem?_cons_zero, List.getElem?_cons_succ, List.getElem?_nil, List.set_cons_zero, List.set_cons_succ, List.set_nil, List.length_cons, List.length_nil, List.cons_append, List.nil_append, decide_eq_true_eq, decide_eq_false_iff_not, Bool.not_eq_true', Bool.not_true, Bool.not_false, Bool.false_eq_true, Bool.or_false, Bool.or_true, Bool.true_or, Bool.and_true, Bool.and_false, if_true, wipes_cons, wipes_nil, isNon_non, isNon_bl, isNon_int, isNon_str, isNon_tup, isNon_lst, isNon_ref, Me.fresh, true_and, and_true, slotOk_s, slotOk_n, hide_s, hide_n, ne_eq, not_true_eq_false, not_false_eq_true, Bool.and_self, S_eq, String.reduceEq, Int.reduceLT, Int.reduceLE, Nat.reduceLeDiff, Nat.reduceAdd, Nat.reduceLT, Nat.reduceMul, Int.reduceNeg, Nat.zero_add, Int.reduceAdd, Int.reduceSub, Int.reduceEq, Nat.reduceEqDiff, Int.reduceToNat, ↓reduceIte, items_ref, set_last, pow18, pow12, List.getElem?_append_left, List.getElem?_append_right, List.getElem?_set_self, List.getElem?_set_ne, Nat.sub_self, id_eq, List.map_cons, List.map_nil, Nat.reducePow, big18, bi_len_ref, bi_list_ref, dBi_len, dBi_list, dGet_ref, dLook_ref, dPut_ref, dCmp_in, dCmp_nin, kOf_int, kOf_str, tOf_two, idx_rs, idx_rt, idx_ri, setD_rs, setD_rt, setD_ref, in_ref, isi_ref, dIsi_ref, meT_pop, meT_insert, meT_reverse, meT_clear, meT_strip, meT_startswith, meT_split, meT_partition, meD_insert, meD_pop, meD_reverse, meD_clear, meD_strip, meD_startswith, meD_partition, meD_split, List.length_append, List.length_map, List.length_range, List.length_set, List.length_reverse, htop, ea, er, ek]
      refine cmp_map (fun j => .int (j : Nat)) (fun j => (trR rows j).d) rows[i].ks rfl (gd_one (by rw [List.getElem?_append_left kl]; exact ek)) ?_ ?_
      · intro j hj
        obtain ⟨h1, h2, _⟩ := kds j hj
        have eg : getKV (pre.map fun (i : Nat) => ((Sum.inl (i : Int) : KD), (trR rows i).d)) (Sum.inl (j : Int)) = some (trR rows j).d :=
          getKV_map (f := fun (i : Nat) => (Sum.inl (i : Int) : KD)) ((hpre j).mpr ⟨h1, h2⟩) fun b _ e => by
            have e : (Sum.inl (b : Int) : KD) = Sum.inl (j : Int) := e
            injection e with e
            rw [Int.ofNat_inj.mp e]
        simp (disch := (first | omega | (simp only [List.length_set, List.length_append, List.length_cons, List.length_nil, List.length_map, List.length_range]; omega))) only [sat_ok, sat_exc, sat_bad, Kx_ap, seq_n, seq_t, seq_x, vs_nil, vs_cons, optS_some, optS_none, optS_ite, optS_ite2, optS_map, sat_opt, orD_some, orD_none, orD_none2, varS_some, v_var, v_cst, KM_f, KM_t, KB2_ap, KB1_ap, v_bin, KNeg_i, v_neg, KC2_ap, KC1_ap, v_cmp, KH1_ap, KH2_ap, KH3_ap, v_chn, KIsN_t, KIsN_f, v_isN, v_notN, KAnd_ap, AndB_t, AndB_f, v_and, KOr_ap, OrB_t, OrB_f, v_or, KNot_ap, v_not, KA2_ap, KA1_ap, va_nil, va_cons, KTup_ap, v_tup, KLst_f, KLst_t, v_lst, KI2_ap, KI1_ap, v_idx, KCall_ap, v_call, KIsi_ap, v_isi, KBi_ap, v_bi, KO_i, vo_no, vo_yes, KS3_ap, KS2_ap, KS1_ap, v_sli, KMe3_ap, KMe2_ap, KMe1_ap, v_me, KLrg_ap, v_lrng, KLv2_t, KLv2_f, KLv_ap, v_lrev, v_dnew, KInC_ap, v_inC, v_isE, v_exf, KItm_ap, vi_any, KRng_ap, vi_rng, KRrg_ap, vi_rrng, KZip_ap, vi_zip, KRev_ap, vi_rev, KCmp_ap, v_comp, AsgS_some, KTr_ap, vc_no, vc_yes, KN_ap, KSet_ap, vs_pass, vs_ret, vs_retN, vs_expr, vs_set, Br_T, Br_F, Bif_some, KIf_ap, vs_ifs, ic_and, ic_or, ic_not, ic_var, ic_cst, ic_cmp, ic_chn, ic_isN, ic_notN, ic_idx, ic_call, ic_isi, ic_bi, ic_me, ic_inC, ic_isE, ic_lrev, KFor_ap, vs_for, KForI_ap, KForA_ref, KForA_tup, KForA_lst, KForA_scr, KForA_str, vs_forA, KSI3_ap, KSI2_ap, KSI1_ap, vs_setI, KUnp_ap, vs_unp, KAug2_t, KAug2_f, AugS_ap, vs_aug, vs_raise, gone_n, gone_n0, gone_t, gone_x, Hdl_ap, try_n, try_t, try_x, vs_try, Bwh_some, BrW_T, BrW_F, KWh_ap, loopG_nil', bin_add, bin_sub, bin_mul, bin_div, bin_mod, bin_muls, add_str, add_tup, add_lst, add_rl, cmp_eq, cmp_ne, cmp_lt, cmp_le, cmp_gt, cmp_ge, cmp_in, cmp_notin, eqD_int, eqD_str, in_str1, in_tup, in_lst, truth_bl, truth_non, truth_int, truth_str, truth_tup, truth_lst, dBi_s, dBi_i, dBi_t, dLook_t, dLook_l, dLook_s, dLook_c, idx_tup, idx_lst, idx_str, idx_scr, bi_len_str, bi_len_tup, bi_len_lst, bi_len_scr, bi_int_int, bi_int_bl, bi_int_str, bi_str_int, bi_list_tup, bi_list_lst, bi_list_scr, bi_tuple_tup, bi_tuple_lst, bi_min2, bi_max2, sli_str, sli_tup, sli_lst, meT_append, meT_join, asL_ref, asL_lst, meD_append, meD_join, rng1, rng2, isi_i, isi_b, isi_s, isi_t, isi_l, isi_n, isCl, List.any_cons, List.any_nil, zip_tup, zip_lst, rev_tup, rev_lst, lrev_tup, lrev_lst, asg_nm, asg_tp2, asg_tp3, items_tup, items_lst, items_scr, items_str, Option.map_some, Option.map_none, Option.bind_some, Option.isSome_some, atL_0, atL_1, atL_2, atL_3, List.getElem?_cons_zero, List.getElem?_cons_succ, List.getElem?_nil, List.set_cons_zero, List.set_cons_succ, List.set_nil, List.length_cons, List.length_nil, List.cons_append, List.nil_append, decide_eq_true_eq, decide_eq_false_iff_not, Bool.not_eq_true', Bool.not_true, Bool.not_false, Bool.false_eq_true, Bool.or_false, Bool.or_true, Bool.true_or, Bool.and_true, Bool.and_false, if_true, wipes_cons, wipes_nil, isNon_non, isNon_bl, isNon_int, isNon_str, isNon_tup, isNon_lst, isNon_ref, Me.fresh, true_and, and_true, slotOk_s, slotOk_n, hide_s, hide_n, ne_eq, not_true_eq_false, not_false_eq_true, Bool.and_self, S_eq, String.reduceEq, Int.reduceLT, Int.reduceLE, Nat.reduceLeDiff, Nat.reduceAdd, Nat.reduceLT, Nat.reduceMul, Int.reduceNeg, Nat.zero_add, Int.reduceAdd, Int.reduceSub, Int.reduceEq, Nat.reduceEqDiff, Int.reduceToNat, ↓reduceIte, items_ref, set_last, pow18, pow12, List.getElem?_append_left, List.getElem?_append_right, List.getElem?_set_self, List.getElem?_set_ne, Nat.sub_self, id_eq, List.map_cons, List.map_nil, Nat.reducePow, big18, bi_len_ref, bi_list_ref, dBi_len, dBi_list, dGet_ref, dLook_ref, dPut_ref, dCmp_in, dCmp_nin, kOf_int, kOf_str, tOf_two, idx_rs, idx_rt, idx_ri, setD_rs, setD_rt, setD_ref, in_ref, isi_ref, dIsi_ref, meT_pop, meT_insert, meT_reverse, meT_clear, meT_strip, meT_startswith, meT_split, meT_partition, meD_insert, meD_pop, meD_reverse, meD_clear, meD_strip, meD_startswith, meD_partition, meD_split, List.length_append, List.length_map, List.length_range, List.length_set, List.length_reverse, eg]
      · have lk : rows[i].ks.length ≤ 16777216 := by have := rb.klen hwi; omega
        have ep : putKV (pre.map fun (i : Nat) => ((Sum.inl (i : Int) : KD), (trR rows i).d)) (Sum.inl (i : Int)) (trR rows i).d = (pre ++ [i]).map fun (i : Nat) => ((Sum.inl (i : Int) : KD), (trR rows i).d) := by
          rw [putKV_new, List.map_append]
          · rfl
          · intro p hp z
            obtain ⟨j, hj, rfl⟩ := List.mem_map.mp hp
            injection z with z
            have := (hpre j).mp hj
            have := Int.ofNat_inj.mp z
            omega
        have et := trR_eq rb hwi
        have etd : (trR rows i).d = .tup [.str rows[i].nm, .int rows[i].mr, .tup (rows[i].ks.map fun j => (trR rows j).d)] := by
          rw [et, Tr.d, Tr.ds_eq, List.map_map]; rfl
        rw [etd] at ep
        simp (disch := (first | omega | (simp only [List.length_set, List.length_append, List.length_cons, List.length_nil, List.length_map, List.length_range]; omega))) only [sat_ok, sat_exc, sat_bad, Kx_ap, seq_n, seq_t, seq_x, vs_nil, vs_cons, optS_some, optS_none, optS_ite, optS_ite2, optS_map, sat_opt, orD_some, orD_none, orD_none2, varS_some, v_var, v_cst, KM_f, KM_t, KB2_ap, KB1_ap, v_bin, KNeg_i, v_neg, KC2_ap, KC1_ap, v_cmp, KH1_ap, KH2_ap, KH3_ap, v_chn, KIsN_t, KIsN_f, v_isN, v_notN, KAnd_ap, AndB_t, AndB_f, v_and, KOr_ap, OrB_t, OrB_f, v_or, KNot_ap, v_not, KA2_ap, KA1_ap, va_nil, va_cons, KTup_ap, v_tup, KLst_f, KLst_t, v_lst, KI2_ap, KI1_ap, v_idx, KCall_ap, v_call, KIsi_ap, v_isi, KBi_ap, v_bi, KO_i, vo_no, vo_yes, KS3_ap, KS2_ap, KS1_ap, v_sli, KMe3_ap, KMe2_ap, KMe1_ap, v_me, KLrg_ap, v_lrng, KLv2_t, KLv2_f, KLv_ap, v_lrev, v_dnew, KInC_ap, v_inC, v_isE, v_exf, KItm_ap, vi_any, KRng_ap, vi_rng, KRrg_ap, vi_rrng, KZip_ap, vi_zip, KRev_ap, vi_rev, KCmp_ap, v_comp, AsgS_some, KTr_ap, vc_no, vc_yes, KN_ap, KSet_ap, vs_pass, vs_ret, vs_retN, vs_expr, vs_set, Br_T, Br_F, Bif_some, KIf_ap, vs_ifs, ic_and, ic_or, ic_not, ic_var, ic_cst, ic_cmp, ic_chn, ic_isN, ic_notN, ic_idx, ic_call, ic_isi, ic_bi, ic_me, ic_inC, ic_isE, ic_lrev, KFor_ap, vs_for, KForI_ap, KForA_ref, KForA_tup, KForA_lst, KForA_scr, KForA_str, vs_forA, KSI3_ap, KSI2_ap, KSI1_ap, vs_setI, KUnp_ap, vs_unp, KAug2_t, KAug2_f, AugS_ap, vs_aug, vs_raise, gone_n, gone_n0, gone_t, gone_x, Hdl_ap, try_n, try_t, try_x, vs_try, Bwh_some, BrW_T, BrW_F, KWh_ap, loopG_nil', bin_add, bin_sub, bin_mul, bin_div, bin_mod, bin_muls, add_str, add_tup, add_lst, add_rl, cmp_eq, cmp_ne, cmp_lt, cmp_le, cmp_gt, cmp_ge, cmp_in, cmp_notin, eqD_int, eqD_str, in_str1, in_tup, in_lst, truth_bl, truth_non, truth_int, truth_str, truth_tup, truth_lst, dBi_s, dBi_i, dBi_t, dLook_t, dLook_l, dLook_s, dLook_c, idx_tup, idx_lst, idx_str, idx_scr, bi_len_str, bi_len_tup, bi_len_lst, bi_len_scr, bi_int_int, bi_int_bl, bi_int_str, bi_str_int, bi_list_tup, bi_list_lst, bi_list_scr, bi_tuple_tup, bi_tuple_lst, bi_min2, bi_max2, sli_str, sli_tup, sli_lst, meT_append, meT_join, asL_ref, asL_lst, meD_append, meD_join, rng1, rng2, isi_i, isi_b, isi_s, isi_t, isi_l, isi_n, isCl, List.any_cons, List.any_nil, zip_tup, zip_lst, rev_tup, rev_lst, lrev_tup, lrev_lst, asg_nm, asg_tp2, asg_tp3, items_tup, items_lst, items_scr, items_str, Option.map_some, Option.map_none, Option.bind_some, Option.isSome_some, atL_0, atL_1, atL_2, atL_3, List.getElem?_cons_zero, List.getElem?_cons_succ, List.getElem?_nil, List.set_cons_zero, List.set_cons_succ, List.set_nil, List.length_cons, List.length_nil, List.cons_append, List.nil_append, decide_eq_true_eq, decide_eq_false_iff_not, Bool.not_eq_true', Bool.not_true, Bool.not_false, Bool.false_eq_true, Bool.or_false, Bool.or_true, Bool.true_or, Bool.and_true, Bool.and_false, if_true, wipes_cons, wipes_nil, isNon_non, isNon_bl, isNon_int, isNon_str, isNon_tup, isNon_lst, isNon_ref, Me.fresh, true_and, and_true, slotOk_s, slotOk_n, hide_s, hide_n, ne_eq, not_true_eq_false, not_false_eq_true, Bool.and_self, S_eq, String.reduceEq, Int.reduceLT, Int.reduceLE, Nat.reduceLeDiff, Nat.reduceAdd, Nat.reduceLT, Nat.reduceMul, Int.reduceNeg, Nat.zero_add, Int.reduceAdd, Int.reduceSub, Int.reduceEq, Nat.reduceEqDiff, Int.reduceToNat, ↓reduceIte, items_ref, set_last, pow18, pow12, List.getElem?_append_left, List.getElem?_append_right, List.getElem?_set_self, List.getElem?_set_ne, Nat.sub_self, id_eq, List.map_cons, List.map_nil, Nat.reducePow, big18, bi_len_ref, bi_list_ref, dBi_len, dBi_list, dGet_ref, dLook_ref, dPut_ref, dCmp_in, dCmp_nin, kOf_int, kOf_str, tOf_two, idx_rs, idx_rt, idx_ri, setD_rs, setD_rt, setD_ref, in_ref, isi_ref, dIsi_ref, meT_pop, meT_insert, meT_reverse, meT_clear, meT_strip, meT_startswith, meT_split, meT_partition, meD_insert, meD_pop, meD_reverse, meD_clear, meD_strip, meD_startswith, meD_partition, meD_split, List.length_append, List.length_map, List.length_range, List.length_set, List.length_reverse, htop, ea, er, ek, ep]
        exact ⟨lk, by omega, _, rfl⟩
    · rintro _ _ ⟨x9, rfl, rfl⟩
      have eg : getKV ((List.range rows.length).reverse.map fun (i : Nat) => ((Sum.inl (i : Int) : KD), (trR rows i).d)) (Sum.inl (0 : Int)) = some (trR rows 0).d := by
        refine getKV_map (f := fun (i : Nat) => (Sum.inl (i : Int) : KD)) (a := 0) (by simp; exact rb.pos) fun b _ e => ?_
        have e : (Sum.inl (b : Int) : KD) = Sum.inl ((0 : Nat) : Int) := e
        injection e with e
        rw [Int.ofNat_inj.mp e]
      simp (disch := (first | omega | (simp only [List.length_set, List.length_append, List.length_cons, List.length_nil, List.length_map, List.length_range]; omega))) only [sat_ok, sat_exc, sat_bad, Kx_ap, seq_n, seq_t, seq_x, vs_nil, vs_cons, optS_some, optS_none, optS_ite, optS_ite2, optS_map, sat_opt, orD_some, orD_none, orD_none2, varS_some, v_var, v_cst, KM_f, KM_t, KB2_ap, KB1_ap, v_bin, KNeg_i, v_neg, KC2_ap, KC1_ap, v_cmp, KH1_ap, KH2_ap, KH3_ap, v_chn, KIsN_t, KIsN_f, v_isN, v_notN, KAnd_ap, AndB_t, AndB_f, v_and, KOr_ap, OrB_t, OrB_f, v_or, KNot_ap, v_not, KA2_ap, KA1_ap, va_nil, va_cons, KTup_ap, v_tup, KLst_f, KLst_t, v_lst, KI2_ap, KI1_ap, v_idx, KCall_ap, v_call, KIsi_ap, v_isi, KBi_ap, v_bi, KO_i, vo_no, vo_yes, KS3_ap, KS2_ap, KS1_ap, v_sli, KMe3_ap, KMe2_ap, KMe1_ap, v_me, KLrg_ap, v_lrng, KLv2_t, KLv2_f, KLv_ap, v_lrev, v_dnew, KInC_ap, v_inC, v_isE, v_exf, KItm_ap, vi_any, KRng_ap, vi_rng, KRrg_ap, vi_rrng, KZip_ap, vi_zip, KRev_ap, vi_rev, KCmp_ap, v_comp, AsgS_some, KTr_ap, vc_no, vc_yes, KN_ap, KSet_ap, vs_pass, vs_ret, vs_retN, vs_expr, vs_set, Br_T, Br_F, Bif_some, KIf_ap, vs_ifs, ic_and, ic_or, ic_not, ic_var, ic_cst, ic_cmp, ic_chn, ic_isN, ic_notN, ic_idx, ic_call, ic_isi, ic_bi, ic_me, ic_inC, ic_isE, ic_lrev, KFor_ap, vs_for, KForI_ap, KForA_ref, KForA_tup, KForA_lst, KForA_scr, KForA_str, vs_forA, KSI3_ap, KSI2_ap, KSI1_ap, vs_setI, KUnp_ap, vs_unp, KAug2_t, KAug2_f, AugS_ap, vs_aug, vs_raise, gone_n, gone_n0, gone_t, gone_x, Hdl_ap, try_n, try_t, try_x, vs_try, Bwh_some, BrW_T, BrW_F, KWh_ap, loopG_nil', bin_add, bin_sub, bin_mul, bin_div, bin_mod, bin_muls, add_str, add_tup, add_lst, add_rl, cmp_eq, cmp_ne, cmp_lt, cmp_le, cmp_gt, cmp_ge, cmp_in, cmp_notin, eqD_int, eqD_str, in_str1, in_tup, in_lst, truth_bl, truth_non, truth_int, truth_str, truth_tup, truth_lst, dBi_s, dBi_i, dBi_t, dLook_t, dLook_l, dLook_s, dLook_c, idx_tup, idx_lst, idx_str, idx_scr, bi_len_str, bi_len_tup, bi_len_lst, bi_len_scr, bi_int_int, bi_int_bl, bi_int_str, bi_str_int, bi_list_tup, bi_list_lst, bi_list_scr, bi_tuple_tup, bi_tuple_lst, bi_min2, bi_max2, sli_str, sli_tup, sli_lst, meT_append, meT_join, asL_ref, asL_lst, meD_append, meD_join, rng1, rng2, isi_i, isi_b, isi_s, isi_t, isi_l, isi_n, isCl, List.any_cons, List.any_nil, zip_tup, zip_lst, rev_tup, rev_lst, lrev_tup, lrev_lst, asg_nm, asg_tp2, asg_tp3, items_tup, items_lst, items_scr, items_str, Option.map_some, Option.map_none, Option.bind_some, Option.isSome_some, atL_0, atL_1, atL_2, atL_3, List.getElem?_cons_zero, List.getElem?_cons_succ, List.getElem?_nil, List.set_cons_zero, List.set_cons_succ, List.set_nil, List.length_cons, List.length_nil, List.cons_append, List.nil_append, decide_eq_true_eq, decide_eq_false_iff_not, Bool.not_eq_true', Bool.not_true, Bool.not_false, Bool.false_eq_true, Bool.or_false, Bool.or_true, Bool.true_or, Bool.and_true, Bool.and_false, if_true, wipes_cons, wipes_nil, isNon_non, isNon_bl, isNon_int, isNon_str, isNon_tup, isNon_lst, isNon_ref, Me.fresh, true_and, and_true, slotOk_s, slotOk_n, hide_s, hide_n, ne_eq, not_true_eq_false, not_false_eq_true, Bool.and_self, S_eq, String.reduceEq, Int.reduceLT, Int.reduceLE, Nat.reduceLeDiff, Nat.reduceAdd, Nat.reduceLT, Nat.reduceMul, Int.reduceNeg, Nat.zero_add, Int.reduceAdd, Int.reduceSub, Int.reduceEq, Nat.reduceEqDiff, Int.reduceToNat, ↓reduceIte, items_ref, set_last, pow18, pow12, List.getElem?_append_left, List.getElem?_append_right, List.getElem?_set_self, List.getElem?_set_ne, Nat.sub_self, id_eq, List.map_cons, List.map_nil, Nat.reducePow, big18, bi_len_ref, bi_list_ref, dBi_len, dBi_list, dGet_ref, dLook_ref, dPut_ref, dCmp_in, dCmp_nin, kOf_int, kOf_str, tOf_two, idx_rs, idx_rt, idx_ri, setD_rs, setD_rt, setD_ref, in_ref, isi_ref, dIsi_ref, meT_pop, meT_insert, meT_reverse, meT_clear, meT_strip, meT_startswith, meT_split, meT_partition, meD_insert, meD_pop, meD_reverse, meD_clear, meD_strip, meD_startswith, meD_partition, meD_split, List.length_append, List.length_map, List.length_range, List.length_set, List.length_reverse, eg]
      obtain ⟨w, hw, hd⟩ := rb.root
      have h1 := trR_all rb _ 0 w (Nat.le_refl _) hw
      exact Rq_pl (Tr.nr _) ⟨_, rfl, h1.1, by omega, by rw [trR_sz rb]; exact hl60⟩
theorem g_told (k : Nat) (t : Tr) (ho : t.ok) (hk : t.ht ≤ 20) (hz : t.sz ≤ 60) : Gv prog (k + 50) i__law_told [t.d] fun d => d = .bl true :=
  gv_ok fun h => told_ok k t h ho hk hz
theorem Tr.ok_rev {nm : List Nat} {mk : Nat} {ks : List Tr} (h : (Tr.nd nm mk ks).ok) : (Tr.nd nm mk ks.reverse).ok ∧ (Tr.nd nm mk ks.reverse).ht = (Tr.nd nm mk ks).ht ∧ (Tr.nd nm mk ks.reverse).sz = (Tr.nd nm mk ks).sz := by
  have hts : ∀ l : List Tr, ∀ n, (Tr.hts l ≤ n ↔ ∀ t ∈ l, t.ht ≤ n) := fun l n => by
    induction l with
    | nil => simp [Tr.hts]
    | cons a l ih => simp only [Tr.hts, List.forall_mem_cons, ← ih, Nat.max_le]
  refine ⟨?_, ?_, ?_⟩
  · simp only [Tr.ok, Tr.oks_iff] at h ⊢
    exact ⟨h.1, h.2.1, fun t ht => h.2.2 t (by simpa using ht)⟩
  · simp only [Tr.ht]
    have : Tr.hts ks.reverse = Tr.hts ks := by
      apply Nat.le_antisymm
      · rw [hts]; intro t ht; exact Tr.ht_mem (by simpa using ht)
      · rw [hts]; intro t ht; exact Tr.ht_mem (by simpa using ht)
    rw [this]
  · simp only [Tr.sz, Tr.szs_eq, List.map_reverse]
    rw [List.sum_reverse]
theorem law_true (ns : List Int) (hl : ns.length ≤ 63) : ∃ h, call prog 60 13 [.scr ns] [] = .ok (.bl true) h := by
  refine law_of (k := 59) (fn := f_law) rfl rfl ?_
  simp only [st0, List.map_cons, List.map_nil, List.length_cons, List.length_nil, List.replicate_succ, List.replicate_zero, List.cons_append, List.nil_append, Nat.reduceSub, Nat.reduceAdd, f_law]
  have es : ∀ h : AH, sliD h (.scr ns) none (some 59) = some (.lst ((ns.take 59).map .int)) := fun h => by
    show some (D.lst (cutL (ns.map D.int) none (some ((59 : Nat) : Int)))) = _
    rw [cutL_to, List.map_take]
  simp (disch := (first | omega | (simp only [List.length_set, List.length_append, List.length_cons, List.length_nil, List.length_map, List.length_range]; omega))) only [sat_ok, sat_exc, sat_bad, Kx_ap, seq_n, seq_t, seq_x, vs_nil, vs_cons, optS_some, optS_none, optS_ite, optS_ite2, optS_map, sat_opt, orD_some, orD_none, orD_none2, varS_some, v_var, v_cst, KM_f, KM_t, KB2_ap, KB1_ap, v_bin, KNeg_i, v_neg, KC2_ap, KC1_ap, v_cmp, KH1_ap, KH2_ap, KH3_ap, v_chn, KIsN_t, KIsN_f, v_isN, v_notN, KAnd_ap, AndB_t, AndB_f, v_and, KOr_ap, OrB_t, OrB_f, v_or, KNot_ap, v_not, KA2_ap, KA1_ap, va_nil, va_cons, KTup_ap, v_tup, KLst_f, KLst_t, v_lst, KI2_ap, KI1_ap, v_idx, KCall_ap, v_call, KIsi_ap, v_isi, KBi_ap, v_bi, KO_i, vo_no, vo_yes, KS3_ap, KS2_ap, KS1_ap, v_sli, KMe3_ap, KMe2_ap, KMe1_ap, v_me, KLrg_ap, v_lrng, KLv2_t, KLv2_f, KLv_ap, v_lrev, v_dnew, KInC_ap, v_inC, v_isE, v_exf, KItm_ap, vi_any, KRng_ap, vi_rng, KRrg_ap, vi_rrng, KZip_ap, vi_zip, KRev_ap, vi_rev, KCmp_ap, v_comp, AsgS_some, KTr_ap, vc_no, vc_yes, KN_ap, KSet_ap, vs_pass, vs_ret, vs_retN, vs_expr, vs_set, Br_T, Br_F, Bif_some, KIf_ap, vs_ifs, ic_and, ic_or, ic_not, ic_var, ic_cst, ic_cmp, ic_chn, ic_isN, ic_notN, ic_idx, ic_call, ic_isi, ic_bi, ic_me, ic_inC, ic_isE, ic_lrev, KFor_ap, vs_for, KForI_ap, KForA_ref, KForA_tup, KForA_lst, KForA_scr, KForA_str, vs_forA, KSI3_ap, KSI2_ap, KSI1_ap, vs_setI, KUnp_ap, vs_unp, KAug2_t, KAug2_f, AugS_ap, vs_aug, vs_raise, gone_n, gone_n0, gone_t, gone_x, Hdl_ap, try_n, try_t, try_x, vs_try, Bwh_some, BrW_T, BrW_F, KWh_ap, loopG_nil', bin_add, bin_sub, bin_mul, bin_div, bin_mod, bin_muls, add_str, add_tup, add_lst, add_rl, cmp_eq, cmp_ne, cmp_lt, cmp_le, cmp_gt, cmp_ge, cmp_in, cmp_notin, eqD_int, eqD_str, in_str1, in_tup, in_lst, truth_bl, truth_non, truth_int, truth_str, truth_tup, truth_lst, dBi_s, dBi_i, dBi_t, dLook_t, dLook_l, dLook_s, dLook_c, idx_tup, idx_lst, idx_str, idx_scr, bi_len_str, bi_len_tup, bi_len_lst, bi_len_scr, bi_int_int, bi_int_bl, bi_int_str, bi_str_int, bi_list_tup, bi_list_lst, bi_list_scr, bi_tuple_tup, bi_tuple_lst, bi_min2, bi_max2, sli_str, sli_tup, sli_lst, meT_append, meT_join, asL_ref, asL_lst, meD_append, meD_join, rng1, rng2, isi_i, isi_b, isi_s, isi_t, isi_l, isi_n, isCl, List.any_cons, List.any_nil, zip_tup, zip_lst, rev_tup, rev_lst, lrev_tup, lrev_lst, asg_nm, asg_tp2, asg_tp3, items_tup, items_lst, items_scr, items_str, Option.map_some, Option.map_none, Option.bind_some, Option.isSome_some, atL_0, atL_1, atL_2, atL_3, List.getElem?_cons_zero, List.getElem?_cons_succ, List.getElem?_nil, List.set_cons_zero, List.set_cons_succ, List.set_nil, List.length_cons, List.length_nil, List.cons_append, List.nil_append, decide_eq_true_eq, decide_eq_false_iff_not, Bool.not_eq_true', Bool.not_true, Bool.not_false, Bool.false_eq_true, Bool.or_false, Bool.or_true, Bool.true_or, Bool.and_true, Bool.and_false, if_true, wipes_cons, wipes_nil, isNon_non, isNon_bl, isNon_int, isNon_str, isNon_tup, isNon_lst, isNon_ref, Me.fresh, true_and, and_true, slotOk_s, slotOk_n, hide_s, hide_n, ne_eq, not_true_eq_false, not_false_eq_true, Bool.and_self, S_eq, String.reduceEq, Int.reduceLT, Int.reduceLE, Nat.reduceLeDiff, Nat.reduceAdd, Nat.reduceLT, Nat.reduceMul, Int.reduceNeg, Nat.zero_add, Int.reduceAdd, Int.reduceSub, Int.reduceEq, Nat.reduceEqDiff, Int.reduceToNat, ↓reduceIte, items_ref, set_last, pow18, pow12, List.getElem?_append_left, List.getElem?_append_right, List.getElem?_set_self, List.getElem?_set_ne, Nat.sub_self, id_eq, List.map_cons, List.map_nil, Nat.reducePow, big18, bi_len_ref, bi_list_ref, dBi_len, dBi_list, dGet_ref, dLook_ref, dPut_ref, dCmp_in, dCmp_nin, kOf_int, kOf_str, tOf_two, idx_rs, idx_rt, idx_ri, setD_rs, setD_rt, setD_ref, in_ref, isi_ref, dIsi_ref, meT_pop, meT_insert, meT_reverse, meT_clear, meT_strip, meT_startswith, meT_split, meT_partition, meD_insert, meD_pop, meD_reverse, meD_clear, meD_strip, meD_startswith, meD_partition, meD_split, List.length_append, List.length_map, List.length_range, List.length_set, List.length_reverse, es]
  refine loop_sat (fun i => .int i) (ns.take 59) (fun pre s h => ∃ x sd, h = [] ∧ s = [some (.scr ns), some (.int sd), x, none, none, none]) rfl ⟨_, _, rfl, rfl⟩ ?_ ?_
  · rintro pre a post _ _ e ⟨x, sd, rfl, rfl⟩
    simp (disch := (first | omega | (simp only [List.length_set, List.length_append, List.length_cons, List.length_nil, List.length_map, List.length_range]; omega))) only [sat_ok, sat_exc, sat_bad, Kx_ap, seq_n, seq_t, seq_x, vs_nil, vs_cons, optS_some, optS_none, optS_ite, optS_ite2, optS_map, sat_opt, orD_some, orD_none, orD_none2, varS_some, v_var, v_cst, KM_f, KM_t, KB2_ap, KB1_ap, v_bin, KNeg_i, v_neg, KC2_ap, KC1_ap, v_cmp, KH1_ap, KH2_ap, KH3_ap, v_chn, KIsN_t, KIsN_f, v_isN, v_notN, KAnd_ap, AndB_t, AndB_f, v_and, KOr_ap, OrB_t, OrB_f, v_or, KNot_ap, v_not, KA2_ap, KA1_ap, va_nil, va_cons, KTup_ap, v_tup, KLst_f, KLst_t, v_lst, KI2_ap, KI1_ap, v_idx, KCall_ap, v_call, KIsi_ap, v_isi, KBi_ap, v_bi, KO_i, vo_no, vo_yes, KS3_ap, KS2_ap, KS1_ap, v_sli, KMe3_ap, KMe2_ap, KMe1_ap, v_me, KLrg_ap, v_lrng, KLv2_t, KLv2_f, KLv_ap, v_lrev, v_dnew, KInC_ap, v_inC, v_isE, v_exf, KItm_ap, vi_any, KRng_ap, vi_rng, KRrg_ap, vi_rrng, KZip_ap, vi_zip, KRev_ap, vi_rev, KCmp_ap, v_comp, AsgS_some, KTr_ap, vc_no, vc_yes, KN_ap, KSet_ap, vs_pass, vs_ret, vs_retN, vs_expr, vs_set, Br_T, Br_F, Bif_some, KIf_ap, vs_ifs, ic_and, ic_or, ic_not, ic_var, ic_cst, ic_cmp, ic_chn, ic_isN, ic_notN, ic_idx, ic_call, ic_isi, ic_bi, ic_me, ic_inC, ic_isE, ic_lrev, KFor_ap, vs_for, KForI_ap, KForA_ref, KForA_tup, KForA_lst, KForA_scr, KForA_str, vs_forA, KSI3_ap, KSI2_ap, KSI1_ap, vs_setI, KUnp_ap, vs_unp, KAug2_t, KAug2_f, AugS_ap, vs_aug, vs_raise, gone_n, gone_n0, gone_t, gone_x, Hdl_ap, try_n, try_t, try_x, vs_try, Bwh_some, BrW_T, BrW_F, KWh_ap, loopG_nil', bin_add, bin_sub, bin_mul, bin_div, bin_mod, bin_muls, add_str, add_tup, add_lst, add_rl, cmp_eq, cmp_ne, cmp_lt, cmp_le, cmp_gt, cmp_ge, cmp_in, cmp_notin, eqD_int, eqD_str, in_str1, in_tup, in_lst, truth_bl, truth_non, truth_int, truth_str, truth_tup, truth_lst, dBi_s, dBi_i, dBi_t, dLook_t, dLook_l, dLook_s, dLook_c, idx_tup, idx_lst, idx_str, idx_scr, bi_len_str, bi_len_tup, bi_len_lst, bi_len_scr, bi_int_int, bi_int_bl, bi_int_str, bi_str_int, bi_list_tup, bi_list_lst, bi_list_scr, bi_tuple_tup, bi_tuple_lst, bi_min2, bi_max2, sli_str, sli_tup, sli_lst, meT_append, meT_join, asL_ref, asL_lst, meD_append, meD_join, rng1, rng2, isi_i, isi_b, isi_s, isi_t, isi_l, isi_n, isCl, List.any_cons, List.any_nil, zip_tup, zip_lst, rev_tup, rev_lst, lrev_tup, lrev_lst, asg_nm, asg_tp2, asg_tp3, items_tup, items_lst, items_scr, items_str, Option.map_some, Option.map_none, Option.bind_some, Option.isSome_some, atL_0, atL_1, atL_2, atL_3, List.getElem?_cons_zero, List.getElem?_cons_succ, List.getElem?_nil, List.set_cons_zero, List.set_cons_succ, List.set_nil, List.length_cons, List.length_nil, List.cons_append, List.nil_append, decide_eq_true_eq, decide_eq_false_iff_not, Bool.not_eq_true', Bool.not_true, Bool.not_false, Bool.false_eq_true, Bool.or_false, Bool.or_true, Bool.true_or, Bool.and_true, Bool.and_false, if_true, wipes_cons, wipes_nil, isNon_non, isNon_bl, isNon_int, isNon_str, isNon_tup, isNon_lst, isNon_ref, Me.fresh, true_and, and_true, slotOk_s, slotOk_n, hide_s, hide_n, ne_eq, not_true_eq_false, not_false_eq_true, Bool.and_self, S_eq, String.reduceEq, Int.reduceLT, Int.reduceLE, Nat.reduceLeDiff, Nat.reduceAdd, Nat.reduceLT, Nat.reduceMul, Int.reduceNeg, Nat.zero_add, Int.reduceAdd, Int.reduceSub, Int.reduceEq, Nat.reduceEqDiff, Int.reduceToNat, ↓reduceIte, items_ref, set_last, pow18, pow12, List.getElem?_append_left, List.getElem?_append_right, List.getElem?_set_self, List.getElem?_set_ne, Nat.sub_self, id_eq, List.map_cons, List.map_nil, Nat.reducePow, big18, bi_len_ref, bi_list_ref, dBi_len, dBi_list, dGet_ref, dLook_ref, dPut_ref, dCmp_in, dCmp_nin, kOf_int, kOf_str, tOf_two, idx_rs, idx_rt, idx_ri, setD_rs, setD_rt, setD_ref, in_ref, isi_ref, dIsi_ref, meT_pop, meT_insert, meT_reverse, meT_clear, meT_strip, meT_startswith, meT_split, meT_partition, meD_insert, meD_pop, meD_reverse, meD_clear, meD_strip, meD_startswith, meD_partition, meD_split, List.length_append, List.length_map, List.length_range, List.length_set, List.length_reverse]
    repeat refine And.intro (by first | omega | decide | assumption | exact sm_r (by omega) | exact sm_l (by omega)) ?_
    exact ⟨_, _, rfl⟩
  · rintro _ _ ⟨x, sd, rfl, rfl⟩
    simp (disch := (first | omega | (simp only [List.length_set, List.length_append, List.length_cons, List.length_nil, List.length_map, List.length_range]; omega))) only [sat_ok, sat_exc, sat_bad, Kx_ap, seq_n, seq_t, seq_x, vs_nil, vs_cons, optS_some, optS_none, optS_ite, optS_ite2, optS_map, sat_opt, orD_some, orD_none, orD_none2, varS_some, v_var, v_cst, KM_f, KM_t, KB2_ap, KB1_ap, v_bin, KNeg_i, v_neg, KC2_ap, KC1_ap, v_cmp, KH1_ap, KH2_ap, KH3_ap, v_chn, KIsN_t, KIsN_f, v_isN, v_notN, KAnd_ap, AndB_t, AndB_f, v_and, KOr_ap, OrB_t, OrB_f, v_or, KNot_ap, v_not, KA2_ap, KA1_ap, va_nil, va_cons, KTup_ap, v_tup, KLst_f, KLst_t, v_lst, KI2_ap, KI1_ap, v_idx, KCall_ap, v_call, KIsi_ap, v_isi, KBi_ap, v_bi, KO_i, vo_no, vo_yes, KS3_ap, KS2_ap, KS1_ap, v_sli, KMe3_ap, KMe2_ap, KMe1_ap, v_me, KLrg_ap, v_lrng, KLv2_t, KLv2_f, KLv_ap, v_lrev, v_dnew, KInC_ap, v_inC, v_isE, v_exf, KItm_ap, vi_any, KRng_ap, vi_rng, KRrg_ap, vi_rrng, KZip_ap, vi_zip, KRev_ap, vi_rev, KCmp_ap, v_comp, AsgS_some, KTr_ap, vc_no, vc_yes, KN_ap, KSet_ap, vs_pass, vs_ret, vs_retN, vs_expr, vs_set, Br_T, Br_F, Bif_some, KIf_ap, vs_ifs, ic_and, ic_or, ic_not, ic_var, ic_cst, ic_cmp, ic_chn, ic_isN, ic_notN, ic_idx, ic_call, ic_isi, ic_bi, ic_me, ic_inC, ic_isE, ic_lrev, KFor_ap, vs_for, KForI_ap, KForA_ref, KForA_tup, KForA_lst, KForA_scr, KForA_str, vs_forA, KSI3_ap, KSI2_ap, KSI1_ap, vs_setI, KUnp_ap, vs_unp, KAug2_t, KAug2_f, AugS_ap, vs_aug, vs_raise, gone_n, gone_n0, gone_t, gone_x, Hdl_ap, try_n, try_t, try_x, vs_try, Bwh_some, BrW_T, BrW_F, KWh_ap, loopG_nil', bin_add, bin_sub, bin_mul, bin_div, bin_mod, bin_muls, add_str, add_tup, add_lst, add_rl, cmp_eq, cmp_ne, cmp_lt, cmp_le, cmp_gt, cmp_ge, cmp_in, cmp_notin, eqD_int, eqD_str, in_str1, in_tup, in_lst, truth_bl, truth_non, truth_int, truth_str, truth_tup, truth_lst, dBi_s, dBi_i, dBi_t, dLook_t, dLook_l, dLook_s, dLook_c, idx_tup, idx_lst, idx_str, idx_scr, bi_len_str, bi_len_tup, bi_len_lst, bi_len_scr, bi_int_int, bi_int_bl, bi_int_str, bi_str_int, bi_list_tup, bi_list_lst, bi_list_scr, bi_tuple_tup, bi_tuple_lst, bi_min2, bi_max2, sli_str, sli_tup, sli_lst, meT_append, meT_join, asL_ref, asL_lst, meD_append, meD_join, rng1, rng2, isi_i, isi_b, isi_s, isi_t, isi_l, isi_n, isCl, List.any_cons, List.any_nil, zip_tup, zip_lst, rev_tup, rev_lst, lrev_tup, lrev_lst, asg_nm, asg_tp2, asg_tp3, items_tup, items_lst, items_scr, items_str, Option.map_some, Option.map_none, Option.bind_some, Option.isSome_some, atL_0, atL_1, atL_2, atL_3, List.getElem?_cons_zero, List.getElem?_cons_succ, List.getElem?_nil, List.set_cons_zero, List.set_cons_succ, List.set_nil, List.length_cons, List.length_nil, List.cons_append, List.nil_append, decide_eq_true_eq, decide_eq_false_iff_not, Bool.not_eq_true', Bool.not_true, Bool.not_false, Bool.false_eq_true, Bool.or_false, Bool.or_true, Bool.true_or, Bool.and_true, Bool.and_false, if_true, wipes_cons, wipes_nil, isNon_non, isNon_bl, isNon_int, isNon_str, isNon_tup, isNon_lst, isNon_ref, Me.fresh, true_and, and_true, slotOk_s, slotOk_n, hide_s, hide_n, ne_eq, not_true_eq_false, not_false_eq_true, Bool.and_self, S_eq, String.reduceEq, Int.reduceLT, Int.reduceLE, Nat.reduceLeDiff, Nat.reduceAdd, Nat.reduceLT, Nat.reduceMul, Int.reduceNeg, Nat.zero_add, Int.reduceAdd, Int.reduceSub, Int.reduceEq, Nat.reduceEqDiff, Int.reduceToNat, ↓reduceIte, items_ref, set_last, pow18, pow12, List.getElem?_append_left, List.getElem?_append_right, List.getElem?_set_self, List.getElem?_set_ne, Nat.sub_self, id_eq, List.map_cons, List.map_nil, Nat.reducePow, big18, bi_len_ref, bi_list_ref, dBi_len, dBi_list, dGet_ref, dLook_ref, dPut_ref, dCmp_in, dCmp_nin, kOf_int, kOf_str, tOf_two, idx_rs, idx_rt, idx_ri, setD_rs, setD_rt, setD_ref, in_ref, isi_ref, dIsi_ref, meT_pop, meT_insert, meT_reverse, meT_clear, meT_strip, meT_startswith, meT_split, meT_partition, meD_insert, meD_pop, meD_reverse, meD_clear, meD_strip, meD_startswith, meD_partition, meD_split, List.length_append, List.length_map, List.length_range, List.length_set, List.length_reverse]
    refine gv_sat (s_built 57 ns sd 20 (by omega)) ?_
    rintro _ ⟨t, rfl, ok, hh, hz⟩
    obtain ⟨nm, mk, ks⟩ := t
    have eD : Tr.d (.nd nm mk ks) = .tup [.str nm, .int mk, .tup (ks.map Tr.d)] := by rw [Tr.d, Tr.ds_eq]
    have eR : Tr.d (.nd nm mk ks.reverse) = .tup [.str nm, .int mk, .tup (ks.map Tr.d).reverse] := by rw [Tr.d, Tr.ds_eq, List.map_reverse]
    have hr := Tr.ok_rev ok
    have kok := ok
    simp only [Tr.ok, Tr.oks_iff] at kok
    rw [eD]
    simp (disch := (first | omega | (simp only [List.length_set, List.length_append, List.length_cons, List.length_nil, List.length_map, List.length_range]; omega))) only [sat_ok, sat_exc, sat_bad, Kx_ap, seq_n, seq_t, seq_x, vs_nil, vs_cons, optS_some, optS_none, optS_ite, optS_ite2, optS_map, sat_opt, orD_some, orD_none, orD_none2, varS_some, v_var, v_cst, KM_f, KM_t, KB2_ap, KB1_ap, v_bin, KNeg_i, v_neg, KC2_ap, KC1_ap, v_cmp, KH1_ap, KH2_ap, KH3_ap, v_chn, KIsN_t, KIsN_f, v_isN, v_notN, KAnd_ap, AndB_t, AndB_f, v_and, KOr_ap, OrB_t, OrB_f, v_or, KNot_ap, v_not, KA2_ap, KA1_ap, va_nil, va_cons, KTup_ap, v_tup, KLst_f, KLst_t, v_lst, KI2_ap, KI1_ap, v_idx, KCall_ap, v_call, KIsi_ap, v_isi, KBi_ap, v_bi, KO_i, vo_no, vo_yes, KS3_ap, KS2_ap, KS1_ap, v_sli, KMe3_ap, KMe2_ap, KMe1_ap, v_me, KLrg_ap, v_lrng, KLv2_t, KLv2_f, KLv_ap, v_lrev, v_dnew, KInC_ap, v_inC, v_isE, v_exf, KItm_ap, vi_any, KRng_ap, vi_rng, KRrg_ap, vi_rrng, KZip_ap, vi_zip, KRev_ap, vi_rev, KCmp_ap, v_comp, AsgS_some, KTr_ap, vc_no, vc_yes, KN_ap, KSet_ap, vs_pass, vs_ret, vs_retN, vs_expr, vs_set, Br_T, Br_F, Bif_some, KIf_ap, vs_ifs, ic_and, ic_or, ic_not, ic_var, ic_cst, ic_cmp, ic_chn, ic_isN, ic_notN, ic_idx, ic_call, ic_isi, ic_bi, ic_me, ic_inC, ic_isE, ic_lrev, KFor_ap, vs_for, KForI_ap, KForA_ref, KForA_tup, KForA_lst, KForA_scr, KForA_str, vs_forA, KSI3_ap, KSI2_ap, KSI1_ap, vs_setI, KUnp_ap, vs_unp, KAug2_t, KAug2_f, AugS_ap, vs_aug, vs_raise, gone_n, gone_n0, gone_t, gone_x, Hdl_ap, try_n, try_t, try_x, vs_try, Bwh_some, BrW_T, BrW_F, KWh_ap, loopG_nil', bin_add, bin_sub, bin_mul, bin_div, bin_mod, bin_muls, add_str, add_tup, add_lst, add_rl, cmp_eq, cmp_ne, cmp_lt, cmp_le, cmp_gt, cmp_ge, cmp_in, cmp_notin, eqD_int, eqD_str, in_str1, in_tup, in_lst, truth_bl, truth_non, truth_int, truth_str, truth_tup, truth_lst, dBi_s, dBi_i, dBi_t, dLook_t, dLook_l, dLook_s, dLook_c, idx_tup, idx_lst, idx_str, idx_scr, bi_len_str, bi_len_tup, bi_len_lst, bi_len_scr, bi_int_int, bi_int_bl, bi_int_str, bi_str_int, bi_list_tup, bi_list_lst, bi_list_scr, bi_tuple_tup, bi_tuple_lst, bi_min2, bi_max2, sli_str, sli_tup, sli_lst, meT_append, meT_join, asL_ref, asL_lst, meD_append, meD_join, rng1, rng2, isi_i, isi_b, isi_s, isi_t, isi_l, isi_n, isCl, List.any_cons, List.any_nil, zip_tup, zip_lst, rev_tup, rev_lst, lrev_tup, lrev_lst, asg_nm, asg_tp2, asg_tp3, items_tup, items_lst, items_scr, items_str, Option.map_some, Option.map_none, Option.bind_some, Option.isSome_some, atL_0, atL_1, atL_2, atL_3, List.getElem?_cons_zero, List.getElem?_cons_succ, List.getElem?_nil, List.set_cons_zero, List.set_cons_succ, List.set_nil, List.length_cons, List.length_nil, List.cons_append, List.nil_append, decide_eq_true_eq, decide_eq_false_iff_not, Bool.not_eq_true', Bool.not_true, Bool.not_false, Bool.false_eq_true, Bool.or_false, Bool.or_true, Bool.true_or, Bool.and_true, Bool.and_false, if_true, wipes_cons, wipes_nil, isNon_non, isNon_bl, isNon_int, isNon_str, isNon_tup, isNon_lst, isNon_ref, Me.fresh, true_and, and_true, slotOk_s, slotOk_n, hide_s, hide_n, ne_eq, not_true_eq_false, not_false_eq_true, Bool.and_self, S_eq, String.reduceEq, Int.reduceLT, Int.reduceLE, Nat.reduceLeDiff, Nat.reduceAdd, Nat.reduceLT, Nat.reduceMul, Int.reduceNeg, Nat.zero_add, Int.reduceAdd, Int.reduceSub, Int.reduceEq, Nat.reduceEqDiff, Int.reduceToNat, ↓reduceIte, items_ref, set_last, pow18, pow12, List.getElem?_append_left, List.getElem?_append_right, List.getElem?_set_self, List.getElem?_set_ne, Nat.sub_self, id_eq, List.map_cons, List.map_nil, Nat.reducePow, big18, bi_len_ref, bi_list_ref, dBi_len, dBi_list, dGet_ref, dLook_ref, dPut_ref, dCmp_in, dCmp_nin, kOf_int, kOf_str, tOf_two, idx_rs, idx_rt, idx_ri, setD_rs, setD_rt, setD_ref, in_ref, isi_ref, dIsi_ref, meT_pop, meT_insert, meT_reverse, meT_clear, meT_strip, meT_startswith, meT_split, meT_partition, meD_insert, meD_pop, meD_reverse, meD_clear, meD_strip, meD_startswith, meD_partition, meD_split, List.length_append, List.length_map, List.length_range, List.length_set, List.length_reverse, cutL_toI, List.length_take]
    repeat refine And.intro (by first | omega | decide | assumption | exact sm_r (by omega) | exact sm_l (by omega)) ?_
    refine gv_sat (g_word 58 sd 3) ?_
    rintro _ ⟨w, hw, rfl⟩
    simp (disch := (first | omega | (simp only [List.length_set, List.length_append, List.length_cons, List.length_nil, List.length_map, List.length_range]; omega))) only [sat_ok, sat_exc, sat_bad, Kx_ap, seq_n, seq_t, seq_x, vs_nil, vs_cons, optS_some, optS_none, optS_ite, optS_ite2, optS_map, sat_opt, orD_some, orD_none, orD_none2, varS_some, v_var, v_cst, KM_f, KM_t, KB2_ap, KB1_ap, v_bin, KNeg_i, v_neg, KC2_ap, KC1_ap, v_cmp, KH1_ap, KH2_ap, KH3_ap, v_chn, KIsN_t, KIsN_f, v_isN, v_notN, KAnd_ap, AndB_t, AndB_f, v_and, KOr_ap, OrB_t, OrB_f, v_or, KNot_ap, v_not, KA2_ap, KA1_ap, va_nil, va_cons, KTup_ap, v_tup, KLst_f, KLst_t, v_lst, KI2_ap, KI1_ap, v_idx, KCall_ap, v_call, KIsi_ap, v_isi, KBi_ap, v_bi, KO_i, vo_no, vo_yes, KS3_ap, KS2_ap, KS1_ap, v_sli, KMe3_ap, KMe2_ap, KMe1_ap, v_me, KLrg_ap, v_lrng, KLv2_t, KLv2_f, KLv_ap, v_lrev, v_dnew, KInC_ap, v_inC, v_isE, v_exf, KItm_ap, vi_any, KRng_ap, vi_rng, KRrg_ap, vi_rrng, KZip_ap, vi_zip, KRev_ap, vi_rev, KCmp_ap, v_comp, AsgS_some, KTr_ap, vc_no, vc_yes, KN_ap, KSet_ap, vs_pass, vs_ret, vs_retN, vs_expr, vs_set, Br_T, Br_F, Bif_some, KIf_ap, vs_ifs, ic_and, ic_or, ic_not, ic_var, ic_cst, ic_cmp, ic_chn, ic_isN, ic_notN, ic_idx, ic_call, ic_isi, ic_bi, ic_me, ic_inC, ic_isE, ic_lrev, KFor_ap, vs_for, KForI_ap, KForA_ref, KForA_tup, KForA_lst, KForA_scr, KForA_str, vs_forA, KSI3_ap, KSI2_ap, KSI1_ap, vs_setI, KUnp_ap, vs_unp, KAug2_t, KAug2_f, AugS_ap, vs_aug, vs_raise, gone_n, gone_n0, gone_t, gone_x, Hdl_ap, try_n, try_t, try_x, vs_try, Bwh_some, BrW_T, BrW_F, KWh_ap, loopG_nil', bin_add, bin_sub, bin_mul, bin_div, bin_mod, bin_muls, add_str, add_tup, add_lst, add_rl, cmp_eq, cmp_ne, cmp_lt, cmp_le, cmp_gt, cmp_ge, cmp_in, cmp_notin, eqD_int, eqD_str, in_str1, in_tup, in_lst, truth_bl, truth_non, truth_int, truth_str, truth_tup, truth_lst, dBi_s, dBi_i, dBi_t, dLook_t, dLook_l, dLook_s, dLook_c, idx_tup, idx_lst, idx_str, idx_scr, bi_len_str, bi_len_tup, bi_len_lst, bi_len_scr, bi_int_int, bi_int_bl, bi_int_str, bi_str_int, bi_list_tup, bi_list_lst, bi_list_scr, bi_tuple_tup, bi_tuple_lst, bi_min2, bi_max2, sli_str, sli_tup, sli_lst, meT_append, meT_join, asL_ref, asL_lst, meD_append, meD_join, rng1, rng2, isi_i, isi_b, isi_s, isi_t, isi_l, isi_n, isCl, List.any_cons, List.any_nil, zip_tup, zip_lst, rev_tup, rev_lst, lrev_tup, lrev_lst, asg_nm, asg_tp2, asg_tp3, items_tup, items_lst, items_scr, items_str, Option.map_some, Option.map_none, Option.bind_some, Option.isSome_some, atL_0, atL_1, atL_2, atL_3, List.getElem?_cons_zero, List.getElem?_cons_succ, List.getElem?_nil, List.set_cons_zero, List.set_cons_succ, List.set_nil, List.length_cons, List.length_nil, List.cons_append, List.nil_append, decide_eq_true_eq, decide_eq_false_iff_not, Bool.not_eq_true', Bool.not_true, Bool.not_false, Bool.false_eq_true, Bool.or_false, Bool.or_true, Bool.true_or, Bool.and_true, Bool.and_false, if_true, wipes_cons, wipes_nil, isNon_non, isNon_bl, isNon_int, isNon_str, isNon_tup, isNon_lst, isNon_ref, Me.fresh, true_and, and_true, slotOk_s, slotOk_n, hide_s, hide_n, ne_eq, not_true_eq_false, not_false_eq_true, Bool.and_self, S_eq, String.reduceEq, Int.reduceLT, Int.reduceLE, Nat.reduceLeDiff, Nat.reduceAdd, Nat.reduceLT, Nat.reduceMul, Int.reduceNeg, Nat.zero_add, Int.reduceAdd, Int.reduceSub, Int.reduceEq, Nat.reduceEqDiff, Int.reduceToNat, ↓reduceIte, items_ref, set_last, pow18, pow12, List.getElem?_append_left, List.getElem?_append_right, List.getElem?_set_self, List.getElem?_set_ne, Nat.sub_self, id_eq, List.map_cons, List.map_nil, Nat.reducePow, big18, bi_len_ref, bi_list_ref, dBi_len, dBi_list, dGet_ref, dLook_ref, dPut_ref, dCmp_in, dCmp_nin, kOf_int, kOf_str, tOf_two, idx_rs, idx_rt, idx_ri, setD_rs, setD_rt, setD_ref, in_ref, isi_ref, dIsi_ref, meT_pop, meT_insert, meT_reverse, meT_clear, meT_strip, meT_startswith, meT_split, meT_partition, meD_insert, meD_pop, meD_reverse, meD_clear, meD_strip, meD_startswith, meD_partition, meD_split, List.length_append, List.length_map, List.length_range, List.length_set, List.length_reverse]
    repeat refine And.intro (by first | omega | decide | assumption | exact sm_r (by omega) | exact sm_l (by omega)) ?_
    obtain ⟨m, hm, em⟩ : ∃ m : Nat, m < 10 ^ 18 ∧ atL [D.int 0, D.int 999999999999999999] (sd % 2) = some (.int m) := by
      rcases (by omega : sd % 2 = 0 ∨ sd % 2 = 1) with q | q
      · exact ⟨0, by decide, by rw [q]; rfl⟩
      · exact ⟨999999999999999999, by decide, by rw [q]; rfl⟩
    have tk : ∀ (t : Tr) (h : AH), t.ok → t.ht ≤ 20 → t.sz ≤ 60 → A 59 i__law_told [t.d] h = .ok (.bl true) h := fun t h a b c => gv_eq (g_told 9 t a b c)
    have t0 := fun h => tk (.nd w m []) h (by simp only [Tr.ok, Tr.oks]; exact ⟨hw, hm, trivial⟩) (by simp [Tr.ht, Tr.hts]) (by simp [Tr.sz, Tr.szs])
    have e0 : Tr.d (.nd w m []) = .tup [.str w, .int m, .tup []] := rfl
    rw [e0] at t0
    simp (disch := (first | omega | (simp only [List.length_set, List.length_append, List.length_cons, List.length_nil, List.length_map, List.length_range]; omega))) only [sat_ok, sat_exc, sat_bad, Kx_ap, seq_n, seq_t, seq_x, vs_nil, vs_cons, optS_some, optS_none, optS_ite, optS_ite2, optS_map, sat_opt, orD_some, orD_none, orD_none2, varS_some, v_var, v_cst, KM_f, KM_t, KB2_ap, KB1_ap, v_bin, KNeg_i, v_neg, KC2_ap, KC1_ap, v_cmp, KH1_ap, KH2_ap, KH3_ap, v_chn, KIsN_t, KIsN_f, v_isN, v_notN, KAnd_ap, AndB_t, AndB_f, v_and, KOr_ap, OrB_t, OrB_f, v_or, KNot_ap, v_not, KA2_ap, KA1_ap, va_nil, va_cons, KTup_ap, v_tup, KLst_f, KLst_t, v_lst, KI2_ap, KI1_ap, v_idx, KCall_ap, v_call, KIsi_ap, v_isi, KBi_ap, v_bi, KO_i, vo_no, vo_yes, KS3_ap, KS2_ap, KS1_ap, v_sli, KMe3_ap, KMe2_ap, KMe1_ap, v_me, KLrg_ap, v_lrng, KLv2_t, KLv2_f, KLv_ap, v_lrev, v_dnew, KInC_ap, v_inC, v_isE, v_exf, KItm_ap, vi_any, KRng_ap, vi_rng, KRrg_ap, vi_rrng, KZip_ap, vi_zip, KRev_ap, vi_rev, KCmp_ap, v_comp, AsgS_some, KTr_ap, vc_no, vc_yes, KN_ap, KSet_ap, vs_pass, vs_ret, vs_retN, vs_expr, vs_set, Br_T, Br_F, Bif_some, KIf_ap, vs_ifs, ic_and, ic_or, ic_not, ic_var, ic_cst, ic_cmp, ic_chn, ic_isN, ic_notN, ic_idx, ic_call, ic_isi, ic_bi, ic_me, ic_inC, ic_isE, ic_lrev, KFor_ap, vs_for, KForI_ap, KForA_ref, KForA_tup, KForA_lst, KForA_scr, KForA_str, vs_forA, KSI3_ap, KSI2_ap, KSI1_ap, vs_setI, KUnp_ap, vs_unp, KAug2_t, KAug2_f, AugS_ap, vs_aug, vs_raise, gone_n, gone_n0, gone_t, gone_x, Hdl_ap, try_n, try_t, try_x, vs_try, Bwh_some, BrW_T, BrW_F, KWh_ap, loopG_nil', bin_add, bin_sub, bin_mul, bin_div, bin_mod, bin_muls, add_str, add_tup, add_lst, add_rl, cmp_eq, cmp_ne, cmp_lt, cmp_le, cmp_gt, cmp_ge, cmp_in, cmp_notin, eqD_int, eqD_str, in_str1, in_tup, in_lst, truth_bl, truth_non, truth_int, truth_str, truth_tup, truth_lst, dBi_s, dBi_i, dBi_t, dLook_t, dLook_l, dLook_s, dLook_c, idx_tup, idx_lst, idx_str, idx_scr, bi_len_str, bi_len_tup, bi_len_lst, bi_len_scr, bi_int_int, bi_int_bl, bi_int_str, bi_str_int, bi_list_tup, bi_list_lst, bi_list_scr, bi_tuple_tup, bi_tuple_lst, bi_min2, bi_max2, sli_str, sli_tup, sli_lst, meT_append, meT_join, asL_ref, asL_lst, meD_append, meD_join, rng1, rng2, isi_i, isi_b, isi_s, isi_t, isi_l, isi_n, isCl, List.any_cons, List.any_nil, zip_tup, zip_lst, rev_tup, rev_lst, lrev_tup, lrev_lst, asg_nm, asg_tp2, asg_tp3, items_tup, items_lst, items_scr, items_str, Option.map_some, Option.map_none, Option.bind_some, Option.isSome_some, atL_0, atL_1, atL_2, atL_3, List.getElem?_cons_zero, List.getElem?_cons_succ, List.getElem?_nil, List.set_cons_zero, List.set_cons_succ, List.set_nil, List.length_cons, List.length_nil, List.cons_append, List.nil_append, decide_eq_true_eq, decide_eq_false_iff_not, Bool.not_eq_true', Bool.not_true, Bool.not_false, Bool.false_eq_true, Bool.or_false, Bool.or_true, Bool.true_or, Bool.and_true, Bool.and_false, if_true, wipes_cons, wipes_nil, isNon_non, isNon_bl, isNon_int, isNon_str, isNon_tup, isNon_lst, isNon_ref, Me.fresh, true_and, and_true, slotOk_s, slotOk_n, hide_s, hide_n, ne_eq, not_true_eq_false, not_false_eq_true, Bool.and_self, S_eq, String.reduceEq, Int.reduceLT, Int.reduceLE, Nat.reduceLeDiff, Nat.reduceAdd, Nat.reduceLT, Nat.reduceMul, Int.reduceNeg, Nat.zero_add, Int.reduceAdd, Int.reduceSub, Int.reduceEq, Nat.reduceEqDiff, Int.reduceToNat, ↓reduceIte, items_ref, set_last, pow18, pow12, List.getElem?_append_left, List.getElem?_append_right, List.getElem?_set_self, List.getElem?_set_ne, Nat.sub_self, id_eq, List.map_cons, List.map_nil, Nat.reducePow, big18, bi_len_ref, bi_list_ref, dBi_len, dBi_list, dGet_ref, dLook_ref, dPut_ref, dCmp_in, dCmp_nin, kOf_int, kOf_str, tOf_two, idx_rs, idx_rt, idx_ri, setD_rs, setD_rt, setD_ref, in_ref, isi_ref, dIsi_ref, meT_pop, meT_insert, meT_reverse, meT_clear, meT_strip, meT_startswith, meT_split, meT_partition, meD_insert, meD_pop, meD_reverse, meD_clear, meD_strip, meD_startswith, meD_partition, meD_split, List.length_append, List.length_map, List.length_range, List.length_set, List.length_reverse, em, t0, List.length_take]
    repeat refine And.intro (by first | omega | decide | assumption | exact sm_r (by omega) | exact sm_l (by omega)) ?_
    have eL : D.tup [D.str nm, D.int mk, D.tup (ks.map Tr.d)] :: (List.take (Int.toNat 4) (ks.map Tr.d) ++ [D.tup [D.str nm, D.int mk, D.tup (ks.map Tr.d).reverse]] ++ [D.tup [D.str nm, D.int mk, D.tup (ks.map Tr.d)]]) = (Tr.nd nm mk ks :: (ks.take 4 ++ [Tr.nd nm mk ks.reverse] ++ [Tr.nd nm mk ks])).map Tr.d := by
      simp only [List.map_cons, List.map_append, List.map_take, eD, eR, List.map_nil]; rfl
    refine loop_sat Tr.d (Tr.nd nm mk ks :: (ks.take 4 ++ [Tr.nd nm mk ks.reverse] ++ [Tr.nd nm mk ks])) (fun pre s h => ∃ H x5, h = H ∧ s = [some (.scr ns), some (.int sd), x, some (.tup [.str nm, .int mk, .tup (ks.map Tr.d)]), some (.ref 1), x5]) ?_ ⟨_, _, rfl, rfl⟩ ?_ ?_
    · exact eL
    · rintro pre t post _ _ e ⟨H, x5, rfl, rfl⟩
      have ht : t ∈ Tr.nd nm mk ks :: (ks.take 4 ++ [Tr.nd nm mk ks.reverse] ++ [Tr.nd nm mk ks]) := by rw [e]; simp
      have : t.ok ∧ t.ht ≤ 20 ∧ t.sz ≤ 60 := by
        simp only [List.mem_cons, List.mem_append, List.not_mem_nil, or_false] at ht
        rcases ht with rfl | (ht | rfl) | rfl
        · exact ⟨ok, hh, hz⟩
        · have h1 := List.mem_of_mem_take ht
          have h2 := Tr.ht_mem h1
          have h3 := Tr.sz_mem h1
          simp only [Tr.ht] at hh
          simp only [Tr.sz] at hz
          exact ⟨kok.2.2 t h1, by omega, by omega⟩
        · exact ⟨hr.1, by rw [hr.2.1]; exact hh, by rw [hr.2.2]; exact hz⟩
        · exact ⟨ok, hh, hz⟩
      have t1 := fun h => tk t h this.1 this.2.1 this.2.2
      simp (disch := (first | omega | (simp only [List.length_set, List.length_append, List.length_cons, List.length_nil, List.length_map, List.length_range]; omega))) only [sat_ok, sat_exc, sat_bad, Kx_ap, seq_n, seq_t, seq_x, vs_nil, vs_cons, optS_some, optS_none, optS_ite, optS_ite2, optS_map, sat_opt, orD_some, orD_none, orD_none2, varS_some, v_var, v_cst, KM_f, KM_t, KB2_ap, KB1_ap, v_bin, KNeg_i, v_neg, KC2_ap, KC1_ap, v_cmp, KH1_ap, KH2_ap, KH3_ap, v_chn, KIsN_t, KIsN_f, v_isN, v_notN, KAnd_ap, AndB_t, AndB_f, v_and, KOr_ap, OrB_t, OrB_f, v_or, KNot_ap, v_not, KA2_ap, KA1_ap, va_nil, va_cons, KTup_ap, v_tup, KLst_f, KLst_t, v_lst, KI2_ap, KI1_ap, v_idx, KCall_ap, v_call, KIsi_ap, v_isi, KBi_ap, v_bi, KO_i, vo_no, vo_yes, KS3_ap, KS2_ap, KS1_ap, v_sli, KMe3_ap, KMe2_ap, KMe1_ap, v_me, KLrg_ap, v_lrng, KLv2_t, KLv2_f, KLv_ap, v_lrev, v_dnew, KInC_ap, v_inC, v_isE, v_exf, KItm_ap, vi_any, KRng_ap, vi_rng, KRrg_ap, vi_rrng, KZip_ap, vi_zip, KRev_ap, vi_rev, KCmp_ap, v_comp, AsgS_some, KTr_ap, vc_no, vc_yes, KN_ap, KSet_ap, vs_pass, vs_ret, vs_retN, vs_expr, vs_set, Br_T, Br_F, Bif_some, KIf_ap, vs_ifs, ic_and, ic_or, ic_not, ic_var, ic_cst, ic_cmp, ic_chn, ic_isN, ic_notN, ic_idx, ic_call, ic_isi, ic_bi, ic_me, ic_inC, ic_isE, ic_lrev, KFor_ap, vs_for, KForI_ap, KForA_ref, KForA_tup, KForA_lst, KForA_scr, KForA_str, vs_forA, KSI3_ap, KSI2_ap, KSI1_ap, vs_setI, KUnp_ap, vs_unp, KAug2_t, KAug2_f, AugS_ap, vs_aug, vs_raise, gone_n, gone_n0, gone_t, gone_x, Hdl_ap, try_n, try_t, try_x, vs_try, Bwh_some, BrW_T, BrW_F, KWh_ap, loopG_nil', bin_add, bin_sub, bin_mul, bin_div, bin_mod, bin_muls, add_str, add_tup, add_lst, add_rl, cmp_eq, cmp_ne, cmp_lt, cmp_le, cmp_gt, cmp_ge, cmp_in, cmp_notin, eqD_int, eqD_str, in_str1, in_tup, in_lst, truth_bl, truth_non, truth_int, truth_str, truth_tup, truth_lst, dBi_s, dBi_i, dBi_t, dLook_t, dLook_l, dLook_s, dLook_c, idx_tup, idx_lst, idx_str, idx_scr, bi_len_str, bi_len_tup, bi_len_lst, bi_len_scr, bi_int_int, bi_int_bl, bi_int_str, bi_str_int, bi_list_tup, bi_list_lst, bi_list_scr, bi_tuple_tup, bi_tuple_lst, bi_min2, bi_max2, sli_str, sli_tup, sli_lst, meT_append, meT_join, asL_ref, asL_lst, meD_append, meD_join, rng1, rng2, isi_i, isi_b, isi_s, isi_t, isi_l, isi_n, isCl, List.any_cons, List.any_nil, zip_tup, zip_lst, rev_tup, rev_lst, lrev_tup, lrev_lst, asg_nm, asg_tp2, asg_tp3, items_tup, items_lst, items_scr, items_str, Option.map_some, Option.map_none, Option.bind_some, Option.isSome_some, atL_0, atL_1, atL_2, atL_3, List.getElem?_cons_zero, List.getElem?_cons_succ, List.getElem?_nil, List.set_cons_zero, List.set_cons_succ, List.set_nil, List.length_cons, List.length_nil, List.cons_append, List.nil_append, decide_eq_true_eq, decide_eq_false_iff_not, Bool.not_eq_true', Bool.not_true, Bool.not_false, Bool.false_eq_true, Bool.or_false, Bool.or_true, Bool.true_or, Bool.and_true, Bool.and_false, if_true, wipes_cons, wipes_nil, isNon_non, isNon_bl, isNon_int, isNon_str, isNon_tup, isNon_lst, isNon_ref, Me.fresh, true_and, and_true, slotOk_s, slotOk_n, hide_s, hide_n, ne_eq, not_true_eq_false, not_false_eq_true, Bool.and_self, S_eq, String.reduceEq, Int.reduceLT, Int.reduceLE, Nat.reduceLeDiff, Nat.reduceAdd, Nat.reduceLT, Nat.reduceMul, Int.reduceNeg, Nat.zero_add, Int.reduceAdd, Int.reduceSub, Int.reduceEq, Nat.reduceEqDiff, Int.reduceToNat, ↓reduceIte, items_ref, set_last, pow18, pow12, List.getElem?_append_left, List.getElem?_append_right, List.getElem?_set_self, List.getElem?_set_ne, Nat.sub_self, id_eq, List.map_cons, List.map_nil, Nat.reducePow, big18, bi_len_ref, bi_list_ref, dBi_len, dBi_list, dGet_ref, dLook_ref, dPut_ref, dCmp_in, dCmp_nin, kOf_int, kOf_str, tOf_two, idx_rs, idx_rt, idx_ri, setD_rs, setD_rt, setD_ref, in_ref, isi_ref, dIsi_ref, meT_pop, meT_insert, meT_reverse, meT_clear, meT_strip, meT_startswith, meT_split, meT_partition, meD_insert, meD_pop, meD_reverse, meD_clear, meD_strip, meD_startswith, meD_partition, meD_split, List.length_append, List.length_map, List.length_range, List.length_set, List.length_reverse, t1]
      exact ⟨_, _, rfl, rfl⟩
    · rintro _ _ ⟨H, x5, rfl, rfl⟩
      simp (disch := (first | omega | (simp only [List.length_set, List.length_append, List.length_cons, List.length_nil, List.length_map, List.length_range]; omega))) only [sat_ok, sat_exc, sat_bad, Kx_ap, seq_n, seq_t, seq_x, vs_nil, vs_cons, optS_some, optS_none, optS_ite, optS_ite2, optS_map, sat_opt, orD_some, orD_none, orD_none2, varS_some, v_var, v_cst, KM_f, KM_t, KB2_ap, KB1_ap, v_bin, KNeg_i, v_neg, KC2_ap, KC1_ap, v_cmp, KH1_ap, KH2_ap, KH3_ap, v_chn, KIsN_t, KIsN_f, v_isN, v_notN, KAnd_ap, AndB_t, AndB_f, v_and, KOr_ap, OrB_t, OrB_f, v_or, KNot_ap, v_not, KA2_ap, KA1_ap, va_nil, va_cons, KTup_ap, v_tup, KLst_f, KLst_t, v_lst, KI2_ap, KI1_ap, v_idx, KCall_ap, v_call, KIsi_ap, v_isi, KBi_ap, v_bi, KO_i, vo_no, vo_yes, KS3_ap, KS2_ap, KS1_ap, v_sli, KMe3_ap, KMe2_ap, KMe1_ap, v_me, KLrg_ap, v_lrng, KLv2_t, KLv2_f, KLv_ap, v_lrev, v_dnew, KInC_ap, v_inC, v_isE, v_exf, KItm_ap, vi_any, KRng_ap, vi_rng, KRrg_ap, vi_rrng, KZip_ap, vi_zip, KRev_ap, vi_rev, KCmp_ap, v_comp, AsgS_some, KTr_ap, vc_no, vc_yes, KN_ap, KSet_ap, vs_pass, vs_ret, vs_retN, vs_expr, vs_set, Br_T, Br_F, Bif_some, KIf_ap, vs_ifs, ic_and, ic_or, ic_not, ic_var, ic_cst, ic_cmp, ic_chn, ic_isN, ic_notN, ic_idx, ic_call, ic_isi, ic_bi, ic_me, ic_inC, ic_isE, ic_lrev, KFor_ap, vs_for, KForI_ap, KForA_ref, KForA_tup, KForA_lst, KForA_scr, KForA_str, vs_forA, KSI3_ap, KSI2_ap, KSI1_ap, vs_setI, KUnp_ap, vs_unp, KAug2_t, KAug2_f, AugS_ap, vs_aug, vs_raise, gone_n, gone_n0, gone_t, gone_x, Hdl_ap, try_n, try_t, try_x, vs_try, Bwh_some, BrW_T, BrW_F, KWh_ap, loopG_nil', bin_add, bin_sub, bin_mul, bin_div, bin_mod, bin_muls, add_str, add_tup, add_lst, add_rl, cmp_eq, cmp_ne, cmp_lt, cmp_le, cmp_gt, cmp_ge, cmp_in, cmp_notin, eqD_int, eqD_str, in_str1, in_tup, in_lst, truth_bl, truth_non, truth_int, truth_str, truth_tup, truth_lst, dBi_s, dBi_i, dBi_t, dLook_t, dLook_l, dLook_s, dLook_c, idx_tup, idx_lst, idx_str, idx_scr, bi_len_str, bi_len_tup, bi_len_lst, bi_len_scr, bi_int_int, bi_int_bl, bi_int_str, bi_str_int, bi_list_tup, bi_list_lst, bi_list_scr, bi_tuple_tup, bi_tuple_lst, bi_min2, bi_max2, sli_str, sli_tup, sli_lst, meT_append, meT_join, asL_ref, asL_lst, meD_append, meD_join, rng1, rng2, isi_i, isi_b, isi_s, isi_t, isi_l, isi_n, isCl, List.any_cons, List.any_nil, zip_tup, zip_lst, rev_tup, rev_lst, lrev_tup, lrev_lst, asg_nm, asg_tp2, asg_tp3, items_tup, items_lst, items_scr, items_str, Option.map_some, Option.map_none, Option.bind_some, Option.isSome_some, atL_0, atL_1, atL_2, atL_3, List.getElem?_cons_zero, List.getElem?_cons_succ, List.getElem?_nil, List.set_cons_zero, List.set_cons_succ, List.set_nil, List.length_cons, List.length_nil, List.cons_append, List.nil_append, decide_eq_true_eq, decide_eq_false_iff_not, Bool.not_eq_true', Bool.not_true, Bool.not_false, Bool.false_eq_true, Bool.or_false, Bool.or_true, Bool.true_or, Bool.and_true, Bool.and_false, if_true, wipes_cons, wipes_nil, isNon_non, isNon_bl, isNon_int, isNon_str, isNon_tup, isNon_lst, isNon_ref, Me.fresh, true_and, and_true, slotOk_s, slotOk_n, hide_s, hide_n, ne_eq, not_true_eq_false, not_false_eq_true, Bool.and_self, S_eq, String.reduceEq, Int.reduceLT, Int.reduceLE, Nat.reduceLeDiff, Nat.reduceAdd, Nat.reduceLT, Nat.reduceMul, Int.reduceNeg, Nat.zero_add, Int.reduceAdd, Int.reduceSub, Int.reduceEq, Nat.reduceEqDiff, Int.reduceToNat, ↓reduceIte, items_ref, set_last, pow18, pow12, List.getElem?_append_left, List.getElem?_append_right, List.getElem?_set_self, List.getElem?_set_ne, Nat.sub_self, id_eq, List.map_cons, List.map_nil, Nat.reducePow, big18, bi_len_ref, bi_list_ref, dBi_len, dBi_list, dGet_ref, dLook_ref, dPut_ref, dCmp_in, dCmp_nin, kOf_int, kOf_str, tOf_two, idx_rs, idx_rt, idx_ri, setD_rs, setD_rt, setD_ref, in_ref, isi_ref, dIsi_ref, meT_pop, meT_insert, meT_reverse, meT_clear, meT_strip, meT_startswith, meT_split, meT_partition, meD_insert, meD_pop, meD_reverse, meD_clear, meD_strip, meD_startswith, meD_partition, meD_split, List.length_append, List.length_map, List.length_range, List.length_set, List.length_reverse]
end DI
set_option Elab.async false
set_option linter.all false
set_option maxRecDepth 100000
theorem DI.prog_eq : DI.thePT.prog = DI.prog := by kernel_rfl
theorem DI.sc_ok : DI.theFns.all DI.scopeOk = true := by decide +kernel
open PySem PySem.W PyProof.Rows
set_option maxRecDepth 100000 in
set_option maxHeartbeats 0 in
theorem PySem.Challenge.cw_leafsay_k23_trees_written_holds : PySem.Challenge.rw_leafsay_k23_trees_written.Holds := by
  w_on; o_law; k_head; (case hw => w_witness2)
  k_fill
  refine DI.law_walk (l := PySem.Challenge.rw_leafsay_k23_trees_written) DI.thePT 13 DI.t_law 60 rfl rfl ⟨rfl, by decide, by decide⟩ rfl rfl rfl (fun w h Y => PySem.W.kIn_of Y) ?F ?B ?L
  case L => intro ns hns; rw [DI.prog_eq]; exact DI.law_true ns hns
  case B => exact fun K f fd F => DI.binds_law (fun _ _ _ _ _ _ _ => rfl) f fd F
  case F =>
    intro w mg h KX G
    refine' DI.pw_mk (DI.AllP.cons ?w0 (DI.AllP.cons ?w1 (DI.AllP.cons ?w2 (DI.AllP.cons ?w3 (DI.AllP.cons ?w4 (DI.AllP.cons ?w5 (DI.AllP.cons ?w6 (DI.AllP.cons ?w7 (DI.AllP.cons ?w8 (DI.AllP.cons ?w9 (DI.AllP.cons ?w10 (DI.AllP.cons ?w11 (DI.AllP.cons ?w12 (DI.AllP.cons ?w13 DI.AllP.nil)))))))))))))) DI.sc_ok (DI.AllP.cons ?c0 (DI.AllP.cons ?c1 (DI.AllP.cons ?c2 (DI.AllP.cons ?c3 DI.AllP.nil)))) (DI.AllP.cons ?b0 (DI.AllP.cons ?b1 (DI.AllP.cons ?b2 (DI.AllP.cons ?b3 (DI.AllP.cons ?b4 (DI.AllP.cons ?b5 (DI.AllP.cons ?b6 (DI.AllP.cons ?b7 (DI.AllP.cons ?b8 (DI.AllP.cons ?b9 (DI.AllP.cons ?b10 (DI.AllP.cons ?b11 (DI.AllP.cons ?b12 (DI.AllP.cons ?b13 (DI.AllP.cons ?b14 (DI.AllP.cons ?b15 (DI.AllP.cons ?b16 (DI.AllP.cons ?b17 (DI.AllP.cons ?b18 (DI.AllP.cons ?b19 DI.AllP.nil)))))))))))))))))))) (DI.clss_mk (Cs := [_, _, _]) KX G (DI.ClsFs.cons ?k0 (DI.ClsFs.cons ?k1 (DI.ClsFs.cons ?k2 DI.ClsFs.nil))) (DI.SubAll.cons ((DI.SubRow.cons true rfl ?s0_0 (.inl rfl) (DI.SubRow.cons false rfl ?s0_1 (.inr ?d0_1) (DI.SubRow.cons false rfl ?s0_2 (.inr ?d0_2) DI.SubRow.nil)))) (DI.SubAll.cons ((DI.SubRow.cons true rfl ?s1_0 (.inl rfl) (DI.SubRow.cons true rfl ?s1_1 (.inl rfl) (DI.SubRow.cons false rfl ?s1_2 (.inr ?d1_2) DI.SubRow.nil)))) (DI.SubAll.cons ((DI.SubRow.cons true rfl ?s2_0 (.inl rfl) (DI.SubRow.cons false rfl ?s2_1 (.inr ?d2_1) (DI.SubRow.cons true rfl ?s2_2 (.inl rfl) DI.SubRow.nil)))) DI.SubAll.nil)))) DI.AllP.nil
    (case k0 =>
      refine' ⟨?ns, ?exc, ?kp, ?sb, ?ve, ?ty, ?hg, ?hk, ?hd, ?ha, ?hn, ?ht, ?hm, ?nr⟩
      (case ns => k_is); (case exc => refine' fun _ => ?e; (case e => k_exc)); (case kp => k_is); (case sb => k_is); (case ve => k_is); (case ty => k_is); (case hg => k_is); (case hk => k_is); (case hd => k_is); (case ha => k_is); (case hn => k_is); (case ht => k_is); (case hm => k_is); (case nr => k_is))
    (case k1 =>
      refine' ⟨?ns, ?exc, ?kp, ?sb, ?ve, ?ty, ?hg, ?hk, ?hd, ?ha, ?hn, ?ht, ?hm, ?nr⟩
      (case ns => k_is); (case exc => refine' fun _ => ?e; (case e => k_exc)); (case kp => k_is); (case sb => k_is); (case ve => k_is); (case ty => k_is); (case hg => k_is); (case hk => k_is); (case hd => k_is); (case ha => k_is); (case hn => k_is); (case ht => k_is); (case hm => k_is); (case nr => k_is))
    (case k2 =>
      refine' ⟨?ns, ?exc, ?kp, ?sb, ?ve, ?ty, ?hg, ?hk, ?hd, ?ha, ?hn, ?ht, ?hm, ?nr⟩
      (case ns => k_is); (case exc => refine' fun _ => ?e; (case e => k_exc)); (case kp => k_is); (case sb => k_is); (case ve => k_is); (case ty => k_is); (case hg => k_is); (case hk => k_is); (case hd => k_is); (case ha => k_is); (case hn => k_is); (case ht => k_is); (case hm => k_is); (case nr => k_is))
    (case s0_0 => k_is)
    (case s0_1 => k_is)
    (case d0_1 => decide)
    (case s0_2 => k_is)
    (case d0_2 => decide)
    (case s1_0 => k_is)
    (case s1_1 => k_is)
    (case s1_2 => k_is)
    (case d1_2 => decide)
    (case s2_0 => k_is)
    (case s2_1 => k_is)
    (case d2_1 => decide)
    (case s2_2 => k_is)
    (case w0 =>
      refine' DI.fnw_mk (n := Str.ofString "is_name") (st := DI.topS 7) KX G ?a ?l ?c ?k ?b
      (case a => k_is); (case l => k_is); (case c => k_is); (case k => k_is)
      (case b => exact fun _ _ _ _ _ _ us hl => match us, hl with | [_], _ => rfl))
    (case w1 =>
      refine' DI.fnw_mk (n := Str.ofString "number_of") (st := DI.topS 8) KX G ?a ?l ?c ?k ?b
      (case a => k_is); (case l => k_is); (case c => k_is); (case k => k_is)
      (case b => exact fun _ _ _ _ _ _ us hl => match us, hl with | [_], _ => rfl))
    (case w2 =>
      refine' DI.fnw_mk (n := Str.ofString "word_end") (st := DI.topS 9) KX G ?a ?l ?c ?k ?b
      (case a => k_is); (case l => k_is); (case c => k_is); (case k => k_is)
      (case b => exact fun _ _ _ _ _ _ us hl => match us, hl with | [_, _], _ => rfl))
    (case w3 =>
      refine' DI.fnw_mk (n := Str.ofString "show_tree") (st := DI.topS 13) KX G ?a ?l ?c ?k ?b
      (case a => k_is); (case l => k_is); (case c => k_is); (case k => k_is)
      (case b => exact fun _ _ _ _ _ _ us hl => match us, hl with | [_], _ => rfl))
    (case w4 =>
      refine' DI.fnw_mk (n := Str.ofString "read_mark") (st := DI.topS 14) KX G ?a ?l ?c ?k ?b
      (case a => k_is); (case l => k_is); (case c => k_is); (case k => k_is)
      (case b => exact fun _ _ _ _ _ _ us hl => match us, hl with | [_, _], _ => rfl))
    (case w5 =>
      refine' DI.fnw_mk (n := Str.ofString "read_node") (st := DI.topS 15) KX G ?a ?l ?c ?k ?b
      (case a => k_is); (case l => k_is); (case c => k_is); (case k => k_is)
      (case b => exact fun _ _ _ _ _ _ us hl => match us, hl with | [_, _, _, _], _ => rfl))
    (case w6 =>
      refine' DI.fnw_mk (n := Str.ofString "read_tree") (st := DI.topS 16) KX G ?a ?l ?c ?k ?b
      (case a => k_is); (case l => k_is); (case c => k_is); (case k => k_is)
      (case b => exact fun _ _ _ _ _ _ us hl => match us, hl with | [_], _ => rfl))
    (case w7 =>
      refine' DI.fnw_mk (n := Str.ofString "_law_word") (st := DI.topS 18) KX G ?a ?l ?c ?k ?b
      (case a => k_is); (case l => k_is); (case c => k_is); (case k => k_is)
      (case b => exact fun _ _ _ _ _ _ us hl => match us, hl with | [_, _], _ => rfl))
    (case w8 =>
      refine' DI.fnw_mk (n := Str.ofString "_law_whole") (st := DI.topS 19) KX G ?a ?l ?c ?k ?b
      (case a => k_is); (case l => k_is); (case c => k_is); (case k => k_is)
      (case b => exact fun _ _ _ _ _ _ us hl => match us, hl with | [_], _ => rfl))
    (case w9 =>
      refine' DI.fnw_mk (n := Str.ofString "_law_same") (st := DI.topS 20) KX G ?a ?l ?c ?k ?b
      (case a => k_is); (case l => k_is); (case c => k_is); (case k => k_is)
      (case b => exact fun _ _ _ _ _ _ us hl => match us, hl with | [_, _], _ => rfl))
    (case w10 =>
      refine' DI.fnw_mk (n := Str.ofString "_law_built") (st := DI.topS 21) KX G ?a ?l ?c ?k ?b
      (case a => k_is); (case l => k_is); (case c => k_is); (case k => k_is)
      (case b => exact fun _ _ _ _ _ _ us hl => match us, hl with | [_, _, _], _ => rfl))
    (case w11 =>
      refine' DI.fnw_mk (n := Str.ofString "_law_written") (st := DI.topS 22) KX G ?a ?l ?c ?k ?b
      (case a => k_is); (case l => k_is); (case c => k_is); (case k => k_is)
      (case b => exact fun _ _ _ _ _ _ us hl => match us, hl with | [_], _ => rfl))
    (case w12 =>
      refine' DI.fnw_mk (n := Str.ofString "_law_told") (st := DI.topS 23) KX G ?a ?l ?c ?k ?b
      (case a => k_is); (case l => k_is); (case c => k_is); (case k => k_is)
      (case b => exact fun _ _ _ _ _ _ us hl => match us, hl with | [_], _ => rfl))
    (case w13 =>
      refine' DI.fnw_mk (n := Str.ofString "law") (st := DI.topS 24) KX G ?a ?l ?c ?k ?b
      (case a => k_is); (case l => k_is); (case c => k_is); (case k => k_is)
      (case b => exact fun _ _ _ _ _ _ us hl => match us, hl with | [_], _ => rfl))
    (case c0 =>
      refine' DI.cst_str KX G ?a ?o ?s
      (case a => k_is)
      (case o => decide +kernel)
      (case s => decide +kernel))
    (case c1 =>
      refine' DI.cst_str KX G ?a ?o ?s
      (case a => k_is)
      (case o => decide +kernel)
      (case s => decide +kernel))
    (case c2 =>
      refine' DI.cst_int KX G ?a
      (case a => k_is))
    (case c3 =>
      refine' DI.cst_int KX G ?a
      (case a => k_is))
    (case b0 =>
      refine' PySem.W.mg_none_of (n := Str.ofString "len") KX G ?a
      (case a => k_is))
    (case b1 =>
      refine' PySem.W.mg_none_of (n := Str.ofString "int") KX G ?a
      (case a => k_is))
    (case b2 =>
      refine' PySem.W.mg_none_of (n := Str.ofString "isinstance") KX G ?a
      (case a => k_is))
    (case b3 =>
      refine' PySem.W.mg_none_of (n := Str.ofString "bool") KX G ?a
      (case a => k_is))
    (case b4 =>
      refine' PySem.W.mg_none_of (n := Str.ofString "str") KX G ?a
      (case a => k_is))
    (case b5 =>
      refine' PySem.W.mg_none_of (n := Str.ofString "tuple") KX G ?a
      (case a => k_is))
    (case b6 =>
      refine' PySem.W.mg_none_of (n := Str.ofString "list") KX G ?a
      (case a => k_is))
    (case b7 =>
      refine' PySem.W.mg_none_of (n := Str.ofString "dict") KX G ?a
      (case a => k_is))
    (case b8 =>
      refine' PySem.W.mg_none_of (n := Str.ofString "range") KX G ?a
      (case a => k_is))
    (case b9 =>
      refine' PySem.W.mg_none_of (n := Str.ofString "sum") KX G ?a
      (case a => k_is))
    (case b10 =>
      refine' PySem.W.mg_none_of (n := Str.ofString "max") KX G ?a
      (case a => k_is))
    (case b11 =>
      refine' PySem.W.mg_none_of (n := Str.ofString "min") KX G ?a
      (case a => k_is))
    (case b12 =>
      refine' PySem.W.mg_none_of (n := Str.ofString "sorted") KX G ?a
      (case a => k_is))
    (case b13 =>
      refine' PySem.W.mg_none_of (n := Str.ofString "reversed") KX G ?a
      (case a => k_is))
    (case b14 =>
      refine' PySem.W.mg_none_of (n := Str.ofString "zip") KX G ?a
      (case a => k_is))
    (case b15 =>
      refine' PySem.W.mg_none_of (n := Str.ofString "enumerate") KX G ?a
      (case a => k_is))
    (case b16 =>
      refine' PySem.W.mg_none_of (n := Str.ofString "set") KX G ?a
      (case a => k_is))
    (case b17 =>
      refine' PySem.W.mg_none_of (n := Str.ofString "abs") KX G ?a
      (case a => k_is))
    (case b18 =>
      refine' PySem.W.mg_none_of (n := Str.ofString "all") KX G ?a
      (case a => k_is))
    (case b19 =>
      refine' PySem.W.mg_none_of (n := Str.ofString "ValueError") KX G ?a
      (case a => k_is))
