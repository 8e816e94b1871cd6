import PyProof.Rows.All
import Wide.All
import OpenK.AllK
import Wide.FinOn
import HandS.ForMost
import HandS.Wide
import HandS.IsInst
import HandS.Flow
import HandS.TupAny
import HandS.TupMul
import HandS.Deep
import HandS.Exc
import HandS.ExcOwn
import HandS.CallSlots
import HandS.TryOnly
import HandS.WordsExc
import PySem.Challenge.RW_leafsay_k01_numbers_go_round
set_option Elab.async false
set_option linter.all false
set_option maxRecDepth 100000
namespace DI
open PySem PySem.Spec PyProof.Rows L2

/-! ## 1. plain values, the plain heap, results -/
inductive D where
  | non | bl (b : Bool) | int (i : Int) | str (x : List Nat)
  | tup (xs : List D) | lst (xs : List D) | scr (ns : List Int)
  | ref (n : Nat)
  deriving Inhabited

/-- an object of the plain heap -/
inductive Ob where
  | lst (ds : List D)
  | ins (c : Nat) (fs : List (List Nat × D))
  | dead
abbrev AH := List Ob
/-- an exception: its class (by number), its payload -/
structure EV where
  cls : Nat
  pay : Option D := none

inductive R (α : Type) where
  | ok (x : α) (h : AH)
  | exc (e : EV) (h : AH)
  | bad
def R.bind {α β : Type} (r : R α) (f : α → AH → R β) : R β := match r with
  | .ok x h => f x h
  | .exc e h => .exc e h
  | .bad => .bad
@[simp] theorem R.bind_ok {α β : Type} (x : α) (h : AH) (f : α → AH → R β) : (R.ok x h).bind f = f x h := rfl
@[simp] theorem R.bind_exc {α β : Type} (e : EV) (h : AH) (f : α → AH → R β) : (R.exc e h : R α).bind f = .exc e h := rfl
@[simp] theorem R.bind_bad {α β : Type} (f : α → AH → R β) : (R.bad : R α).bind f = .bad := rfl
def R.opt {α : Type} (o : Option α) (h : AH) : R α := match o with
  | some x => .ok x h
  | none => .bad
@[simp] theorem R.opt_some {α : Type} (x : α) (h : AH) : R.opt (some x) h = .ok x h := rfl
@[simp] theorem R.opt_none {α : Type} (h : AH) : R.opt (none : Option α) h = .bad := rfl

/-! ## 2. how plain things lie in the layer's heap -/
structure Cf where
  M : Addr → Prop
  r : List Addr
  H : Hp

def mkS (x : List Nat) : Str := ⟨x.toArray⟩
def TupAt (K : PySem.W.Frag) (c : Cf) (a : Addr) (xs : List V) : Prop :=
  (¬ c.M a ∧ c.H a = some (.tup xs)) ∨
    ∃ (o : Obj) (its : Array Value) (n : Nat), K.lookup a = some o ∧ o.cls = .type "tuple" ∧ o.data = .seq its n ∧ its.size ≤ sizeLine ∧ Vals xs its.toList
def ScrAt (K : PySem.W.Frag) (c : Cf) (a : Addr) (xs : List V) : Prop :=
  (¬ c.M a ∧ ∃ o, c.H a = some (.frz o (.lst xs))) ∨
    ∃ (o : Obj) (its : Array Value) (n : Nat), K.lookup a = some o ∧ o.cls = .type "list" ∧ o.dict = none ∧ o.data = .seq its n ∧ its.size ≤ sizeLine ∧ Vals xs its.toList
theorem TupAt.sq {K : PySem.W.Frag} {c : Cf} {a : Addr} {xs : List V} (h : TupAt K c a xs) : SqT K c.H a xs := by
  rcases h with ⟨_, h⟩ | h
  · exact .of h
  · exact .inr h
theorem ScrAt.sq {K : PySem.W.Frag} {c : Cf} {a : Addr} {xs : List V} (h : ScrAt K c a xs) : SqL K c.H a xs := by
  rcases h with ⟨_, o, h⟩ | h
  · exact .inl (.inr ⟨o, h⟩)
  · exact .inr h

mutual
def Rep (K : PySem.W.Frag) (c : Cf) : D → V → Prop
  | .non, v => v = .non
  | .bl b, v => v = .bl b
  | .int i, v => v = .int i
  | .str x, v => PySem.PyData.strOk (mkS x) = true ∧ x.length ≤ sizeLine ∧ v = .str (mkS x)
  | .tup ds, v => ∃ a xs, v = .ref a ∧ TupAt K c a xs ∧ Reps K c ds xs
  | .lst ds, v => ∃ a xs, v = .ref a ∧ ¬ c.M a ∧ c.H a = some (.lst xs) ∧ Reps K c ds xs
  | .scr ns, v => ∃ a, v = .ref a ∧ ScrAt K c a (ns.map V.int)
  | .ref n, v => ∃ a, v = .ref a ∧ c.r[n]? = some a
def Reps (K : PySem.W.Frag) (c : Cf) : List D → List V → Prop
  | [], xs => xs = []
  | d :: ds, xs => ∃ x r, xs = x :: r ∧ Rep K c d x ∧ Reps K c ds r
end

structure Step (c c' : Cf) : Prop where
  pre : ∀ (n : Nat) a, c.r[n]? = some a → c'.r[n]? = some a
  mono : ∀ a, c.M a → c'.M a
  fresh : ∀ a, c'.M a → c.M a ∨ c.H a = none
  newr : ∀ (n : Nat) a, c'.r[n]? = some a → c.r.length ≤ n → c.H a = none
  keep : ∀ a o, c.H a = some o → a ∉ c.r → c'.H a = some o
  dom : ∀ a, c.H a ≠ none → c'.H a ≠ none

theorem Step.refl (c : Cf) : Step c c :=
  ⟨fun _ _ h => h, fun _ h => h, fun _ h => .inl h, fun n a h l => (by
    have := (List.getElem?_eq_some_iff.mp h).1
    omega), fun _ _ h _ => h, fun _ h => h⟩
theorem Step.mem {c c' : Cf} (s : Step c c') {a : Addr} (h : a ∈ c'.r) (hs : c.H a ≠ none) : a ∈ c.r := by
  obtain ⟨n, hn, e⟩ := List.mem_iff_getElem.mp h
  have e' : c'.r[n]? = some a := by rw [List.getElem?_eq_getElem hn, e]
  by_cases hl : c.r.length ≤ n
  · exact absurd (s.newr n a e' hl) hs
  · have hl' : n < c.r.length := by omega
    have q := s.pre n c.r[n] (List.getElem?_eq_getElem hl')
    rw [e'] at q
    cases q
    exact List.getElem_mem hl'
theorem Step.trans {c c1 c2 : Cf} (s : Step c c1) (t : Step c1 c2) : Step c c2 where
  pre := fun n a h => t.pre n a (s.pre n a h)
  mono := fun a h => t.mono a (s.mono a h)
  fresh := fun a h => by
    rcases t.fresh a h with h | h
    · exact s.fresh a h
    · by_cases q : c.H a = none
      · exact .inr q
      · exact absurd h (s.dom a q)
  newr := fun n a h l => by
    by_cases l1 : c1.r.length ≤ n
    · have h1 := t.newr n a h l1
      by_cases q : c.H a = none
      · exact q
      · exact absurd h1 (s.dom a q)
    · have l1' : n < c1.r.length := by omega
      have q := t.pre n c1.r[n] (List.getElem?_eq_getElem l1')
      rw [h] at q
      cases q
      exact s.newr n _ (List.getElem?_eq_getElem l1') l
  keep := fun a o h n => t.keep a o (s.keep a o h n) fun m => n (s.mem m (by rw [h]; simp))
  dom := fun a h => t.dom a (s.dom a h)

/-- where classes of the text's own stand: by number -/
abbrev CA := Nat → Option Addr
def RepFs (K : PySem.W.Frag) (c : Cf) (fs : List (List Nat × D)) (gs : List (Str × V)) : Prop :=
  Paired (fun (p : List Nat × D) (q : Str × V) => q.1 = mkS p.1 ∧ Rep K c p.2 q.2) fs gs
def RepO (K : PySem.W.Frag) (ca : CA) (c : Cf) (o : Ob) (a : Addr) : Prop := match o with
  | .lst ds => ∃ xs, c.H a = some (.lst xs) ∧ Reps K c ds xs
  | .ins n fs => ∃ C dx gs, ca n = some C ∧ c.H a = some (.ins C dx gs) ∧ RepFs K c fs gs
  | .dead => True

structure SR (K : PySem.W.Frag) (ca : CA) (c : Cf) (hp : AH) : Prop where
  len : c.r.length = hp.length
  nd : c.r.Nodup
  inM : ∀ a ∈ c.r, c.M a
  alloc : ∀ a, c.M a → c.H a ≠ none
  objs : ∀ (i : Nat) a o, c.r[i]? = some a → hp[i]? = some o → RepO K ca c o a

section
variable {K : PySem.W.Frag} {ca : CA} {c c' : Cf} {hp : AH}
theorem TupAt.step {a : Addr} {xs : List V} (inM : ∀ a ∈ c.r, c.M a) (s : Step c c') (h : TupAt K c a xs) : TupAt K c' a xs := by
  rcases h with ⟨n, h⟩ | h
  · refine .inl ⟨fun m => ?_, s.keep a _ h fun m => n (inM a m)⟩
    rcases s.fresh a m with q | q
    · exact n q
    · rw [h] at q; cases q
  · exact .inr h
theorem ScrAt.step {a : Addr} {xs : List V} (inM : ∀ a ∈ c.r, c.M a) (s : Step c c') (h : ScrAt K c a xs) : ScrAt K c' a xs := by
  rcases h with ⟨n, o, h⟩ | h
  · refine .inl ⟨fun m => ?_, o, s.keep a _ h fun m => n (inM a m)⟩
    rcases s.fresh a m with q | q
    · exact n q
    · rw [h] at q; cases q
  · exact .inr h
mutual
theorem Rep.step (inM : ∀ a ∈ c.r, c.M a) (s : Step c c') : ∀ (d : D) (v : V), Rep K c d v → Rep K c' d v
  | .non, _, h => h
  | .bl _, _, h => h
  | .int _, _, h => h
  | .str _, _, h => h
  | .tup ds, v, h => by
    simp only [Rep] at h ⊢
    obtain ⟨a, xs, e, t, q⟩ := h
    exact ⟨a, xs, e, t.step inM s, Reps.step inM s ds xs q⟩
  | .lst ds, v, h => by
    simp only [Rep] at h ⊢
    obtain ⟨a, xs, e, n, t, q⟩ := h
    refine ⟨a, xs, e, fun m => ?_, s.keep a _ t fun m => n (inM a m), Reps.step inM s ds xs q⟩
    rcases s.fresh a m with z | z
    · exact n z
    · rw [t] at z; cases z
  | .scr ns, v, h => by
    simp only [Rep] at h ⊢
    obtain ⟨a, e, t⟩ := h
    exact ⟨a, e, t.step inM s⟩
  | .ref n, v, h => by
    simp only [Rep] at h ⊢
    obtain ⟨a, e, t⟩ := h
    exact ⟨a, e, s.pre n a t⟩
theorem Reps.step (inM : ∀ a ∈ c.r, c.M a) (s : Step c c') : ∀ (ds : List D) (xs : List V), Reps K c ds xs → Reps K c' ds xs
  | [], _, h => h
  | d :: ds, xs, h => by
    simp only [Reps] at h ⊢
    obtain ⟨x, r, e, h1, h2⟩ := h
    exact ⟨x, r, e, Rep.step inM s d x h1, Reps.step inM s ds r h2⟩
end
theorem Reps.length : ∀ {ds : List D} {xs : List V}, Reps K c ds xs → xs.length = ds.length
  | [], _, h => by simp only [Reps] at h; subst h; rfl
  | d :: ds, xs, h => by
    simp only [Reps] at h
    obtain ⟨x, r, e, h1, h2⟩ := h
    subst e
    simp [Reps.length h2]
theorem Reps.append : ∀ {ds es : List D} {xs ys : List V}, Reps K c ds xs → Reps K c es ys → Reps K c (ds ++ es) (xs ++ ys)
  | [], _, _, _, h, g => by simp only [Reps] at h; subst h; exact g
  | d :: ds, es, xs, ys, h, g => by
    simp only [Reps] at h
    obtain ⟨x, r, e, h1, h2⟩ := h
    subst e
    simp only [List.cons_append, Reps]
    exact ⟨x, r ++ ys, rfl, h1, Reps.append h2 g⟩
theorem Reps.snoc {ds : List D} {d : D} {xs : List V} {x : V} (h : Reps K c ds xs) (g : Rep K c d x) : Reps K c (ds ++ [d]) (xs ++ [x]) :=
  h.append (by simp only [Reps]; exact ⟨x, [], rfl, g, rfl⟩)
theorem Reps.get : ∀ {ds : List D} {xs : List V} {i : Nat} {d : D}, Reps K c ds xs → ds[i]? = some d → ∃ x, xs[i]? = some x ∧ Rep K c d x
  | [], _, _, _, _, e => by simp at e
  | d :: ds, xs, i, d', h, e => by
    simp only [Reps] at h
    obtain ⟨x, r, q, h1, h2⟩ := h
    subst q
    cases i with
    | zero => simp at e; subst e; exact ⟨x, rfl, h1⟩
    | succ i => simp at e; obtain ⟨y, hy, r⟩ := Reps.get h2 e; exact ⟨y, by simpa using hy, r⟩
theorem Reps.get' : ∀ {ds : List D} {xs : List V} {i : Nat} {x : V}, Reps K c ds xs → xs[i]? = some x → ∃ d, ds[i]? = some d ∧ Rep K c d x := fun {ds xs i x} h e => by
  have hl := h.length
  have hi : i < ds.length := by have := (List.getElem?_eq_some_iff.mp e).1; omega
  obtain ⟨y, hy, r⟩ := h.get (List.getElem?_eq_getElem hi)
  rw [e] at hy; cases hy
  exact ⟨_, List.getElem?_eq_getElem hi, r⟩
theorem Reps.take : ∀ {ds : List D} {xs : List V} (n : Nat), Reps K c ds xs → Reps K c (ds.take n) (xs.take n)
  | [], _, n, h => by simp only [Reps] at h; subst h; simp [Reps]
  | d :: ds, xs, 0, h => by simp [Reps]
  | d :: ds, xs, n + 1, h => by
    simp only [Reps] at h
    obtain ⟨x, r, q, h1, h2⟩ := h
    subst q
    simp only [List.take_succ_cons, Reps]
    exact ⟨x, _, rfl, h1, Reps.take n h2⟩
theorem Reps.drop : ∀ {ds : List D} {xs : List V} (n : Nat), Reps K c ds xs → Reps K c (ds.drop n) (xs.drop n)
  | [], _, n, h => by simp only [Reps] at h; subst h; simp [Reps]
  | d :: ds, xs, 0, h => h
  | d :: ds, xs, n + 1, h => by
    simp only [Reps] at h
    obtain ⟨x, r, q, h1, h2⟩ := h
    subst q
    exact Reps.drop n h2
theorem Reps.one {d : D} {xs : List V} (h : Reps K c [d] xs) : ∃ x, xs = [x] ∧ Rep K c d x := by
  simp only [Reps] at h
  obtain ⟨x, r, q, h1, h2⟩ := h
  subst h2
  exact ⟨x, q, h1⟩
theorem Reps.two {d e : D} {xs : List V} (h : Reps K c [d, e] xs) : ∃ x y, xs = [x, y] ∧ Rep K c d x ∧ Rep K c e y := by
  simp only [Reps] at h
  obtain ⟨x, r, q, h1, y, r', q', h2, h3⟩ := h
  subst h3 q'
  exact ⟨x, y, q, h1, h2⟩

/-! slots -/
def RepS (K : PySem.W.Frag) (c : Cf) (sd : List (Option D)) (σ : L2.St) : Prop :=
  sd.length = σ.length ∧ ∀ (i : Nat) d, sd[i]? = some (some d) → ∃ v, σ[i]? = some (some v) ∧ Rep K c d v
theorem RepS.step {sd : List (Option D)} {σ : L2.St} (inM : ∀ a ∈ c.r, c.M a) (s : Step c c') (h : RepS K c sd σ) : RepS K c' sd σ :=
  ⟨h.1, fun i d e => let ⟨v, q, r⟩ := h.2 i d e; ⟨v, q, r.step inM s⟩⟩
theorem RepS.set {sd : List (Option D)} {σ : L2.St} {i : Nat} {d : D} {v : V} (h : RepS K c sd σ) (r : Rep K c d v) : RepS K c (sd.set i (some d)) (σ.set i (some v)) := by
  refine ⟨by simp [h.1], fun j d' e => ?_⟩
  by_cases hij : i = j
  · subst hij
    rw [List.getElem?_set] at e ⊢
    simp only [if_true] at e ⊢
    split at e
    · rename_i hl
      cases e
      rw [if_pos (by rw [← h.1]; exact hl)]
      exact ⟨v, rfl, r⟩
    · cases e
  · rw [List.getElem?_set_ne hij] at e ⊢
    exact h.2 j d' e
end
end DI
set_option Elab.async false
set_option linter.all false
set_option maxRecDepth 100000
namespace DI
open PySem PySem.Spec PyProof.Rows L2

/-! ## 3. the compact text -/
inductive Cl where
  | int | bool | str | tuple | list | dict | own (n : Nat)
  deriving DecidableEq, Inhabited, Repr
inductive Bi where
  | len | int | str | list | tuple | abs | min2 | max2
  deriving DecidableEq, Inhabited, Repr
inductive Me where
  | append
  deriving DecidableEq, Inhabited, Repr
inductive Tg where
  | nm (i : Nat) | tp (is : List Nat)
  deriving Inhabited
mutual
inductive Ex where
  | bad
  | var (i : Nat)
  | cst (d : D)
  | bin (op : Operator) (mu : Bool) (a b : Ex)
  | neg (a : Ex)
  | cmp (op : CmpOp) (a b : Ex)
  | chn (o1 o2 : CmpOp) (a b c : Ex)
  | isN (a : Ex) | notN (a : Ex)
  | and_ (a b : Ex) | or_ (a b : Ex) | not_ (a : Ex)
  | tup (es : Exs) | lst (mu : Bool) (es : Exs)
  | idx (a i : Ex)
  | call (f : Nat) (es : Exs)
  | isi (e : Ex) (cs : List Cl)
  | bi (b : Bi) (mu : Bool) (es : Exs)
inductive Exs where
  | nil | cons (e : Ex) (es : Exs)
end
instance : Inhabited Ex := ⟨.bad⟩
instance : Inhabited Exs := ⟨.nil⟩
mutual
inductive Sx where
  | bad | pass
  | ret (e : Ex) | retN
  | expr (e : Ex)
  | set (i : Nat) (e : Ex)
  | ifs (c : Ex) (t e : Sxs)
  | for_ (g : Tg) (it : Ex) (b : Sxs)
inductive Sxs where
  | nil | cons (e : Sx) (es : Sxs)
end
instance : Inhabited Sx := ⟨.bad⟩
instance : Inhabited Sxs := ⟨.nil⟩

structure Fn where
  ps : Nat
  n : Nat
  frz : Bool
  body : Sxs

/-! ## 4. what it means -/
mutual
def D.noref : D → Bool
  | .ref _ => false
  | .tup ds => norefs ds
  | .lst ds => norefs ds
  | _ => true
def norefs : List D → Bool
  | [] => true
  | d :: ds => d.noref && norefs ds
end
mutual
def D.shift (n : Nat) : D → D
  | .ref m => .ref (n + m)
  | .tup ds => .tup (shifts n ds)
  | .lst ds => .lst (shifts n ds)
  | d => d
def shifts (n : Nat) : List D → List D
  | [] => []
  | d :: ds => d.shift n :: shifts n ds
end
def Ob.shift (n : Nat) : Ob → Ob
  | .lst ds => .lst (shifts n ds)
  | .ins c fs => .ins c (fs.map fun p => (p.1, p.2.shift n))
  | .dead => .dead
/-! data: no place of the heap, no script -/
mutual
def D.dat : D → Bool
  | .ref _ => false
  | .scr _ => false
  | .tup ds => dats ds
  | .lst ds => dats ds
  | _ => true
def dats : List D → Bool
  | [] => true
  | d :: ds => d.dat && dats ds
end
mutual
def D.dep : D → Nat
  | .tup ds => deps ds + 1
  | .lst ds => deps ds + 1
  | _ => 0
def deps : List D → Nat
  | [] => 0
  | d :: ds => max d.dep (deps ds)
end
/-! Python's == of data -/
mutual
def eqv : D → D → Bool
  | .non, y => match y with | .non => true | _ => false
  | .bl a, y => match y with | .bl b => a == b | .int j => (if a then 1 else 0) == j | _ => false
  | .int i, y => match y with | .bl b => i == (if b then 1 else 0) | .int j => i == j | _ => false
  | .str x, y => match y with | .str z => x == z | _ => false
  | .lst xs, y => match y with | .lst ys => eqvs xs ys | _ => false
  | .tup xs, y => match y with | .tup ys => eqvs xs ys | _ => false
  | .scr _, _ => false
  | .ref _, _ => false
def eqvs : List D → List D → Bool
  | [], ys => match ys with | [] => true | _ => false
  | x :: xs, ys => match ys with | [] => false | y :: ys => eqv x y && eqvs xs ys
end
/-- the items of a list -/
def asL (hp : AH) : D → Option (List D)
  | .lst ds => some ds
  | .ref n => match hp[n]? with
    | some (.lst ds) => some ds
    | _ => none
  | _ => none
/-- a list of the heap as the data that it is now -/
def now (hp : AH) (d : D) : D := match d with
  | .ref n => match hp[n]? with
    | some (.lst ds) => .lst ds
    | _ => d
  | _ => d
def D.isNon : D → Bool
  | .non => true
  | _ => false
def addD (hp : AH) (x y : D) : Option D := match x, y with
  | .int a, .int b => some (.int (a + b))
  | .str a, .str b => if a.length + b.length ≤ 16777216 then some (.str (a ++ b)) else none
  | .tup a, .tup b => if a.length + b.length ≤ 16777216 then some (.tup (a ++ b)) else none
  | x, y => match asL hp x, asL hp y with
    | some a, some b => if a.length + b.length ≤ 16777216 then some (.lst (a ++ b)) else none
    | _, _ => none
def subD (x y : D) : Option D := match x, y with
  | .int a, .int b => some (.int (a - b))
  | _, _ => none
def mulD (x y : D) : Option D := match x, y with
  | .int a, .int b => if (-18446744073709551616 < a ∧ a < 18446744073709551616) ∨ (-18446744073709551616 < b ∧ b < 18446744073709551616) then some (.int (a * b)) else none
  | _, _ => none
def divD (x y : D) : Option D := match x, y with
  | .int a, .int b => if 0 < b ∧ b < 18446744073709551616 then some (.int (a / b)) else none
  | _, _ => none
def modD (x y : D) : Option D := match x, y with
  | .int a, .int b => if 0 < b then some (.int (a % b)) else none
  | _, _ => none
def powD (x y : D) : Option D := match x, y with
  | .int a, .int b => if 0 ≤ b ∧ b ≤ 1000000 ∧ a.natAbs < 2 ^ 64 then some (.int (a ^ b.toNat)) else none
  | _, _ => none
def binop (op : Operator) (hp : AH) (x y : D) : Option D := match op with
  | .Add => addD hp x y
  | .Sub => subD x y
  | .Mult => mulD x y
  | .FloorDiv => divD x y
  | .Mod => modD x y
  | .Pow => powD x y
  | _ => none
def ints2 (f : Int → Int → Bool) (x y : D) : Option D := match x, y with
  | .int a, .int b => some (.bl (f a b))
  | _, _ => none
def eqD (hp : AH) (x y : D) : Option Bool :=
  if (now hp x).dat && (now hp y).dat && (decide ((now hp x).dep ≤ 100) || decide ((now hp y).dep ≤ 100)) then some (eqv (now hp x) (now hp y)) else none
def cmpop (op : CmpOp) (hp : AH) (x y : D) : Option D := match op with
  | .Eq => (eqD hp x y).map D.bl
  | .NotEq => (eqD hp x y).map fun b => D.bl (!b)
  | .Lt => ints2 (fun a b => decide (a < b)) x y
  | .LtE => ints2 (fun a b => decide (a ≤ b)) x y
  | .Gt => ints2 (fun a b => decide (b < a)) x y
  | .GtE => ints2 (fun a b => decide (b ≤ a)) x y
  | _ => none
def truth (hp : AH) (x : D) : Option Bool := match x with
  | .non => some false
  | .bl b => some b
  | .int i => some (i != 0)
  | .str s => some (!s.isEmpty)
  | .tup ds => some (!ds.isEmpty)
  | x => (asL hp x).map fun ds => !ds.isEmpty
def isCl : Cl → D → Bool
  | .int, .int _ | .int, .bl _ | .bool, .bl _ | .str, .str _ | .tuple, .tup _ | .list, .lst _ | .list, .scr _ => true
  | _, _ => false
def isi1 (hp : AH) (cs : List Cl) (x : D) : Option Bool := match now hp x with
  | .ref _ => none
  | x => some (cs.any fun c => isCl c x)
def atL {α : Type} (xs : List α) (i : Int) : Option α := if 0 ≤ i then xs[i.toNat]? else if -(xs.length : Int) ≤ i then xs[(i + xs.length).toNat]? else none
def idxD (hp : AH) (x i : D) : Option D := match x, i with
  | .tup ds, .int i => atL ds i
  | .str s, .int i => (atL s i).map fun c => .str [c]
  | .scr ns, .int i => (atL ns i).map D.int
  | x, .int i => (asL hp x).bind fun ds => atL ds i
  | _, _ => none
def lenD (hp : AH) (x : D) : Option D := match x with
  | .str s => some (.int s.length)
  | .tup ds => some (.int ds.length)
  | .scr ns => some (.int ns.length)
  | x => (asL hp x).map fun ds => .int ds.length
def digs (i : Int) : List Nat := (toString i).toList.map Char.toNat
def biD (b : Bi) (hp : AH) (xs : List D) : Option D := match b, xs with
  | .len, [x] => lenD hp x
  | .int, [.int i] => some (.int i)
  | .int, [.bl b] => some (.int (if b then 1 else 0))
  | _, _ => none
/-- a fresh list, kept in the heap where it will be changed -/
def mkL (mu : Bool) (d : D) (hp : AH) : R D := match mu, d with
  | true, .lst ds => .ok (.ref hp.length) (hp ++ [.lst ds])
  | true, _ => .bad
  | false, d => .ok d hp

abbrev FC := Nat → List D → AH → R D
abbrev Sl := List (Option D)
abbrev EVl := Sl → AH → R D

mutual
def ev (F : FC) : Ex → Sl → AH → R D
  | .bad, _, _ => .bad
  | .var i, s, h => match s[i]? with
    | some (some d) => .ok d h
    | _ => .bad
  | .cst d, _, h => .ok d h
  | .bin op mu a b, s, h => (ev F a s h).bind fun x h => (ev F b s h).bind fun y h => (R.opt (binop op h x y) h).bind fun d h => mkL mu d h
  | .neg a, s, h => (ev F a s h).bind fun x h => match x with
    | .int i => .ok (.int (-i)) h
    | _ => .bad
  | .cmp op a b, s, h => (ev F a s h).bind fun x h => (ev F b s h).bind fun y h => R.opt (cmpop op h x y) h
  | .chn o1 o2 a b c, s, h => (ev F a s h).bind fun x h => (ev F b s h).bind fun y h => (R.opt (cmpop o1 h x y) h).bind fun t h => match t with
    | .bl true => (ev F c s h).bind fun z h => R.opt (cmpop o2 h y z) h
    | .bl false => .ok (.bl false) h
    | _ => .bad
  | .isN a, s, h => (ev F a s h).bind fun x h => .ok (.bl x.isNon) h
  | .notN a, s, h => (ev F a s h).bind fun x h => .ok (.bl (!x.isNon)) h
  | .and_ a b, s, h => (ev F a s h).bind fun x h => match truth h x with
    | some true => ev F b s h
    | some false => .ok x h
    | none => .bad
  | .or_ a b, s, h => (ev F a s h).bind fun x h => match truth h x with
    | some true => .ok x h
    | some false => ev F b s h
    | none => .bad
  | .not_ a, s, h => (ev F a s h).bind fun x h => (R.opt (truth h x) h).bind fun b h => .ok (.bl (!b)) h
  | .tup es, s, h => (evs F es s h).bind fun xs h => if xs.length ≤ 16777216 then .ok (.tup xs) h else .bad
  | .lst mu es, s, h => (evs F es s h).bind fun xs h => if xs.length ≤ 16777216 then mkL mu (.lst xs) h else .bad
  | .idx a i, s, h => (ev F a s h).bind fun x h => (ev F i s h).bind fun y h => R.opt (idxD h x y) h
  | .call f es, s, h => (evs F es s h).bind fun xs h => F f xs h
  | .isi e cs, s, h => (ev F e s h).bind fun x h => (R.opt (isi1 h cs x) h).bind fun b h => .ok (.bl b) h
  | .bi b mu es, s, h => (evs F es s h).bind fun xs h => (R.opt (biD b h xs) h).bind fun d h => mkL mu d h
def evs (F : FC) : Exs → Sl → AH → R (List D)
  | .nil, _, h => .ok [] h
  | .cons e es, s, h => (ev F e s h).bind fun x h => (evs F es s h).bind fun xs h => .ok (x :: xs) h
end

/-- how a statement ends -/
inductive O where
  | nx (s : Sl) (h : AH)
  | rt (d : D) (h : AH)
  | bk (s : Sl) (h : AH)
  | ct (s : Sl) (h : AH)
  | ex (e : EV) (s : Sl) (h : AH)
  | bad
def R.to {α : Type} (r : R α) (s : Sl) (f : α → AH → O) : O := match r with
  | .ok x h => f x h
  | .exc e h => .ex e s h
  | .bad => .bad
@[simp] theorem R.to_ok {α : Type} (x : α) (h : AH) (s : Sl) (f : α → AH → O) : (R.ok x h).to s f = f x h := rfl
@[simp] theorem R.to_exc {α : Type} (e : EV) (h : AH) (s : Sl) (f : α → AH → O) : (R.exc e h : R α).to s f = .ex e s h := rfl
@[simp] theorem R.to_bad {α : Type} (s : Sl) (f : α → AH → O) : (R.bad : R α).to s f = .bad := rfl
def O.seq (o : O) (f : Sl → AH → O) : O := match o with
  | .nx s h => f s h
  | o => o
@[simp] theorem O.seq_nx (s : Sl) (h : AH) (f : Sl → AH → O) : (O.nx s h).seq f = f s h := rfl
@[simp] theorem O.seq_rt (d : D) (h : AH) (f : Sl → AH → O) : (O.rt d h).seq f = .rt d h := rfl
@[simp] theorem O.seq_bk (s : Sl) (h : AH) (f : Sl → AH → O) : (O.bk s h).seq f = .bk s h := rfl
@[simp] theorem O.seq_ct (s : Sl) (h : AH) (f : Sl → AH → O) : (O.ct s h).seq f = .ct s h := rfl
@[simp] theorem O.seq_ex (e : EV) (s : Sl) (h : AH) (f : Sl → AH → O) : (O.ex e s h).seq f = .ex e s h := rfl
@[simp] theorem O.seq_bad (f : Sl → AH → O) : O.bad.seq f = .bad := rfl

def sets : Sl → List Nat → List D → Option Sl
  | s, [], [] => some s
  | s, i :: is, d :: ds => sets (s.set i (some d)) is ds
  | _, _, _ => none
def asg (g : Tg) (d : D) (s : Sl) : Option Sl := match g with
  | .nm i => some (s.set i (some d))
  | .tp is => match d with
    | .tup ds => sets s is ds
    | _ => none
/-- the items that a loop goes through -/
def items (hp : AH) (d : D) : Option (List D) := match d with
  | .tup ds => some ds
  | .scr ns => some (ns.map D.int)
  | .lst ds => some ds
  | _ => none
/-- a turn's end, and what comes behind it -/
def O.turn (o : O) (f : Sl → AH → O) : O := match o with
  | .nx s h => f s h
  | .ct s h => f s h
  | .bk s h => .nx s h
  | o => o
@[simp] theorem O.turn_nx (s : Sl) (h : AH) (f : Sl → AH → O) : (O.nx s h).turn f = f s h := rfl
@[simp] theorem O.turn_rt (d : D) (h : AH) (f : Sl → AH → O) : (O.rt d h).turn f = .rt d h := rfl
@[simp] theorem O.turn_bk (s : Sl) (h : AH) (f : Sl → AH → O) : (O.bk s h).turn f = .nx s h := rfl
@[simp] theorem O.turn_ct (s : Sl) (h : AH) (f : Sl → AH → O) : (O.ct s h).turn f = f s h := rfl
@[simp] theorem O.turn_ex (e : EV) (s : Sl) (h : AH) (f : Sl → AH → O) : (O.ex e s h).turn f = .ex e s h := rfl
@[simp] theorem O.turn_bad (f : Sl → AH → O) : O.bad.turn f = .bad := rfl
def loop (body : Sl → AH → O) (g : Tg) : List D → Sl → AH → O
  | [], s, h => .nx s h
  | d :: ds, s, h => match asg g d s with
    | none => .bad
    | some s1 => (body s1 h).turn (loop body g ds)
mutual
def evS (F : FC) : Sx → Sl → AH → O
  | .bad, _, _ => .bad
  | .pass, s, h => .nx s h
  | .ret e, s, h => (ev F e s h).to s fun d h => .rt d h
  | .retN, s, h => .rt .non h
  | .expr e, s, h => (ev F e s h).to s fun _ h => .nx s h
  | .set i e, s, h => (ev F e s h).to s fun d h => .nx (s.set i (some d)) h
  | .ifs c t e, s, h => (ev F c s h).to s fun d h => match truth h d with
    | some true => evSs F t s h
    | some false => evSs F e s h
    | none => .bad
  | .for_ g it b, s, h => (ev F it s h).to s fun d h => match items h d with
    | none => .bad
    | some ds => loop (evSs F b) g ds s h
def evSs (F : FC) : Sxs → Sl → AH → O
  | .nil, s, h => .nx s h
  | .cons x xs, s, h => (evS F x s h).seq fun s h => evSs F xs s h
end

/-- what a call has made in a heap of its own, as data that nobody changes any more -/
def fzD : Nat → AH → D → Option D
  | 0, _, d => if d.noref then some d else none
  | n + 1, h, d => if d.noref then some d else match d with
    | .ref m => match h[m]? with
      | some (.lst es) => if norefs es then some (.lst es) else (es.mapM (fzD n h)).map D.lst
      | _ => none
    | .tup es => (es.mapM (fzD n h)).map D.tup
    | .lst es => (es.mapM (fzD n h)).map D.lst
    | _ => none
/-- a call whose arguments name nothing of the heap has a heap of its own -/
def apart (fz : Nat → Bool) (F : FC) : FC := fun f ds h =>
  if norefs ds then
    match F f ds [] with
    | .ok d h' => match (if fz f then fzD 5 h' d else if d.noref then some d else none) with
      | some d' => .ok d' h
      | none => .ok (d.shift h.length) (h ++ h'.map (Ob.shift h.length))
    | .exc e h' => match e.pay with
      | none => .exc e h
      | some d => match (if fz f then fzD 5 h' d else if d.noref then some d else none) with
        | some d' => .exc { e with pay := some d' } h
        | none => .exc { e with pay := some (d.shift h.length) } (h ++ h'.map (Ob.shift h.length))
    | .bad => .bad
  else F f ds h
def ran (o : O) : R D := match o with
  | .nx _ h => .ok .non h
  | .rt d h => .ok d h
  | .ex e _ h => .exc e h
  | _ => .bad
def fzs (P : List Fn) (i : Nat) : Bool := match P[i]? with
  | some f => f.frz
  | none => false
def call (P : List Fn) : Nat → FC
  | 0, _, _, _ => .bad
  | k + 1, f, ds, h => match P[f]? with
    | none => .bad
    | some fn => if ds.length = fn.ps then ran (evSs (apart (fzs P) (call P k)) fn.body (ds.map some ++ List.replicate (fn.n - ds.length) none) h) else .bad

/-! ## 5. from the row's text -/
structure CE where
  N : List Str
  sc : List (Str × NameKind)
  fns : List Str
  consts : List (Str × D)
  mu : List (Nat × Nat)
def CE.isMu (c : CE) (p : Pos) : Bool := c.mu.contains (p.line, p.col)
def strD (x : Str) : D := .str x.cps.toList
def ixOf (x : Str) : List Str → Nat → Option Nat
  | [], _ => none
  | y :: r, n => if x == y then some n else ixOf x r (n + 1)
theorem ixOf_get {x : Str} : ∀ {l : List Str} {n i : Nat}, ixOf x l n = some i → n ≤ i ∧ l[i - n]? = some x
  | [], _, _, h => by cases h
  | y :: r, n, i, h => by
    unfold ixOf at h
    split at h
    · rename_i e
      cases h
      exact ⟨Nat.le_refl _, by simp [beq_iff_eq.mp e]⟩
    · obtain ⟨h1, h2⟩ := ixOf_get h
      refine ⟨by omega, ?_⟩
      rw [show i - n = (i - (n + 1)) + 1 by omega]
      simpa using h2
theorem ixOf_get0 {x : Str} {l : List Str} {i : Nat} (h : ixOf x l 0 = some i) : l[i]? = some x := by
  simpa using (ixOf_get h).2
def noStar : Expr → Bool
  | .Starred .. => false
  | _ => true
def mkExs : List Ex → Exs
  | [] => .nil
  | e :: es => .cons e (mkExs es)
def nameOf : Expr → Option Str
  | .Name x _ => some x
  | _ => none
def clOf (c : CE) (x : Str) : Option Cl :=
  if c.sc.lookup x == some .globalImplicit then
    if x == "int" then some .int else if x == "bool" then some .bool else if x == "str" then some .str else if x == "tuple" then some .tuple
    else if x == "list" then some .list else if x == "dict" then some .dict else none
  else none
def biOf (x : Str) : Option Bi :=
  if x == "len" then some .len else if x == "int" then some .int else none
def isLoc (c : CE) (x : Str) : Bool := match c.sc.lookup x with
  | some .local | some .cell | some .free => true
  | _ => false
def cName (c : CE) (x : Str) : Ex :=
  if isLoc c x && !(x == "__debug__") && !(x == "__classdict__") then match (ixOf x c.N 0) with
    | some i => .var i
    | none => .bad
  else if c.sc.lookup x == some .globalImplicit && !(x == "__debug__") then match c.consts.lookup x with
    | some d => .cst d
    | none => .bad
  else .bad
def cConst : Const → Ex
  | .none => .cst .non
  | .bool b => .cst (.bl b)
  | .int i => .cst (.int i)
  | .str x => if PyData.strOk x && decide (x.cps.size ≤ 16777216) then .cst (strD x) else .bad
  | _ => .bad
def isNoneE : Expr → Bool
  | .Constant .none _ _ => true
  | _ => false
def cCmp (op : CmpOp) (b : Expr) (x y : Ex) : Ex := match op with
  | .Is => if isNoneE b then .isN x else .bad
  | .IsNot => if isNoneE b then .notN x else .bad
  | .In | .NotIn => .bad
  | op => .cmp op x y
/-- and, or: of one, two .. -/
def cBool (op : BoolOp) : List Ex → Ex
  | [] => .bad
  | [a] => a
  | a :: b :: r => match op with
    | .And => .and_ a (cBool op (b :: r))
    | .Or => .or_ a (cBool op (b :: r))
def isSlice : Expr → Bool
  | .Slice .. => true
  | _ => false
def cCall (c : CE) (rec : Expr → Ex) (f : Expr) (es : List Expr) (ks : List Keyword) (p : Pos) : Ex := match f, ks with
  | .Name x _, [] =>
    if c.sc.lookup x == some .globalImplicit && es.all noStar && !es.isEmpty && !(x == "__debug__") && !(x == "__name__") then
      match (ixOf x c.fns 0) with
      | some i => .call i (mkExs (es.map rec))
      | none =>
        if x == "isinstance" then match es with
          | [e, t] => match nameOf t with
            | some y => match clOf c y with
              | some k => .isi (rec e) [k]
              | none => .bad
            | none => .bad
          | _ => .bad
        else match biOf x with
          | some b => .bi b (c.isMu p) (mkExs (es.map rec))
          | none => .bad
    else .bad
  | _, _ => .bad
def cE (c : CE) : Nat → Expr → Ex
  | 0, _ => .bad
  | n + 1, e => match e with
    | .Name x _ => cName c x
    | .Constant k _ _ => cConst k
    | .BinOp a op b p => .bin op (c.isMu p) (cE c n a) (cE c n b)
    | .UnaryOp .Not a _ => .not_ (cE c n a)
    | .UnaryOp .USub a _ => .neg (cE c n a)
    | .BoolOp op es _ => cBool op (es.map (cE c n))
    | .Compare a [op] [b] _ => cCmp op b (cE c n a) (cE c n b)
    | .Tuple es _ _ => if es.all noStar then .tup (mkExs (es.map (cE c n))) else .bad
    | .List es p => if es.all noStar then .lst (c.isMu p) (mkExs (es.map (cE c n))) else .bad
    | .Subscript a i _ => if isSlice i then .bad else .idx (cE c n a) (cE c n i)
    | .Call f es ks p => cCall c (cE c n) f es ks p
    | _ => .bad
def cTg (c : CE) : Expr → Option Tg
  | .Name x _ => if c.sc.lookup x == some .local || c.sc.lookup x == some .cell then ((ixOf x c.N 0)).map Tg.nm else none
  | _ => none
/-- a statement that is no comprehension given to a name -/
def noLc : Expr → Bool
  | .ListComp .. | .SetComp .. | .DictComp .. => false
  | _ => true
def noSet : Expr → Bool
  | .Set .. => false
  | _ => true
def mkSxs (f : Stmt → Sx) : List Stmt → Sxs
  | [] => .nil
  | s :: r => .cons (f s) (mkSxs f r)
def cS (c : CE) : Nat → Stmt → Sx
  | 0, _ => .bad
  | n + 1, st => match st with
    | .Return (some e) _ => .ret (cE c 100 e)
    | .Return none _ => .retN
    | .Pass _ => .pass
    | .Expr e _ => if noLc e then .expr (cE c 100 e) else .bad
    | .Assign [.Name x _] e _ => if noLc e && (c.sc.lookup x == some .local || c.sc.lookup x == some .cell) then match (ixOf x c.N 0) with
          | some i => .set i (cE c 100 e)
          | none => .bad
        else .bad
    | .If t a b _ => .ifs (cE c 100 t) (mkSxs (cS c n) a) (mkSxs (cS c n) b)
    | .For t it b [] _ => match cTg c t with
      | some g => if noSet it then .for_ g (cE c 100 it) (mkSxs (cS c n) b) else .bad
      | none => .bad
    | _ => .bad
def cFn (c : CE) (ps : Nat) (frz : Bool) (body : List Stmt) : Fn := ⟨ps, c.N.length, frz, mkSxs (cS c 50) body⟩
end DI
set_option Elab.async false
set_option linter.all false
set_option maxRecDepth 100000
namespace DI
open PySem PySem.Spec PyProof.Rows L2

/-! ## 6. readings of plain meanings -/
def RepX (K : PySem.W.Frag) (ca : CA) (c : Cf) (e : EV) (cls : Value) (dx : Option Addr) : Prop :=
  (∃ C, ca e.cls = some C ∧ cls = .ref C) ∧
    match e.pay with
    | none => True
    | some d => ∃ a f v, dx = some a ∧ c.H a = some (.xd [(f, v)]) ∧ ¬ c.M a ∧ Rep K c d v
theorem RepX.step {K : PySem.W.Frag} {ca : CA} {c c' : Cf} {e : EV} {cls : Value} {dx : Option Addr} (inM : ∀ a ∈ c.r, c.M a) (s : Step c c') (h : RepX K ca c e cls dx) : RepX K ca c' e cls dx := by
  obtain ⟨h1, h2⟩ := h
  refine ⟨h1, ?_⟩
  cases q : e.pay with
  | none => trivial
  | some d =>
    rw [q] at h2
    obtain ⟨a, f, v, e1, e2, e3, e4⟩ := h2
    refine ⟨a, f, v, e1, s.keep a _ e2 fun m => e3 (inM a m), fun m => ?_, e4.step inM s⟩
    rcases s.fresh a m with z | z
    · exact e3 z
    · rw [e2] at z; cases z

section
variable (K : PySem.W.Frag) (ca : CA) (W : WX)
def Post {α β : Type} (Rel : Cf → α → β → Prop) (σ : L2.St) (c : Cf) (r : R α) (Q : β → Hp → Prop) : Prop := match r with
  | .ok x h => ∀ c' y, Step c c' → SR K ca c' h → Rel c' x y → Q y c'.H
  | .exc e h => ∀ c' cls dx, Step c c' → SR K ca c' h → RepX K ca c' e cls dx → W cls dx σ c'.H
  | .bad => False
/-- a reading behind values xs that stand for ds -/
def tes {β α : Type} (Rel : Cf → α → β → Prop) (f : List D → Sl → AH → R α) (xs : List V) : L2.St → Hp → (β → Hp → Prop) → Prop := fun σ H Q =>
  ∃ M r hp sd ds, SR K ca ⟨M, r, H⟩ hp ∧ RepS K ⟨M, r, H⟩ sd σ ∧ Reps K ⟨M, r, H⟩ ds xs ∧ Post K ca W Rel σ ⟨M, r, H⟩ (f ds sd hp) Q
abbrev te (m : EVl) : TE := tes K ca W (Rep K) (fun _ => m) []
abbrev tas (m : Sl → AH → R (List D)) : TA := tes K ca W (Reps K) (fun _ => m) []
def beq' : Cf → Bool → Bool → Prop := fun _ a b => a = b
def tr (r : R D) : R Bool := r.bind fun d h => R.opt (truth h d) h
abbrev tt (m : EVl) : TT := tes K ca W beq' (fun _ s h => tr (m s h)) []
def PostO (c : Cf) (o : O) (Dn : Ends) : Prop := match o with
  | .nx s h => ∀ c' σ', Step c c' → SR K ca c' h → RepS K c' s σ' → Dn.nx σ' c'.H
  | .rt d h => ∀ c' v, Step c c' → SR K ca c' h → Rep K c' d v → Dn.rt v c'.H
  | .bk s h => ∀ c' σ', Step c c' → SR K ca c' h → RepS K c' s σ' → Dn.bk σ' c'.H
  | .ct s h => ∀ c' σ', Step c c' → SR K ca c' h → RepS K c' s σ' → Dn.ct σ' c'.H
  | .ex e s h => ∀ c' σ' cls dx, Step c c' → SR K ca c' h → RepS K c' s σ' → RepX K ca c' e cls dx → W cls dx σ' c'.H
  | .bad => False
def tst (m : Sl → AH → O) : TS := fun Dn σ H => ∃ M r hp sd, SR K ca ⟨M, r, H⟩ hp ∧ RepS K ⟨M, r, H⟩ sd σ ∧ PostO K ca W ⟨M, r, H⟩ (m sd hp) Dn
end

section
variable {K : PySem.W.Frag} {ca : CA} {W : WX} {α β : Type} {Rel : Cf → α → β → Prop} {σ : L2.St} {c c' : Cf} {H : Hp}
theorem Post.step {r : R α} {Q : β → Hp → Prop} (s : Step c c') (h : Post K ca W Rel σ c r Q) : Post K ca W Rel σ c' r Q := by
  cases r with
  | ok x h' => exact fun c2 y s2 => h c2 y (s.trans s2)
  | exc e h' => exact fun c2 y d s2 => h c2 y d (s.trans s2)
  | bad => exact h
theorem Post.mono {r : R α} {Q Q' : β → Hp → Prop} (h : Post K ca W Rel σ c r Q) (q : ∀ y H, Q y H → Q' y H) : Post K ca W Rel σ c r Q' := by
  cases r with
  | ok x h' => exact fun c2 y s2 a b => q _ _ (h c2 y s2 a b)
  | exc e h' => exact h
  | bad => exact h
theorem PostO.step {o : O} {Dn : Ends} (s : Step c c') (h : PostO K ca W c o Dn) : PostO K ca W c' o Dn := by
  cases o with
  | nx _ _ => exact fun c2 y s2 => h c2 y (s.trans s2)
  | rt _ _ => exact fun c2 y s2 => h c2 y (s.trans s2)
  | bk _ _ => exact fun c2 y s2 => h c2 y (s.trans s2)
  | ct _ _ => exact fun c2 y s2 => h c2 y (s.trans s2)
  | ex _ _ _ => exact fun c2 y d e s2 => h c2 y d e (s.trans s2)
  | bad => exact h
/-- the values so far, then one more expression -/
theorem tes_seq {f : List D → Sl → AH → R α} {m : EVl} {g : List D → Sl → AH → R α} {xs : List V} {Q : β → Hp → Prop}
    (e : ∀ ds s h, ds.length = xs.length → f ds s h = (m s h).bind fun d h => g (ds ++ [d]) s h)
    (q : tes K ca W Rel f xs σ H Q) : te K ca W m σ H fun x H1 => tes K ca W Rel g (xs ++ [x]) σ H1 Q := by
  obtain ⟨M, r, hp, sd, ds, h1, h2, h3, h4⟩ := q
  refine ⟨M, r, hp, sd, [], h1, h2, (by simp only [Reps]), ?_⟩
  rw [e _ _ _ h3.length.symm] at h4
  show Post K ca W (Rep K) σ _ (m sd hp) _
  cases q : m sd hp with
  | ok d h =>
    rw [q] at h4
    intro c' x s sr rx
    exact ⟨c'.M, c'.r, h, sd, ds ++ [d], sr, h2.step h1.inM s, (h3.step h1.inM s).snoc rx, Post.step s h4⟩
  | exc e h =>
    rw [q] at h4
    exact h4
  | bad =>
    rw [q] at h4
    exact h4
/-- .. and what stands behind is asked of the same plain state -/
theorem tes_seqs {f : List D → Sl → AH → R α} {m : Sl → AH → R (List D)} {g : List D → Sl → AH → R α} {xs : List V} {Q : β → Hp → Prop}
    (e : ∀ ds s h, ds.length = xs.length → f ds s h = (m s h).bind fun d h => g (ds ++ d) s h)
    (q : tes K ca W Rel f xs σ H Q) : tas K ca W m σ H fun x H1 => tes K ca W Rel g (xs ++ x) σ H1 Q := by
  obtain ⟨M, r, hp, sd, ds, h1, h2, h3, h4⟩ := q
  refine ⟨M, r, hp, sd, [], h1, h2, (by simp only [Reps]), ?_⟩
  rw [e _ _ _ h3.length.symm] at h4
  show Post K ca W (Reps K) σ _ (m sd hp) _
  cases q : m sd hp with
  | ok d h =>
    rw [q] at h4
    intro c' x s sr rx
    exact ⟨c'.M, c'.r, h, sd, ds ++ d, sr, h2.step h1.inM s, (h3.step h1.inM s).append rx, Post.step s h4⟩
  | exc e h =>
    rw [q] at h4
    exact h4
  | bad =>
    rw [q] at h4
    exact h4
theorem tes_mono {f : List D → Sl → AH → R α} {xs : List V} {Q Q' : β → Hp → Prop} (q : tes K ca W Rel f xs σ H Q) (h : ∀ y H, Q y H → Q' y H) : tes K ca W Rel f xs σ H Q' := by
  obtain ⟨M, r, hp, sd, ds, h1, h2, h3, h4⟩ := q
  exact ⟨M, r, hp, sd, ds, h1, h2, h3, h4.mono h⟩
end

theorem PE.imp {X : Cx} {e : Expr} {t t' : TE} (h : PE X e t) (i : ∀ σ H Q, t' σ H Q → t σ H Q) : PE X e t' := ⟨fun pins s σ H Q I q => h.run pins s σ H Q I (i _ _ _ q)⟩
theorem PT.imp {X : Cx} {e : Expr} {t t' : TT} (h : PT X e t) (i : ∀ σ H Q, t' σ H Q → t σ H Q) : PT X e t' := ⟨fun pins s σ H Q I q => h.run pins s σ H Q I (i _ _ _ q)⟩
theorem PA.imp {X : Cx} {e : List Expr} {t t' : TA} (h : PA X e t) (i : ∀ σ H Q, t' σ H Q → t σ H Q) : PA X e t' := ⟨fun pos pins s σ H Q I q => h.run pos pins s σ H Q I (i _ _ _ q)⟩
theorem PS.imp {X : Cx} {e : Stmt} {t t' : TS} (h : PS X e t) (i : ∀ D σ H, t' D σ H → t D σ H) : PS X e t' := ⟨fun pins s σ H D I q => h.run pins s σ H D I (i _ _ _ q)⟩
theorem PSs.imp {X : Cx} {e : List Stmt} {t t' : TS} (h : PSs X e t) (i : ∀ D σ H, t' D σ H → t D σ H) : PSs X e t' := ⟨fun pins s σ H D I q => h.run pins s σ H D I (i _ _ _ q)⟩
theorem PE.no {X : Cx} {e : Expr} {t' : TE} (i : ∀ σ H Q, ¬ t' σ H Q) : PE X e t' := ⟨fun pins s σ H Q I q => (i _ _ _ q).elim⟩
theorem PT.no {X : Cx} {e : Expr} {t' : TT} (i : ∀ σ H Q, ¬ t' σ H Q) : PT X e t' := ⟨fun pins s σ H Q I q => (i _ _ _ q).elim⟩
theorem PS.no {X : Cx} {e : Stmt} {t' : TS} (i : ∀ D σ H, ¬ t' D σ H) : PS X e t' := ⟨fun pins s σ H D I q => (i _ _ _ q).elim⟩

section
variable {K : PySem.W.Frag} {ca : CA} {W : WX} {σ : L2.St} {H : Hp}
theorem te_bad {F : FC} {Q : VK} : ¬ te K ca W (ev F .bad) σ H Q := fun ⟨_, _, _, _, _, _, _, _, h⟩ => h
theorem tt_bad {F : FC} {Q : Bool → Hp → Prop} : ¬ tt K ca W (ev F .bad) σ H Q := fun ⟨_, _, _, _, _, _, _, _, h⟩ => h
theorem tst_bad {F : FC} {Dn : Ends} : ¬ tst K ca W (evS F .bad) Dn σ H := fun ⟨_, _, _, _, _, _, h⟩ => h
end

/-! ## 7. how new things come: a tuple, a frozen list, a list that will be changed -/
section
variable {K : PySem.W.Frag} {ca : CA} {M : Addr → Prop} {r : List Addr} {H : Hp} {hp : AH}
theorem not_new {p : Addr} (h : SR K ca ⟨M, r, H⟩ hp) (hn : H p = none) : ¬ M p := fun m => h.alloc p m hn
theorem step_new {p : Addr} {o : HO} (hn : H p = none) : Step ⟨M, r, H⟩ ⟨M, r, upd H p o⟩ where
  pre := fun _ _ h => h
  mono := fun _ h => h
  fresh := fun _ h => .inl h
  newr := fun n a h l => by
    have z : n < r.length := (List.getElem?_eq_some_iff.mp h).1
    exact absurd z (Nat.not_lt.mpr l)
  keep := fun a u h _ => by
    show upd H p o a = some u
    rw [upd_ne (ne_of_none h hn)]; exact h
  dom := fun a h => by
    show upd H p o a ≠ none
    unfold upd
    split
    · simp
    · exact h
theorem sr_of {c c' : Cf} (h : SR K ca c hp) (s : Step c c') (hr : c'.r = c.r) (hM : ∀ a, c'.M a → c.M a) (hk : ∀ a ∈ c.r, c'.H a = c.H a) : SR K ca c' hp where
  len := by rw [hr]; exact h.len
  nd := by rw [hr]; exact h.nd
  inM := fun a m => s.mono a (h.inM a (by rw [← hr]; exact m))
  alloc := fun a m => s.dom a (h.alloc a (hM a m))
  objs := fun i a o e1 e2 => by
    rw [hr] at e1
    have q := h.objs i a o e1 e2
    have hk := hk a (List.mem_of_getElem? e1)
    cases o with
    | lst ds =>
      obtain ⟨xs, e, rr⟩ := q
      exact ⟨xs, by rw [hk]; exact e, rr.step h.inM s⟩
    | ins n fs =>
      obtain ⟨C, dx, gs, e0, e, rr⟩ := q
      exact ⟨C, dx, gs, e0, by rw [hk]; exact e, Paired.mapP rr fun a b z => ⟨z.1, z.2.step h.inM s⟩⟩
    | dead => trivial
theorem sr_new {p : Addr} {o : HO} (h : SR K ca ⟨M, r, H⟩ hp) (hn : H p = none) : SR K ca ⟨M, r, upd H p o⟩ hp :=
  sr_of h (step_new hn) rfl (fun _ m => m) fun a m => upd_ne fun z => by
    subst z
    exact h.alloc a (h.inM a m) hn
/-- a new list that will be changed -/
theorem step_mu {p : Addr} {o : HO} (hn : H p = none) : Step ⟨M, r, H⟩ ⟨fun a => M a ∨ a = p, r ++ [p], upd H p o⟩ where
  pre := fun n a h => by
    show (r ++ [p])[n]? = some a
    have := (List.getElem?_eq_some_iff.mp h).1
    rw [List.getElem?_append_left this]; exact h
  mono := fun _ h => .inl h
  fresh := fun a h => by
    rcases h with h | h
    · exact .inl h
    · subst h; exact .inr hn
  newr := fun n a h l => by
    have h' : (r ++ [p])[n]? = some a := h
    rw [List.getElem?_append_right l] at h'
    have := (List.getElem?_eq_some_iff.mp h').1
    have e : n - r.length = 0 := by simp at this; omega
    rw [e] at h'
    simp at h'
    subst h'; exact hn
  keep := fun a u h _ => by
    show upd H p o a = some u
    rw [upd_ne (ne_of_none h hn)]; exact h
  dom := fun a h => by
    show upd H p o a ≠ none
    unfold upd
    split
    · simp
    · exact h
theorem sr_mu {p : Addr} {ds : List D} {xs : List V} (h : SR K ca ⟨M, r, H⟩ hp) (hn : H p = none) (hx : Reps K ⟨M, r, H⟩ ds xs) : SR K ca ⟨fun a => M a ∨ a = p, r ++ [p], upd H p (.lst xs)⟩ (hp ++ [.lst ds]) := by
  have st := step_mu (M := M) (r := r) (o := .lst xs) hn
  have pnr : p ∉ r := fun m => h.alloc p (h.inM p m) hn
  refine ⟨by simp [h.len], ?_, ?_, ?_, ?_⟩
  · show (r ++ [p]).Nodup
    rw [List.nodup_append]
    refine ⟨h.nd, by simp, ?_⟩
    intro a ha b hb
    simp at hb
    subst hb
    intro z; subst z; exact pnr ha
  · intro a m
    rcases List.mem_append.mp m with m | m
    · exact .inl (h.inM a m)
    · simp at m; exact .inr m
  · intro a m
    rcases m with m | m
    · exact st.dom a (h.alloc a m)
    · subst m
      show upd H a _ a ≠ none
      rw [upd_same]; simp
  · intro i a o e1 e2
    have e1' : (r ++ [p])[i]? = some a := e1
    have hl := h.len
    have hl' : r.length = hp.length := hl
    by_cases hi : i < r.length
    · rw [List.getElem?_append_left hi] at e1'
      rw [List.getElem?_append_left (by omega)] at e2
      have q := h.objs i a o e1' e2
      have hk : upd H p (.lst xs) a = H a := upd_ne fun z => by subst z; exact pnr (List.mem_of_getElem? e1')
      cases o with
      | lst ds' =>
        obtain ⟨ys, e, rr⟩ := q
        exact ⟨ys, by show upd H p (.lst xs) a = _; rw [hk]; exact e, rr.step h.inM st⟩
      | ins n fs =>
        obtain ⟨C, dx, gs, e0, e, rr⟩ := q
        exact ⟨C, dx, gs, e0, by show upd H p (.lst xs) a = _; rw [hk]; exact e, Paired.mapP rr fun a b z => ⟨z.1, z.2.step h.inM st⟩⟩
      | dead => trivial
    · rw [List.getElem?_append_right (by omega)] at e1'
      rw [List.getElem?_append_right (by omega)] at e2
      have hi0 := (List.getElem?_eq_some_iff.mp e2).1
      have z : i - hp.length = 0 := by simp at hi0; omega
      have z' : i - r.length = 0 := by omega
      rw [z] at e2; rw [z'] at e1'
      simp at e1' e2
      subst e1' e2
      exact ⟨xs, upd_same, hx.step h.inM st⟩
end
/-- a frozen or a changing list, just made at any free place -/
theorem mk_list {K : PySem.W.Frag} {ca : CA} {W : WX} {σ : L2.St} {M : Addr → Prop} {r : List Addr} {H : Hp} {hp : AH} {mu : Bool} {ds : List D} {xs : List V} {Q : VK}
    (h : SR K ca ⟨M, r, H⟩ hp) (hx : Reps K ⟨M, r, H⟩ ds xs) (q : Post K ca W (Rep K) σ ⟨M, r, H⟩ (mkL mu (.lst ds) hp) Q) (p : Addr) (hn : H p = none) : Q (.ref p) (upd H p (.lst xs)) := by
  cases mu with
  | false =>
    refine q ⟨M, r, upd H p (.lst xs)⟩ (.ref p) (step_new hn) (sr_new h hn) ?_
    simp only [Rep]
    exact ⟨p, xs, rfl, not_new h hn, upd_same, hx.step h.inM (step_new hn)⟩
  | true =>
    refine q ⟨fun a => M a ∨ a = p, r ++ [p], upd H p (.lst xs)⟩ (.ref p) (step_mu hn) (sr_mu h hn hx) ?_
    simp only [Rep]
    have hl : r.length = hp.length := h.len
    exact ⟨p, rfl, by rw [← hl]; simp⟩
theorem mk_tup {K : PySem.W.Frag} {ca : CA} {W : WX} {σ : L2.St} {M : Addr → Prop} {r : List Addr} {H : Hp} {hp : AH} {ds : List D} {xs : List V} {Q : VK}
    (h : SR K ca ⟨M, r, H⟩ hp) (hx : Reps K ⟨M, r, H⟩ ds xs) (q : Post K ca W (Rep K) σ ⟨M, r, H⟩ (.ok (.tup ds) hp) Q) (p : Addr) (hn : H p = none) : Q (.ref p) (upd H p (.tup xs)) := by
  refine q ⟨M, r, upd H p (.tup xs)⟩ (.ref p) (step_new hn) (sr_new h hn) ?_
  simp only [Rep]
  exact ⟨p, xs, rfl, .inl ⟨not_new h hn, upd_same⟩, hx.step h.inM (step_new hn)⟩
end DI
set_option Elab.async false
set_option linter.all false
set_option maxRecDepth 100000
namespace DI
open PySem PySem.Spec PyProof.Rows L2

/-! ## 8. operations -/
section
variable {K : PySem.W.Frag} {ca : CA} {c : Cf} {hp : AH}
theorem asL_rep {d : D} {v : V} {ds : List D} (h : SR K ca c hp) (r : Rep K c d v) (e : asL hp d = some ds) : ∃ a xs, v = .ref a ∧ c.H a = some (.lst xs) ∧ Reps K c ds xs := by
  cases d with
  | lst es =>
    simp only [asL, Option.some.injEq] at e
    subst e
    simp only [Rep] at r
    obtain ⟨a, xs, e, n, q, r⟩ := r
    exact ⟨a, xs, e, q, r⟩
  | ref n =>
    simp only [asL] at e
    simp only [Rep] at r
    obtain ⟨a, ev, ra⟩ := r
    cases q : hp[n]? with
    | none => rw [q] at e; cases e
    | some o =>
      rw [q] at e
      cases o with
      | lst es =>
        cases e
        obtain ⟨xs, e1, e2⟩ := h.objs n a _ ra q
        exact ⟨a, xs, ev, e1, e2⟩
      | ins _ _ => cases e
      | dead => cases e
  | _ => simp only [asL] at e; cases e
theorem SqL.of' {K : PySem.W.Frag} {H : Hp} {a : Addr} {xs : List V} (h : H a = some (.lst xs)) : SqL K H a xs := .inl (.inl h)

/-! data -/
mutual
def toP : D → PyData
  | .non => .none
  | .bl b => .bool b
  | .int i => .int i
  | .str x => .str (mkS x)
  | .tup ds => .tuple (toPs ds)
  | .lst ds => .list (toPs ds)
  | .scr _ => .none
  | .ref _ => .none
def toPs : List D → List PyData
  | [] => []
  | d :: ds => toP d :: toPs ds
end
mutual
theorem Rep.dp : ∀ (d : D) (v : V), d.dat = true → Rep K c d v → Dp K c.H v (toP d) ∧ (toP d).canLay0 = true
  | .non, v, _, h => by simp only [Rep] at h; subst h; exact ⟨.non, rfl⟩
  | .bl b, v, _, h => by simp only [Rep] at h; subst h; exact ⟨.bl b, rfl⟩
  | .int i, v, _, h => by simp only [Rep] at h; subst h; exact ⟨.int i, rfl⟩
  | .str x, v, _, h => by
    simp only [Rep] at h
    obtain ⟨h1, _, rfl⟩ := h
    exact ⟨.str _, by simp only [toP, PyData.canLay0]; exact h1⟩
  | .tup ds, v, hd, h => by
    simp only [Rep] at h
    obtain ⟨a, xs, rfl, t, q⟩ := h
    simp only [D.dat] at hd
    have z := Reps.dp ds xs hd q
    exact ⟨.tup t.sq z.1, by simp only [toP, PyData.canLay0]; exact z.2⟩
  | .lst ds, v, hd, h => by
    simp only [Rep] at h
    obtain ⟨a, xs, rfl, _, t, q⟩ := h
    simp only [D.dat] at hd
    have z := Reps.dp ds xs hd q
    exact ⟨.lst (.of t) z.1, by simp only [toP, PyData.canLay0]; exact z.2⟩
  | .scr _, _, hd, _ => by simp [D.dat] at hd
  | .ref _, _, hd, _ => by simp [D.dat] at hd
theorem Reps.dp : ∀ (ds : List D) (xs : List V), dats ds = true → Reps K c ds xs → DpAll K c.H xs (toPs ds) ∧ PyData.canLayAll0 (toPs ds) = true
  | [], xs, _, h => by simp only [Reps] at h; subst h; exact ⟨.nil, rfl⟩
  | d :: ds, xs, hd, h => by
    simp only [Reps] at h
    obtain ⟨x, r, rfl, h1, h2⟩ := h
    simp only [dats, Bool.and_eq_true] at hd
    have z1 := Rep.dp d x hd.1 h1
    have z2 := Reps.dp ds r hd.2 h2
    exact ⟨.cons z1.1 z2.1, by simp only [toPs, PyData.canLayAll0, z1.2, z2.2, Bool.and_self]⟩
end
theorem mkS_inj {x y : List Nat} : (mkS x == mkS y) = (x == y) := by
  by_cases h : x = y
  · subst h; simp
  · have : mkS x ≠ mkS y := fun z => h (by
      have := congrArg (fun s : Str => s.cps.toList) z
      simpa [mkS] using this)
    rw [beq_eq_false_iff_ne.mpr h, beq_eq_false_iff_ne.mpr this]
mutual
theorem eqv_toP : ∀ (d e : D), d.dat = true → e.dat = true → PyData.eqv (toP d) (toP e) = eqv d e
  | .non, e, _, h => by cases e <;> simp_all [toP, PyData.eqv, eqv, D.dat]
  | .bl b, e, _, h => by cases e <;> simp_all [toP, PyData.eqv, eqv, D.dat]
  | .int i, e, _, h => by cases e <;> simp_all [toP, PyData.eqv, eqv, D.dat]
  | .str x, e, _, h => by cases e <;> simp_all [toP, PyData.eqv, eqv, D.dat, mkS_inj]
  | .lst ds, e, h1, h2 => by
    cases e with
    | lst es =>
      simp only [D.dat] at h1 h2
      simp only [toP, PyData.eqv, eqv]
      exact eqvs_toP ds es h1 h2
    | _ => simp_all [toP, PyData.eqv, eqv, D.dat]
  | .tup ds, e, h1, h2 => by
    cases e with
    | tup es =>
      simp only [D.dat] at h1 h2
      simp only [toP, PyData.eqv, eqv]
      exact eqvs_toP ds es h1 h2
    | _ => simp_all [toP, PyData.eqv, eqv, D.dat]
  | .scr _, _, h, _ => by simp [D.dat] at h
  | .ref _, _, h, _ => by simp [D.dat] at h
theorem eqvs_toP : ∀ (ds es : List D), dats ds = true → dats es = true → PyData.eqvAll (toPs ds) (toPs es) = eqvs ds es
  | [], es, _, _ => by cases es <;> simp [toPs, PyData.eqvAll, eqvs]
  | d :: ds, es, h1, h2 => by
    cases es with
    | nil => simp [toPs, PyData.eqvAll, eqvs]
    | cons e es =>
      simp only [dats, Bool.and_eq_true] at h1 h2
      simp only [toPs, PyData.eqvAll, eqvs, eqv_toP d e h1.1 h2.1, eqvs_toP ds es h1.2 h2.2]
end
mutual
theorem dep_toP : ∀ d : D, (toP d).depth = d.dep
  | .non | .bl _ | .int _ | .str _ | .scr _ | .ref _ => by simp only [toP, PyData.depth, D.dep]
  | .tup ds => by simp only [toP, PyData.depth, D.dep, deps_toPs ds]
  | .lst ds => by simp only [toP, PyData.depth, D.dep, deps_toPs ds]
theorem deps_toPs : ∀ ds : List D, PyData.depthAll (toPs ds) = deps ds
  | [] => rfl
  | d :: ds => by simp only [toPs, PyData.depthAll, deps, dep_toP d, deps_toPs ds]
end
/-- what a value is now, as a value that stands as it is for the moment -/
theorem now_dp {d : D} {v : V} (h : SR K ca c hp) (r : Rep K c d v) (hd : (now hp d).dat = true) : Dp K c.H v (toP (now hp d)) ∧ (toP (now hp d)).canLay0 = true := by
  unfold now at hd ⊢
  cases d with
  | ref n =>
    simp only at hd ⊢
    cases q : hp[n]? with
    | none => rw [q] at hd; simp [D.dat] at hd
    | some o =>
      rw [q] at hd
      cases o with
      | lst es =>
        simp only at hd ⊢
        simp only [Rep] at r
        obtain ⟨a, rfl, ra⟩ := r
        obtain ⟨xs, e1, e2⟩ := h.objs n a _ ra q
        simp only [D.dat] at hd
        have z := Reps.dp es xs hd e2
        exact ⟨.lst (.of e1) z.1, by simp only [toP, PyData.canLay0]; exact z.2⟩
      | ins _ _ => simp [D.dat] at hd
      | dead => simp [D.dat] at hd
  | _ => exact Rep.dp _ _ hd r
end

section
variable {X : Cx} {ca : CA}
theorem op_eqP (hu : X.A.units + 200 < cLine) : OpR X (compareOp .Eq) (fun x y H Q => ∃ d e, Dp X.K H x d ∧ Dp X.K H y e ∧ d.canLay0 = true ∧ e.canLay0 = true ∧ min d.depth e.depth ≤ 100 ∧ Q (.bl (PyData.eqv d e)) H) := by
  intro pins s σ H x y v u Q I rx ry h
  obtain ⟨d, e, hd, he, sd, se, l, q⟩ := h
  obtain ⟨as, r1⟩ := Dp.reads I d x v hd rx
  obtain ⟨bs, r2⟩ := Dp.reads I e y u he ry
  exact SeqAt.compareEq_reads r1 r2 sd se (by omega) ⟨.bl _, H, I, rfl, q⟩
theorem op_neP (hu : X.A.units + 200 < cLine) : OpR X (compareOp .NotEq) (fun x y H Q => ∃ d e, Dp X.K H x d ∧ Dp X.K H y e ∧ d.canLay0 = true ∧ e.canLay0 = true ∧ min d.depth e.depth ≤ 100 ∧ Q (.bl (!PyData.eqv d e)) H) := by
  intro pins s σ H x y v u Q I rx ry h
  obtain ⟨d, e, hd, he, sd, se, l, q⟩ := h
  obtain ⟨as, r1⟩ := Dp.reads I d x v hd rx
  obtain ⟨bs, r2⟩ := Dp.reads I e y u he ry
  exact SeqAt.compareNe_reads r1 r2 sd se (by omega) ⟨.bl _, H, I, rfl, q⟩

/-- two plain values, an operation that raises nothing -/
def r2 (K : PySem.W.Frag) (ca : CA) (f : AH → D → D → R D) : R2 := fun x y H Q =>
  ∃ (W : WX) (σ : L2.St) (M : Addr → Prop) (r : List Addr) (hp : AH) (a b : D), SR K ca ⟨M, r, H⟩ hp ∧ Rep K ⟨M, r, H⟩ a x ∧ Rep K ⟨M, r, H⟩ b y ∧ Post K ca W (Rep K) σ ⟨M, r, H⟩ (f hp a b) Q
def r1 (K : PySem.W.Frag) (ca : CA) (f : AH → D → R D) : V → Hp → VK → Prop := fun x H Q =>
  ∃ (W : WX) (σ : L2.St) (M : Addr → Prop) (r : List Addr) (hp : AH) (a : D), SR K ca ⟨M, r, H⟩ hp ∧ Rep K ⟨M, r, H⟩ a x ∧ Post K ca W (Rep K) σ ⟨M, r, H⟩ (f hp a) Q
def rn (K : PySem.W.Frag) (ca : CA) (f : AH → List D → R D) : List V → Hp → VK → Prop := fun xs H Q =>
  ∃ (W : WX) (σ : L2.St) (M : Addr → Prop) (r : List Addr) (hp : AH) (ds : List D), SR K ca ⟨M, r, H⟩ hp ∧ Reps K ⟨M, r, H⟩ ds xs ∧ Post K ca W (Rep K) σ ⟨M, r, H⟩ (f hp ds) Q

theorem Post.now {K : PySem.W.Frag} {W : WX} {σ : L2.St} {M : Addr → Prop} {r : List Addr} {H : Hp} {hp : AH} {d : D} {v : V} {Q : VK} (h : SR K ca ⟨M, r, H⟩ hp) (q : Post K ca W (Rep K) σ ⟨M, r, H⟩ (.ok d hp) Q) (rv : Rep K ⟨M, r, H⟩ d v) : Q v H :=
  q ⟨M, r, H⟩ v (Step.refl _) h rv
theorem Post.opt {K : PySem.W.Frag} {W : WX} {α β : Type} {Rel : Cf → α → β → Prop} {σ : L2.St} {c : Cf} {o : Option α} {h : AH} {Q : β → Hp → Prop} (q : Post K ca W Rel σ c (R.opt o h) Q) : ∃ x, o = some x ∧ Post K ca W Rel σ c (.ok x h) Q := by
  cases o with
  | none => exact q.elim
  | some x => exact ⟨x, rfl, q⟩
theorem Post.optb {K : PySem.W.Frag} {W : WX} {α β γ : Type} {Rel : Cf → γ → β → Prop} {σ : L2.St} {c : Cf} {o : Option α} {h : AH} {f : α → AH → R γ} {Q : β → Hp → Prop} (q : Post K ca W Rel σ c ((R.opt o h).bind f) Q) : ∃ x, o = some x ∧ Post K ca W Rel σ c (f x h) Q := by
  cases o with
  | none => exact q.elim
  | some x => exact ⟨x, rfl, q⟩
theorem rep_int {K : PySem.W.Frag} {c : Cf} {i : Int} : Rep K c (.int i) (.int i) := by simp only [Rep]
theorem rep_bl {K : PySem.W.Frag} {c : Cf} {i : Bool} : Rep K c (.bl i) (.bl i) := by simp only [Rep]
theorem rep_non {K : PySem.W.Frag} {c : Cf} : Rep K c .non .non := by simp only [Rep]
theorem int_of {K : PySem.W.Frag} {c : Cf} {i : Int} {v : V} (h : Rep K c (.int i) v) : v = .int i := by simpa only [Rep] using h
theorem bl_of {K : PySem.W.Frag} {c : Cf} {i : Bool} {v : V} (h : Rep K c (.bl i) v) : v = .bl i := by simpa only [Rep] using h
theorem str_of {K : PySem.W.Frag} {c : Cf} {x : List Nat} {v : V} (h : Rep K c (.str x) v) : PyData.strOk (mkS x) = true ∧ x.length ≤ sizeLine ∧ v = .str (mkS x) := by simpa only [Rep] using h
theorem sz_eq : sizeLine = 16777216 := sizeLine_eq
theorem mkS_append {x y : List Nat} : mkS x ++ mkS y = mkS (x ++ y) := by
  show Str.append _ _ = _
  simp [Str.append, mkS]
theorem strOk_append {x y : List Nat} (h1 : PyData.strOk (mkS x) = true) (h2 : PyData.strOk (mkS y) = true) : PyData.strOk (mkS (x ++ y)) = true := by
  simp only [PyData.strOk, mkS] at h1 h2 ⊢
  simp at h1 h2 ⊢
  exact ⟨h1, h2⟩
theorem mkS_length {x : List Nat} : (mkS x).length = x.length := by simp [Str.length, mkS]

/-- f as it stands, then a list frozen or not -/
def thenMk (mu : Bool) (f : AH → D → D → Option D) : AH → D → D → R D := fun h a b => (R.opt (f h a b) h).bind fun d h => mkL mu d h
theorem mkL_plain {K : PySem.W.Frag} {W : WX} {σ : L2.St} {M : Addr → Prop} {r : List Addr} {H : Hp} {hp : AH} {mu : Bool} {d : D} {v : V} {Q : VK} (h : SR K ca ⟨M, r, H⟩ hp) (q : Post K ca W (Rep K) σ ⟨M, r, H⟩ (mkL mu d hp) Q) (nl : ∀ ds, d ≠ .lst ds) (rv : Rep K ⟨M, r, H⟩ d v) : Q v H := by
  cases mu with
  | false => exact Post.now h q rv
  | true => cases d <;> first | exact q.elim | exact absurd rfl (nl _)

theorem opAdd {mu : Bool} : OpR X (binaryOp .Add) (r2 X.K ca (thenMk mu addD)) := by
  intro pins s σ H x y v u Q I rx ry h
  obtain ⟨W, σ', M, r, hp, a, b, sr, ra, rb, q⟩ := h
  obtain ⟨d, e, q⟩ := q.optb
  unfold addD at e
  split at e
  · cases e
    rw [int_of ra] at rx; rw [int_of rb] at ry
    exact op_add pins s σ H _ _ v u Q I rx ry ⟨_, _, rfl, rfl, mkL_plain sr q (fun _ z => by cases z) rep_int⟩
  · rename_i x y
    split at e
    · rename_i hl
      cases e
      obtain ⟨a1, a2, a3⟩ := str_of ra
      obtain ⟨b1, b2, b3⟩ := str_of rb
      subst a3 b3
      refine op_add_str pins s σ H _ _ v u Q I rx ry ⟨_, _, rfl, rfl, ?_, ?_⟩
      · rw [mkS_length, mkS_length, sz_eq]; exact hl
      · rw [mkS_append]
        refine mkL_plain sr q (fun _ z => by cases z) ?_
        simp only [Rep]
        exact ⟨strOk_append a1 b1, by rw [List.length_append, sz_eq]; exact hl, trivial⟩
    · cases e
  · rename_i x y
    split at e
    · rename_i hl
      cases e
      simp only [Rep] at ra rb
      obtain ⟨p, xs, rfl, t1, r1⟩ := ra
      obtain ⟨p', ys, rfl, t2, r2⟩ := rb
      have l1 := r1.length
      have l2 := r2.length
      have fin : ∀ p'', H p'' = none → Q (.ref p'') (upd H p'' (.tup (xs ++ ys))) := fun p'' hn => by
        refine mk_tup (W := W) (σ := σ') (r := r) sr (r1.append r2) ?_ p'' hn
        cases mu with
        | false => exact q
        | true => exact q.elim
      have nomu : Post X.K ca W (Rep X.K) σ' ⟨M, r, H⟩ (.ok (.tup (x ++ y)) hp) Q := by
        cases mu with
        | false => exact q
        | true => exact q.elim
      refine op_catA pins s σ H _ _ v u Q I rx ry ⟨p, p', xs, ys, rfl, rfl, t1.sq, t2.sq, by rw [l1, l2, sz_eq]; exact hl, ?_, ?_, fun _ _ => fin⟩
      · intro z
        subst z
        refine Post.now sr nomu ?_
        simp only [Rep]
        exact ⟨p', ys, rfl, t2, by simpa using r1.append r2⟩
      · intro _ z
        subst z
        refine Post.now sr nomu ?_
        simp only [Rep]
        exact ⟨p, xs, rfl, t1, by simpa using r1.append r2⟩
    · cases e
  · split at e
    · rename_i a' b' e1 e2
      split at e
      · rename_i hl
        cases e
        obtain ⟨p, xs, rfl, t1, r1⟩ := asL_rep sr ra e1
        obtain ⟨p', ys, rfl, t2, r2⟩ := asL_rep sr rb e2
        have l1 := r1.length
        have l2 := r2.length
        exact op_cat pins s σ H _ _ v u Q I rx ry ⟨p, p', xs, ys, rfl, rfl, t1, t2, by rw [l1, l2, sz_eq]; exact hl, fun p'' hn => mk_list (W := W) (σ := σ') (r := r) sr (r1.append r2) q p'' hn⟩
      · cases e
    · cases e

theorem opInt {op : Operator} {g : D → D → Option D} {mu : Bool} {C : Int → Int → Prop} {gi : Int → Int → Int} (rule : OpR X (binaryOp op) (rI C fun i j => .int (gi i j)))
    (hg : ∀ a b d, g a b = some d → ∃ i j, a = .int i ∧ b = .int j ∧ C i j ∧ d = .int (gi i j)) : OpR X (binaryOp op) (r2 X.K ca (thenMk mu fun _ => g)) := by
  intro pins s σ H x y v u Q I rx ry h
  obtain ⟨W, σ', M, r, hp, a, b, sr, ra, rb, q⟩ := h
  obtain ⟨d, e, q⟩ := q.optb
  obtain ⟨i, j, rfl, rfl, hc, rfl⟩ := hg _ _ _ e
  rw [int_of ra] at rx; rw [int_of rb] at ry
  exact rule pins s σ H _ _ v u Q I rx ry ⟨_, _, rfl, rfl, hc, mkL_plain sr q (fun _ z => by cases z) rep_int⟩
theorem op_sub' : OpR X (binaryOp .Sub) (rI (fun _ _ => True) fun i j => .int (i - j)) := by
  intro pins s σ H x y v u Q I rx ry h
  obtain ⟨i, j, e1, e2, _, q⟩ := h
  exact op_sub pins s σ H x y v u Q I rx ry ⟨i, j, e1, e2, q⟩
theorem opBin {op : Operator} {mu : Bool} : OpR X (binaryOp op) (r2 X.K ca (thenMk mu (binop op))) := by
  cases op
  case Add => exact opAdd
  case Sub =>
    refine opInt (g := subD) op_sub' fun a b d e => ?_
    unfold subD at e; split at e
    · cases e; exact ⟨_, _, rfl, rfl, trivial, rfl⟩
    · cases e
  case Mult =>
    refine opInt (g := mulD) op_mul fun a b d e => ?_
    unfold mulD at e; split at e
    · split at e
      · rename_i h; cases e; exact ⟨_, _, rfl, rfl, h, rfl⟩
      · cases e
    · cases e
  case FloorDiv =>
    refine opInt (g := divD) op_fdivW fun a b d e => ?_
    unfold divD at e; split at e
    · split at e
      · rename_i h; cases e; exact ⟨_, _, rfl, rfl, wide_div (b := 64) h.1 (by omega) (by decide) (by decide), rfl⟩
      · cases e
    · cases e
  case Mod =>
    refine opInt (g := modD) op_mod fun a b d e => ?_
    unfold modD at e; split at e
    · split at e
      · rename_i h; cases e; exact ⟨_, _, rfl, rfl, h, rfl⟩
      · cases e
    · cases e
  case Pow =>
    refine opInt (g := powD) op_pow fun a b d e => ?_
    unfold powD at e; split at e
    · split at e
      · rename_i h; cases e; exact ⟨_, _, rfl, rfl, h, rfl⟩
      · cases e
    · cases e
  all_goals
    intro pins s σ H x y v u Q I rx ry h
    obtain ⟨W, σ', M, r, hp, a, b, sr, ra, rb, q⟩ := h
    exact q.elim

theorem opOrd {op : CmpOp} {f : Int → Int → Bool} (rule : OpR X (compareOp op) (rI0 fun i j => .bl (f i j))) : OpR X (compareOp op) (r2 X.K ca fun h a b => R.opt (ints2 f a b) h) := by
  intro pins s σ H x y v u Q I rx ry h
  obtain ⟨W, σ', M, r, hp, a, b, sr, ra, rb, q⟩ := h
  obtain ⟨d, e, q⟩ := q.opt
  unfold ints2 at e
  split at e
  · cases e
    rw [int_of ra] at rx; rw [int_of rb] at ry
    exact rule pins s σ H _ _ v u Q I rx ry ⟨_, _, rfl, rfl, Post.now sr q rep_bl⟩
  · cases e
theorem eqD_out {K : PySem.W.Frag} {c : Cf} {hp : AH} {a b : D} {x y : V} {t : Bool} (sr : SR K ca c hp) (ra : Rep K c a x) (rb : Rep K c b y) (e : eqD hp a b = some t) :
    ∃ d e, Dp K c.H x d ∧ Dp K c.H y e ∧ d.canLay0 = true ∧ e.canLay0 = true ∧ min d.depth e.depth ≤ 100 ∧ PyData.eqv d e = t := by
  unfold eqD at e
  split at e
  · rename_i h
    cases e
    simp only [Bool.and_eq_true, Bool.or_eq_true, decide_eq_true_eq] at h
    obtain ⟨⟨h1, h2⟩, h3⟩ := h
    have z1 := now_dp sr ra h1
    have z2 := now_dp sr rb h2
    refine ⟨_, _, z1.1, z2.1, z1.2, z2.2, ?_, eqv_toP _ _ h1 h2⟩
    rw [dep_toP, dep_toP]
    omega
  · cases e
theorem opCmp (hu : X.A.units + 200 < cLine) {op : CmpOp} : OpR X (compareOp op) (r2 X.K ca fun h a b => R.opt (cmpop op h a b) h) := by
  cases op
  case Lt => exact opOrd op_lt
  case LtE => exact opOrd op_le
  case Gt => exact opOrd op_gt
  case GtE => exact opOrd op_ge
  case Eq =>
    intro pins s σ H x y v u Q I rx ry h
    obtain ⟨W, σ', M, r, hp, a, b, sr, ra, rb, q⟩ := h
    obtain ⟨d, e, q⟩ := q.opt
    obtain ⟨t, e', rfl⟩ := Option.map_eq_some_iff.mp e
    obtain ⟨p1, p2, h1, h2, h3, h4, h5, rfl⟩ := eqD_out sr ra rb e'
    exact op_eqP hu pins s σ H _ _ v u Q I rx ry ⟨p1, p2, h1, h2, h3, h4, h5, Post.now sr q rep_bl⟩
  case NotEq =>
    intro pins s σ H x y v u Q I rx ry h
    obtain ⟨W, σ', M, r, hp, a, b, sr, ra, rb, q⟩ := h
    obtain ⟨d, e, q⟩ := q.opt
    obtain ⟨t, e', rfl⟩ := Option.map_eq_some_iff.mp e
    obtain ⟨p1, p2, h1, h2, h3, h4, h5, rfl⟩ := eqD_out sr ra rb e'
    exact op_neP hu pins s σ H _ _ v u Q I rx ry ⟨p1, p2, h1, h2, h3, h4, h5, Post.now sr q rep_bl⟩
  all_goals
    intro pins s σ H x y v u Q I rx ry h
    obtain ⟨W, σ', M, r, hp, a, b, sr, ra, rb, q⟩ := h
    exact q.elim
end
end DI
set_option Elab.async false
set_option linter.all false
set_option maxRecDepth 100000
namespace DI
open PySem PySem.Spec PyProof.Rows L2
section
variable {X : Cx} {ca : CA}
/-! truth -/
theorem TupAt.nonempty {K : PySem.W.Frag} {c : Cf} {ds : List D} {xs : List V} (r : Reps K c ds xs) : (!ds.isEmpty) = !xs.isEmpty := by
  have := r.length
  cases ds <;> cases xs <;> simp_all
theorem truth_out {K : PySem.W.Frag} {c : Cf} {hp : AH} {d : D} {v : V} {k : Bool} (sr : SR K ca c hp) (r : Rep K c d v) (e : truth hp d = some k) : TruV K v c.H k := by
  have lst : ∀ d, Rep K c d v → (asL hp d).map (fun ds => !ds.isEmpty) = some k → TruV K v c.H k := fun d r e => by
    obtain ⟨ds, e1, rfl⟩ := Option.map_eq_some_iff.mp e
    obtain ⟨a, xs, rfl, h, rr⟩ := asL_rep sr r e1
    exact .inl ⟨xs, .of h, TupAt.nonempty rr⟩
  cases d with
  | non => simp only [Rep] at r; subst r; cases e; rfl
  | bl b => simp only [Rep] at r; subst r; cases e; rfl
  | int i => simp only [Rep] at r; subst r; cases e; rfl
  | str x =>
    obtain ⟨h1, h2, rfl⟩ := str_of r
    cases e
    refine ⟨by rw [mkS_length]; exact h2, ?_⟩
    rw [mkS_length]
    cases x <;> simp
    omega
  | tup ds =>
    simp only [Rep] at r
    obtain ⟨a, xs, rfl, t, rr⟩ := r
    cases e
    exact .inr (.inl ⟨xs, t.sq, TupAt.nonempty rr⟩)
  | lst ds => exact lst _ r e
  | scr ns => exact lst _ r e
  | ref n => exact lst _ r e
/-- what a test's own reading wants -/
theorem tru_te {K : PySem.W.Frag} {W : WX} {σ : L2.St} {M : Addr → Prop} {r : List Addr} {H : Hp} {hp : AH} {d : D} {v : V} {Q : Bool → Hp → Prop}
    (sr : SR K ca ⟨M, r, H⟩ hp) (rv : Rep K ⟨M, r, H⟩ d v) (q : Post K ca W beq' σ ⟨M, r, H⟩ (R.opt (truth hp d) hp) Q) : ∃ k, TruV K v H k ∧ Q k H := by
  obtain ⟨k, e, q⟩ := q.opt
  exact ⟨k, truth_out sr rv e, q ⟨M, r, H⟩ k (Step.refl _) sr rfl⟩

/-! isinstance -/
def clT : Cl → Value
  | .int => .type "int" | .bool => .type "bool" | .str => .type "str" | .tuple => .type "tuple" | .list => .type "list" | .dict => .type "dict"
  | .own _ => .none
def clV : Cl → V
  | .int => .ty "int" | .bool => .ty "bool" | .str => .ty "str" | .tuple => .ty "tuple" | .list => .ty "list" | .dict => .ty "dict"
  | .own _ => .non
def isOwn : Cl → Bool
  | .own _ => true
  | _ => false
theorem isi_one {K : PySem.W.Frag} {c : Cf} {d : D} {v : V} (r : Rep K c d v) (nr : ∀ n, d ≠ .ref n) (k : Cl) (hk : isOwn k = false) : ∃ t, TyX K c.H v t ∧ PySem.W.kitOne K t (clT k) = some (isCl k d) := by
  cases d with
  | non =>
    simp only [Rep] at r; subst r
    refine ⟨_, .base .non, ?_⟩
    cases k <;> first | (simp [isOwn] at hk; done) | exact kit_ty (by decide +kernel)
  | bl b =>
    simp only [Rep] at r; subst r
    refine ⟨_, .base (.bl _), ?_⟩
    cases k <;> first | (simp [isOwn] at hk; done) | exact kit_ty (by simp only [isCl]; decide +kernel)
  | int i =>
    simp only [Rep] at r; subst r
    refine ⟨_, .base (.int _), ?_⟩
    cases k <;> first | (simp [isOwn] at hk; done) | exact kit_ty (by simp only [isCl]; decide +kernel)
  | str x =>
    obtain ⟨_, _, rfl⟩ := str_of r
    refine ⟨_, .base (.str _), ?_⟩
    cases k <;> first | (simp [isOwn] at hk; done) | exact kit_ty (by simp only [isCl]; decide +kernel)
  | tup ds =>
    simp only [Rep] at r
    obtain ⟨a, xs, rfl, t, rr⟩ := r
    refine ⟨.type "tuple", ?_, ?_⟩
    · rcases t with ⟨_, h⟩ | ⟨o, its, n, h, hc, _⟩
      · exact .base (.tup h)
      · exact .kTuple h hc
    · cases k <;> first | (simp [isOwn] at hk; done) | exact kit_ty (by simp only [isCl]; decide +kernel)
  | lst ds =>
    simp only [Rep] at r
    obtain ⟨a, xs, rfl, _, h, rr⟩ := r
    refine ⟨.type "list", .base (.lst h), ?_⟩
    cases k <;> first | (simp [isOwn] at hk; done) | exact kit_ty (by simp only [isCl]; decide +kernel)
  | scr ns =>
    simp only [Rep] at r
    obtain ⟨a, rfl, t⟩ := r
    refine ⟨.type "list", ?_, ?_⟩
    · rcases t with ⟨_, o, h⟩ | ⟨o, its, n, h, hc, _⟩
      · exact .base (.frz h)
      · exact .kList h hc
    · cases k <;> first | (simp [isOwn] at hk; done) | exact kit_ty (by simp only [isCl]; decide +kernel)
  | ref n => exact absurd rfl (nr n)
/-- the list that stands there, as if frozen -/
theorem now_rep {K : PySem.W.Frag} {c : Cf} {hp : AH} {d : D} {v : V} (sr : SR K ca c hp) (r : Rep K c d v) (nr : ∀ n, now hp d ≠ .ref n) :
    Rep K c (now hp d) v ∨ ∃ ds a xs, now hp d = .lst ds ∧ v = .ref a ∧ c.H a = some (.lst xs) ∧ Reps K c ds xs := by
  cases d with
  | ref n =>
    simp only [now] at nr ⊢
    cases q : hp[n]? with
    | none => rw [q] at nr; exact absurd rfl (nr n)
    | some o =>
      rw [q] at nr
      cases o with
      | lst es =>
        obtain ⟨a, xs, e, h, rr⟩ := asL_rep (d := .ref n) (ds := es) sr r (by simp only [asL, q])
        exact .inr ⟨es, a, xs, rfl, e, h, rr⟩
      | ins _ _ => exact absurd rfl (nr n)
      | dead => exact absurd rfl (nr n)
  | _ => exact .inl r
theorem isi_now {K : PySem.W.Frag} {c : Cf} {hp : AH} {d : D} {v : V} (sr : SR K ca c hp) (r : Rep K c d v) (nr : ∀ n, now hp d ≠ .ref n) (k : Cl) (hk : isOwn k = false) : ∃ t, TyX K c.H v t ∧ PySem.W.kitOne K t (clT k) = some (isCl k (now hp d)) := by
  rcases now_rep sr r nr with r | ⟨ds, a, xs, e, rfl, h, rr⟩
  · exact isi_one r nr k hk
  · refine ⟨.type "list", .base (.lst h), ?_⟩
    rw [e]
    cases k <;> first | (simp [isOwn] at hk; done) | exact kit_ty (by simp only [isCl]; decide +kernel)

/-! subscripts -/
theorem atL_atI {α : Type} {xs : List α} {i : Int} {x : α} (h : atL xs i = some x) : atI xs i = some x := by
  unfold atL at h
  unfold atI ixN
  split at h
  · rename_i h0
    rw [if_pos h0]
    have := (List.getElem?_eq_some_iff.mp h).1
    rw [if_pos (by omega)]
    exact h
  · rename_i h0
    rw [if_neg h0]
    split at h
    · rename_i h1
      rw [if_pos h1]
      exact h
    · cases h
theorem atL_rep {K : PySem.W.Frag} {c : Cf} {ds : List D} {xs : List V} {i : Int} {d : D} (r : Reps K c ds xs) (h : atL ds i = some d) : ∃ x, atI xs i = some x ∧ Rep K c d x := by
  have hl := r.length
  unfold atL at h
  split at h
  · rename_i h0
    obtain ⟨x, e, rr⟩ := r.get h
    exact ⟨x, atL_atI (by unfold atL; rw [if_pos h0]; exact e), rr⟩
  · rename_i h0
    split at h
    · rename_i h1
      obtain ⟨x, e, rr⟩ := r.get h
      exact ⟨x, atL_atI (by unfold atL; rw [if_neg h0, if_pos (by rw [hl]; exact h1), hl]; exact e), rr⟩
    · cases h
theorem opIdx : IxR X (r2 X.K ca fun h a b => R.opt (idxD h a b) h) := by
  intro value slice pins s σ H x y v u Q I rx ry h hs
  obtain ⟨W, σ', M, r, hp, a, b, sr, ra, rb, q⟩ := h
  obtain ⟨d, e, qd⟩ := Post.opt q
  have lst : ∀ (ds : List D) (i : Int), asL hp a = some ds → b = .int i → atL ds i = some d → wpAny (model X.prog X.w) X.A (subscriptTail value slice v u) (EP X pins σ Q) X.xe s := fun ds i e1 e2 e3 => by
    subst e2
    rw [int_of rb] at ry
    obtain ⟨p, xs, rfl, h, rr⟩ := asL_rep sr ra e1
    obtain ⟨z, ez, rz⟩ := atL_rep rr e3
    exact ix_list value slice pins s σ H _ _ v u Q I rx ry ⟨p, xs, i, z, rfl, rfl, .of h, ez, Post.now sr qd rz⟩ hs
  unfold idxD at e
  split at e
  · rename_i ds i
    rw [int_of rb] at ry
    simp only [Rep] at ra
    obtain ⟨p, xs, rfl, t, rr⟩ := ra
    obtain ⟨z, ez, rz⟩ := atL_rep rr e
    exact ix_tup value slice pins s σ H _ _ v u Q I rx ry ⟨p, xs, i, z, rfl, rfl, t.sq, ez, Post.now sr qd rz⟩ hs
  · rename_i x i
    rw [int_of rb] at ry
    obtain ⟨h1, h2, rfl⟩ := str_of ra
    obtain ⟨k, ek, rfl⟩ := Option.map_eq_some_iff.mp e
    refine ix_str value slice pins s σ H _ _ v u Q I rx ry ⟨mkS x, i, k, rfl, rfl, by rw [mkS_length]; exact h2, atL_atI (by simpa [mkS] using ek), ?_⟩ hs
    refine Post.now sr qd ?_
    simp only [Rep]
    refine ⟨?_, by rw [sz_eq]; simp, rfl⟩
    have hm : k ∈ x := by
      unfold atL at ek
      split at ek
      · exact List.mem_of_getElem? ek
      · split at ek
        · exact List.mem_of_getElem? ek
        · cases ek
    simp only [PyData.strOk, mkS] at h1 ⊢
    simp at h1 ⊢
    exact h1 k hm
  · rename_i ns i
    rw [int_of rb] at ry
    simp only [Rep] at ra
    obtain ⟨p, rfl, t⟩ := ra
    obtain ⟨k, ek, rfl⟩ := Option.map_eq_some_iff.mp e
    have : atL (ns.map V.int) i = some (V.int k) := by
      unfold atL at ek ⊢
      split at ek
      · rename_i h0
        rw [if_pos h0, List.getElem?_map, ek]; rfl
      · rename_i h0
        rw [if_neg h0]
        split at ek
        · rename_i h1
          rw [if_pos (by rw [List.length_map]; exact h1), List.length_map, List.getElem?_map, ek]; rfl
        · cases ek
    exact ix_list value slice pins s σ H _ _ v u Q I rx ry ⟨p, _, i, .int k, rfl, rfl, t.sq, atL_atI this, Post.now sr qd rep_int⟩ hs
  · rename_i i _ _ _ _ _
    obtain ⟨ds, e1, e2⟩ := Option.bind_eq_some_iff.mp e
    exact lst ds _ e1 rfl e2
  · cases e

/-! built-in functions -/
theorem lenD_out {K : PySem.W.Frag} {c : Cf} {hp : AH} {a d : D} {v : V} (sr : SR K ca c hp) (r : Rep K c a v) (e : lenD hp a = some d) : ∃ n : Nat, d = .int n ∧ LenV K v c.H n := by
  have lst : ∀ a, Rep K c a v → (asL hp a).map (fun ds => D.int ds.length) = some d → ∃ n : Nat, d = .int n ∧ LenV K v c.H n := fun a r e => by
    obtain ⟨ds, e1, rfl⟩ := Option.map_eq_some_iff.mp e
    obtain ⟨p, xs, rfl, h, rr⟩ := asL_rep sr r e1
    exact ⟨_, rfl, .inl ⟨xs, .of h, rr.length.symm⟩⟩
  cases a with
  | str x =>
    obtain ⟨h1, h2, rfl⟩ := str_of r
    cases e
    exact ⟨_, rfl, by rw [mkS_length]; exact h2, mkS_length.symm⟩
  | tup ds =>
    simp only [Rep] at r
    obtain ⟨p, xs, rfl, t, rr⟩ := r
    cases e
    exact ⟨_, rfl, .inr ⟨xs, t.sq, rr.length.symm⟩⟩
  | scr ns =>
    simp only [Rep] at r
    obtain ⟨p, rfl, t⟩ := r
    cases e
    exact ⟨_, rfl, .inl ⟨_, t.sq, by rw [List.length_map]⟩⟩
  | lst ds => exact lst _ r e
  | ref n => exact lst _ r e
  | non => simp [lenD, asL] at e
  | bl _ => simp [lenD, asL] at e
  | int _ => simp [lenD, asL] at e
def biFn : Bi → Value
  | .len => .builtin "len"
  | .int => .type "int"
  | .str => .type "str"
  | .list => .type "list"
  | .tuple => .type "tuple"
  | .abs => .builtin "abs"
  | .min2 => .builtin "min"
  | .max2 => .builtin "max"
theorem opBi {b : Bi} {mu : Bool} : CallR X (biFn b) (rn X.K ca fun h ds => (R.opt (biD b h ds) h).bind fun d h => mkL mu d h) := by
  intro pins s σ H xs us Q I rx h
  obtain ⟨W, σ', M, r, hp, ds, sr, ra, q⟩ := h
  obtain ⟨d, e, q⟩ := q.optb
  unfold biD at e
  split at e
  · obtain ⟨x, rfl, rx'⟩ := ra.one
    obtain ⟨n, rfl, hn⟩ := lenD_out sr rx' e
    exact call_len pins s σ H _ us Q I rx ⟨x, n, rfl, hn, mkL_plain sr q (fun _ z => by cases z) rep_int⟩
  · cases e
    obtain ⟨x, rfl, rx'⟩ := ra.one
    rw [int_of rx'] at rx
    exact call_int1 pins s σ H _ us Q I rx (.inl ⟨_, rfl, mkL_plain sr q (fun _ z => by cases z) rep_int⟩)
  · cases e
    obtain ⟨x, rfl, rx'⟩ := ra.one
    rw [bl_of rx'] at rx
    exact call_int1 pins s σ H _ us Q I rx (.inr ⟨_, rfl, mkL_plain sr q (fun _ z => by cases z) rep_int⟩)
  · cases e
end
end DI
set_option Elab.async false
set_option linter.all false
set_option maxRecDepth 100000
namespace DI
open PySem PySem.Spec PyProof.Rows L2

/-! ## 9. the context -/
/-- a def's promise, by the plain meaning -/
def spF (K : PySem.W.Frag) (ca : CA) (F : FC) (i : Nat) : Sp := fun vs H Q E =>
  ∃ M r hp ds, SR K ca ⟨M, r, H⟩ hp ∧ Reps K ⟨M, r, H⟩ ds vs ∧ Post K ca (fun cls d _ H => E cls d H) (Rep K) ([] : L2.St) ⟨M, r, H⟩ (F i ds hp) Q
structure FnAt (X : Cx) (ca : CA) (F : FC) (k : Nat) (i : Nat) (x : Str) : Prop where
  ex : ∃ f fd ps, X.mg x = some (.ref f) ∧ PySem.W.keepIn X.K (.ref f) = true ∧ Binds X.K fd ps [] ∧ FnOk X.prog X.w X.K X.mg X.base (L2.CX X.prog X.w) k f fd ps (spF X.K ca F i)
def bltNames : List Str := ["len", "int", "isinstance", "bool", "str", "tuple", "list", "dict", "range", "sum", "max", "min", "sorted", "reversed", "zip", "enumerate", "set", "abs", "all"]
structure SX (X : Cx) (W : WX) (ca : CA) (c : CE) (F : FC) (k : Nat) : Prop where
  tk : Takes X W
  pass : PassesOwn (model X.prog X.w) X.A X.env X.xe
  calm : X.calm = true
  room : Room k X.A
  N : X.N = c.N
  nd : c.N.Nodup
  loc : ∀ x, isLoc c x = true → Vis X.env.scope x
  sto : ∀ x, (c.sc.lookup x = some .local ∨ c.sc.lookup x = some .cell) → Loc X.env.scope x ∧ (X.fn x = true ∨ X.env.scope.names.lookup x = some .local)
  glb : ∀ x, c.sc.lookup x = some .globalImplicit → Gl X x
  cst : ∀ x d, c.consts.lookup x = some d → ∃ v u, X.mg x = some u ∧ RelV v u ∧ ∀ cf, Rep X.K cf d v
  fns : ∀ i x, c.fns[i]? = some x → FnAt X ca F k i x
  blt : ∀ x ∈ bltNames, X.mg x = none
theorem SX.hu {X : Cx} {W : WX} {ca : CA} {c : CE} {F : FC} {k : Nat} (S : SX X W ca c F k) : X.A.units + 200 < cLine := by have := S.room.un; omega

/-! the call's own heap -/
section
variable {K : PySem.W.Frag} {ca : CA}
mutual
theorem Rep.noref {M : Addr → Prop} {r r' : List Addr} {H : Hp} : ∀ (d : D) (v : V), d.noref = true → Rep K ⟨M, r, H⟩ d v → Rep K ⟨M, r', H⟩ d v
  | .non, _, _, h => by simp only [Rep] at h ⊢; exact h
  | .bl _, _, _, h => by simp only [Rep] at h ⊢; exact h
  | .int _, _, _, h => by simp only [Rep] at h ⊢; exact h
  | .str _, _, _, h => by simp only [Rep] at h ⊢; exact h
  | .tup ds, v, n, h => by
    simp only [Rep, D.noref] at h n ⊢
    obtain ⟨a, xs, e, t, q⟩ := h
    exact ⟨a, xs, e, t, Reps.noref ds xs n q⟩
  | .lst ds, v, n, h => by
    simp only [Rep, D.noref] at h n ⊢
    obtain ⟨a, xs, e, m, t, q⟩ := h
    exact ⟨a, xs, e, m, t, Reps.noref ds xs n q⟩
  | .scr _, v, _, h => by
    simp only [Rep] at h ⊢
    exact h
  | .ref _, _, n, _ => by simp [D.noref] at n
theorem Reps.noref {M : Addr → Prop} {r r' : List Addr} {H : Hp} : ∀ (ds : List D) (xs : List V), norefs ds = true → Reps K ⟨M, r, H⟩ ds xs → Reps K ⟨M, r', H⟩ ds xs
  | [], _, _, h => by simp only [Reps] at h ⊢; exact h
  | d :: ds, xs, n, h => by
    simp only [Reps, norefs, Bool.and_eq_true] at h n ⊢
    obtain ⟨x, q, e, h1, h2⟩ := h
    exact ⟨x, q, e, Rep.noref d x n.1 h1, Reps.noref ds q n.2 h2⟩
end
mutual
theorem Rep.shift {M : Addr → Prop} {r r' : List Addr} {H : Hp} : ∀ (d : D) (v : V), Rep K ⟨M, r', H⟩ d v → Rep K ⟨M, r ++ r', H⟩ (d.shift r.length) v
  | .non, _, h => by simp only [Rep, D.shift] at h ⊢; exact h
  | .bl _, _, h => by simp only [Rep, D.shift] at h ⊢; exact h
  | .int _, _, h => by simp only [Rep, D.shift] at h ⊢; exact h
  | .str _, _, h => by simp only [Rep, D.shift] at h ⊢; exact h
  | .tup ds, v, h => by
    simp only [Rep, D.shift] at h ⊢
    obtain ⟨a, xs, e, t, q⟩ := h
    exact ⟨a, xs, e, t, Reps.shift ds xs q⟩
  | .lst ds, v, h => by
    simp only [Rep, D.shift] at h ⊢
    obtain ⟨a, xs, e, m, t, q⟩ := h
    exact ⟨a, xs, e, m, t, Reps.shift ds xs q⟩
  | .scr _, v, h => by
    simp only [Rep, D.shift] at h ⊢
    exact h
  | .ref n, v, h => by
    simp only [Rep, D.shift] at h ⊢
    obtain ⟨a, e, q⟩ := h
    refine ⟨a, e, ?_⟩
    rw [List.getElem?_append_right (by omega)]
    rw [show r.length + n - r.length = n by omega]
    exact q
theorem Reps.shift {M : Addr → Prop} {r r' : List Addr} {H : Hp} : ∀ (ds : List D) (xs : List V), Reps K ⟨M, r', H⟩ ds xs → Reps K ⟨M, r ++ r', H⟩ (shifts r.length ds) xs
  | [], _, h => by simp only [Reps, shifts] at h ⊢; exact h
  | d :: ds, xs, h => by
    simp only [Reps, shifts] at h ⊢
    obtain ⟨x, q, e, h1, h2⟩ := h
    exact ⟨x, q, e, Rep.shift d x h1, Reps.shift ds q h2⟩
end
/-- behind a call with a heap of its own: dropped .. -/
theorem apart_drop {M M' : Addr → Prop} {r r' : List Addr} {H H' : Hp} {hp h' : AH} (sr : SR K ca ⟨M, r, H⟩ hp) (s : Step ⟨M, [], H⟩ ⟨M', r', H'⟩) (sr' : SR K ca ⟨M', r', H'⟩ h') :
    Step ⟨M, r, H⟩ ⟨M', r, H'⟩ ∧ SR K ca ⟨M', r, H'⟩ hp := by
  have st : Step ⟨M, r, H⟩ ⟨M', r, H'⟩ := ⟨fun _ _ h => h, s.mono, s.fresh, fun n a h l => by
    have z : n < r.length := (List.getElem?_eq_some_iff.mp h).1
    exact absurd z (Nat.not_lt.mpr l), fun a o h _ => s.keep a o h (by simp), s.dom⟩
  refine ⟨st, sr.len, sr.nd, fun a m => s.mono a (sr.inM a m), fun a m => sr'.alloc a m, fun i a o e1 e2 => ?_⟩
  have q := sr.objs i a o e1 e2
  cases o with
  | lst ds =>
    obtain ⟨xs, e, rr⟩ := q
    exact ⟨xs, s.keep a _ e (by simp), rr.step sr.inM st⟩
  | ins n fs =>
    obtain ⟨C, dx, gs, e0, e, rr⟩ := q
    exact ⟨C, dx, gs, e0, s.keep a _ e (by simp), Paired.mapP rr fun a b z => ⟨z.1, z.2.step sr.inM st⟩⟩
  | dead => trivial
/-- .. or put behind -/
theorem apart_keep {M M' : Addr → Prop} {r r' : List Addr} {H H' : Hp} {hp h' : AH} (sr : SR K ca ⟨M, r, H⟩ hp) (s : Step ⟨M, [], H⟩ ⟨M', r', H'⟩) (sr' : SR K ca ⟨M', r', H'⟩ h') :
    Step ⟨M, r, H⟩ ⟨M', r ++ r', H'⟩ ∧ SR K ca ⟨M', r ++ r', H'⟩ (hp ++ h'.map (Ob.shift hp.length)) := by
  have hnew : ∀ a ∈ r', H a = none := fun a m => by
    obtain ⟨n, hn, e⟩ := List.mem_iff_getElem.mp m
    exact s.newr n a (by show r'[n]? = some a; rw [List.getElem?_eq_getElem hn, e]) (Nat.zero_le _)
  have hdis : ∀ a ∈ r, a ∉ r' := fun a m z => sr.alloc a (sr.inM a m) (hnew a z)
  have st : Step ⟨M, r, H⟩ ⟨M', r ++ r', H'⟩ := by
    refine ⟨fun n a h => ?_, s.mono, s.fresh, fun n a h l => ?_, fun a o h _ => s.keep a o h (by simp), s.dom⟩
    · show (r ++ r')[n]? = some a
      rw [List.getElem?_append_left (List.getElem?_eq_some_iff.mp h).1]; exact h
    · have h' : (r ++ r')[n]? = some a := h
      rw [List.getElem?_append_right l] at h'
      exact hnew a (List.mem_of_getElem? h')
  have hl : r.length = hp.length := sr.len
  have hl' : r'.length = h'.length := sr'.len
  refine ⟨st, by simp [hl, hl'], ?_, ?_, fun a m => sr'.alloc a m, fun i a o e1 e2 => ?_⟩
  · show (r ++ r').Nodup
    rw [List.nodup_append]
    exact ⟨sr.nd, sr'.nd, fun a ha b hb z => hdis a ha (z ▸ hb)⟩
  · intro a m
    rcases List.mem_append.mp m with m | m
    · exact s.mono a (sr.inM a m)
    · exact sr'.inM a m
  · have e1' : (r ++ r')[i]? = some a := e1
    by_cases hi : i < r.length
    · rw [List.getElem?_append_left hi] at e1'
      rw [List.getElem?_append_left (by omega)] at e2
      have q := sr.objs i a o e1' e2
      cases o with
      | lst ds =>
        obtain ⟨xs, e, rr⟩ := q
        exact ⟨xs, s.keep a _ e (by simp), rr.step sr.inM st⟩
      | ins n fs =>
        obtain ⟨C, dx, gs, e0, e, rr⟩ := q
        exact ⟨C, dx, gs, e0, s.keep a _ e (by simp), Paired.mapP rr fun a b z => ⟨z.1, z.2.step sr.inM st⟩⟩
      | dead => trivial
    · rw [List.getElem?_append_right (by omega)] at e1'
      rw [List.getElem?_append_right (by omega), ← hl, List.getElem?_map] at e2
      cases q2 : h'[i - r.length]? with
      | none => rw [q2] at e2; cases e2
      | some o' =>
        rw [q2] at e2
        simp only [Option.map_some, Option.some.injEq] at e2
        have q := sr'.objs (i - r.length) a o' e1' q2
        subst e2
        cases o' with
        | lst ds =>
          obtain ⟨xs, e, rr⟩ := q
          exact ⟨xs, e, Reps.shift ds xs rr⟩
        | ins n fs =>
          obtain ⟨C, dx, gs, e0, e, rr⟩ := q
          refine ⟨C, dx, gs, e0, e, ?_⟩
          show RepFs K _ (fs.map fun p => (p.1, p.2.shift r.length)) gs
          have : ∀ {fs : List (List Nat × D)} {gs : List (Str × V)}, RepFs K ⟨M', r', H'⟩ fs gs → RepFs K ⟨M', r ++ r', H'⟩ (fs.map fun p => (p.1, p.2.shift r.length)) gs := by
            intro fs gs h
            unfold RepFs at h ⊢
            induction h with
            | nil => exact .nil
            | cons h1 h2 ih => exact .cons ⟨h1.1, Rep.shift _ _ h1.2⟩ ih
          exact this rr
        | dead => trivial
/-- .. or frozen -/
theorem fz_rep {M M' : Addr → Prop} {r r' : List Addr} {H H' : Hp} {h' : AH} (s : Step ⟨M, [], H⟩ ⟨M', r', H'⟩) (sr : SR K ca ⟨M, r, H⟩ hp) (sr' : SR K ca ⟨M', r', H'⟩ h') :
    ∀ (n : Nat) (d d' : D) (v : V), Rep K ⟨M', r', H'⟩ d v → fzD n h' d = some d' → Rep K ⟨M, r, H'⟩ d' v := by
  -- what names nothing of the heap stands under fewer forbidden places too
  have low : ∀ d v, d.noref = true → Rep K ⟨M', r', H'⟩ d v → Rep K ⟨M, r, H'⟩ d v := by
    have key : (∀ d : D, ∀ v, d.noref = true → Rep K ⟨M', r', H'⟩ d v → Rep K ⟨M, r, H'⟩ d v) := by
      intro d
      refine D.rec (motive_1 := fun d => ∀ v, d.noref = true → Rep K ⟨M', r', H'⟩ d v → Rep K ⟨M, r, H'⟩ d v) (motive_2 := fun ds => ∀ xs, norefs ds = true → Reps K ⟨M', r', H'⟩ ds xs → Reps K ⟨M, r, H'⟩ ds xs) ?_ ?_ ?_ ?_ ?_ ?_ ?_ ?_ ?_ ?_ d
      · intro v _ h; simp only [Rep] at h ⊢; exact h
      · intro b v _ h; simp only [Rep] at h ⊢; exact h
      · intro b v _ h; simp only [Rep] at h ⊢; exact h
      · intro b v _ h; simp only [Rep] at h ⊢; exact h
      · intro ds ih v n h
        simp only [Rep, D.noref] at h n ⊢
        obtain ⟨a, xs, e, t, q⟩ := h
        refine ⟨a, xs, e, ?_, ih xs n q⟩
        rcases t with ⟨t1, t2⟩ | t
        · exact .inl ⟨fun m => t1 (s.mono a m), t2⟩
        · exact .inr t
      · intro ds ih v n h
        simp only [Rep, D.noref] at h n ⊢
        obtain ⟨a, xs, e, m, t, q⟩ := h
        exact ⟨a, xs, e, fun z => m (s.mono a z), t, ih xs n q⟩
      · intro ns v _ h
        simp only [Rep] at h ⊢
        obtain ⟨a, e, t⟩ := h
        refine ⟨a, e, ?_⟩
        rcases t with ⟨t1, t2⟩ | t
        · exact .inl ⟨fun m => t1 (s.mono a m), t2⟩
        · exact .inr t
      · intro n v h _; simp [D.noref] at h
      · intro xs _ h; simp only [Reps] at h ⊢; exact h
      · intro d ds ih1 ih2 xs n h
        simp only [Reps, norefs, Bool.and_eq_true] at h n ⊢
        obtain ⟨x, q, e, h1, h2⟩ := h
        exact ⟨x, q, e, ih1 x n.1 h1, ih2 q n.2 h2⟩
    exact key
  have lows : ∀ ds xs, norefs ds = true → Reps K ⟨M', r', H'⟩ ds xs → Reps K ⟨M, r, H'⟩ ds xs := by
    intro ds
    induction ds with
    | nil => intro xs _ h; simp only [Reps] at h ⊢; exact h
    | cons d ds ih =>
      intro xs n h
      simp only [Reps, norefs, Bool.and_eq_true] at h n ⊢
      obtain ⟨x, q, e, h1, h2⟩ := h
      exact ⟨x, q, e, low d x n.1 h1, ih q n.2 h2⟩
  intro n
  induction n with
  | zero =>
    intro d d' v h e
    unfold fzD at e
    split at e
    · rename_i hn; cases e; exact low d v hn h
    · cases e
  | succ n ih =>
    have ihs : ∀ (ds ds' : List D) (xs : List V), Reps K ⟨M', r', H'⟩ ds xs → ds.mapM (fzD n h') = some ds' → Reps K ⟨M, r, H'⟩ ds' xs := by
      intro ds
      induction ds with
      | nil => intro ds' xs h e; simp at e; subst e; simp only [Reps] at h ⊢; exact h
      | cons d ds ih2 =>
        intro ds' xs h e
        simp only [Reps] at h
        obtain ⟨x, q, rfl, h1, h2⟩ := h
        simp only [List.mapM_cons, Option.bind_eq_bind, Option.bind_eq_some_iff, Option.pure_def, Option.some.injEq] at e
        obtain ⟨d1, e1, ds1, e2, rfl⟩ := e
        simp only [Reps]
        exact ⟨x, q, rfl, ih d d1 x h1 e1, ih2 ds1 q h2 e2⟩
    intro d d' v h e
    unfold fzD at e
    split at e
    · rename_i hn; cases e; exact low d v hn h
    · split at e
      · rename_i m _
        simp only [Rep] at h
        obtain ⟨a, rfl, ra⟩ := h
        have ha : H a = none := s.newr m a ra (Nat.zero_le _)
        have nM : ¬ M a := fun z => sr.alloc a z ha
        split at e
        · rename_i es e1
          obtain ⟨xs, e2, e3⟩ := sr'.objs m a _ ra e1
          split at e
          · rename_i hn
            cases e
            simp only [Rep]
            exact ⟨a, xs, rfl, nM, e2, lows es xs hn e3⟩
          · obtain ⟨es', e4, rfl⟩ := Option.map_eq_some_iff.mp e
            simp only [Rep]
            exact ⟨a, xs, rfl, nM, e2, ihs es es' xs e3 e4⟩
        · cases e
      · rename_i es _
        obtain ⟨es', e4, rfl⟩ := Option.map_eq_some_iff.mp e
        simp only [Rep] at h ⊢
        obtain ⟨a, xs, e5, t, q⟩ := h
        refine ⟨a, xs, e5, ?_, ihs es es' xs q e4⟩
        rcases t with ⟨t1, t2⟩ | t
        · exact .inl ⟨fun m => t1 (s.mono a m), t2⟩
        · exact .inr t
      · rename_i es _
        obtain ⟨es', e4, rfl⟩ := Option.map_eq_some_iff.mp e
        simp only [Rep] at h ⊢
        obtain ⟨a, xs, e5, m, t, q⟩ := h
        exact ⟨a, xs, e5, fun z => m (s.mono a z), t, ihs es es' xs q e4⟩
      · cases e
/-- the caller's own heap behind such a call -/
theorem apart_low {M M' : Addr → Prop} {r r' : List Addr} {H H' : Hp} {hp h' : AH} (sr : SR K ca ⟨M, r, H⟩ hp) (s : Step ⟨M, [], H⟩ ⟨M', r', H'⟩) : Step ⟨M, r, H⟩ ⟨M, r, H'⟩ ∧ SR K ca ⟨M, r, H'⟩ hp := by
  have st : Step ⟨M, r, H⟩ ⟨M, r, H'⟩ := ⟨fun _ _ h => h, fun _ h => h, fun _ h => .inl h, fun n a h l => by
    have z : n < r.length := (List.getElem?_eq_some_iff.mp h).1
    exact absurd z (Nat.not_lt.mpr l), fun a o h _ => s.keep a o h (by simp), s.dom⟩
  refine ⟨st, sr.len, sr.nd, sr.inM, fun a m => s.dom a (sr.alloc a m), fun i a o e1 e2 => ?_⟩
  have q := sr.objs i a o e1 e2
  cases o with
  | lst ds =>
    obtain ⟨xs, e, rr⟩ := q
    exact ⟨xs, s.keep a _ e (by simp), rr.step sr.inM st⟩
  | ins n fs =>
    obtain ⟨C, dx, gs, e0, e, rr⟩ := q
    exact ⟨C, dx, gs, e0, s.keep a _ e (by simp), Paired.mapP rr fun a b z => ⟨z.1, z.2.step sr.inM st⟩⟩
  | dead => trivial
theorem fz_if {b : Bool} {h' : AH} {d d' : D} (e : (if b = true then fzD 5 h' d else if d.noref = true then some d else none) = some d') : fzD 5 h' d = some d' := by
  cases b with
  | true => exact e
  | false =>
    simp only [Bool.false_eq_true, if_false] at e
    split at e
    · rename_i hn; cases e; unfold fzD; rw [if_pos hn]
    · cases e
theorem apart_sp {W : WX} {σ : L2.St} {fz : Nat → Bool} {F : FC} {i : Nat} {M : Addr → Prop} {r : List Addr} {H : Hp} {hp : AH} {ds : List D} {vs : List V} {Q : VK}
    (sr : SR K ca ⟨M, r, H⟩ hp) (rs : Reps K ⟨M, r, H⟩ ds vs) (q : Post K ca W (Rep K) σ ⟨M, r, H⟩ (apart fz F i ds hp) Q) : spF K ca F i vs H Q (WE W σ) := by
  unfold apart at q
  split at q
  · rename_i hn
    refine ⟨M, [], [], ds, ⟨rfl, List.nodup_nil, fun a m => by simp at m, sr.alloc, fun i a o e => by simp at e⟩, Reps.noref ds vs hn rs, ?_⟩
    cases e : F i ds [] with
    | ok d h' =>
      rw [e] at q
      intro c' y s sr' ry
      obtain ⟨M', r', H'⟩ := c'
      simp only at q
      split at q
      · rename_i d' hd
        obtain ⟨s1, sr1⟩ := apart_low (h' := h') sr s
        exact q ⟨M, r, H'⟩ y s1 sr1 (fz_rep s sr sr' 5 d d' y ry (fz_if hd))
      · obtain ⟨s1, sr1⟩ := apart_keep sr s sr'
        have hl : r.length = hp.length := sr.len
        exact q ⟨M', r ++ r', H'⟩ y s1 sr1 (by rw [← hl]; exact Rep.shift d y ry)
    | exc e' h' =>
      rw [e] at q
      intro c' cls dx s sr' rx
      obtain ⟨M', r', H'⟩ := c'
      simp only at q
      obtain ⟨rx1, rx2⟩ := rx
      cases qp : e'.pay with
      | none =>
        rw [qp] at q
        obtain ⟨s1, sr1⟩ := apart_low (h' := h') sr s
        exact q ⟨M, r, H'⟩ cls dx s1 sr1 ⟨rx1, by rw [qp]; trivial⟩
      | some d =>
        rw [qp] at q rx2
        obtain ⟨a, f, v, e1, e2, e3, e4⟩ := rx2
        simp only at q
        split at q
        · rename_i d' hd
          obtain ⟨s1, sr1⟩ := apart_low (h' := h') sr s
          exact q ⟨M, r, H'⟩ cls dx s1 sr1 ⟨rx1, a, f, v, e1, e2, fun m => e3 (s.mono a m), fz_rep s sr sr' 5 d d' v e4 (fz_if hd)⟩
        · obtain ⟨s1, sr1⟩ := apart_keep sr s sr'
          have hl : r.length = hp.length := sr.len
          exact q ⟨M', r ++ r', H'⟩ cls dx s1 sr1 ⟨rx1, a, f, v, e1, e2, e3, by rw [← hl]; exact Rep.shift d v e4⟩
    | bad =>
      rw [e] at q
      exact q
  · refine ⟨M, r, hp, ds, sr, rs, ?_⟩
    cases e : F i ds hp with
    | ok d h' => rw [e] at q; exact q
    | exc e' h' => rw [e] at q; exact q
    | bad => rw [e] at q; exact q
end
end DI
set_option Elab.async false
set_option linter.all false
set_option maxRecDepth 100000
namespace DI
open PySem PySem.Spec PyProof.Rows L2

/-! ## 10. expressions -/
def on1 {α : Type} (f : D → Sl → AH → R α) : List D → Sl → AH → R α
  | [d] => f d
  | _ => fun _ _ => .bad
def on2 {α : Type} (f : D → D → Sl → AH → R α) : List D → Sl → AH → R α
  | [d, e] => f d e
  | _ => fun _ _ => .bad
theorem on1_nil {α : Type} {f : D → Sl → AH → R α} {ds : List D} {d : D} (h : ds.length = ([] : List V).length) : on1 f (ds ++ [d]) = f d := by
  obtain rfl := List.length_eq_zero_iff.mp h
  rfl
theorem on2_one {α : Type} {f : D → D → Sl → AH → R α} {ds : List D} {d : D} {x : V} (h : ds.length = [x].length) : ∃ e, ds = [e] ∧ on2 f (ds ++ [d]) = f e d := by
  match ds, h with
  | [e], _ => exact ⟨e, rfl, rfl⟩
section
variable {K : PySem.W.Frag} {ca : CA} {W : WX} {α β : Type} {Rel : Cf → α → β → Prop} {σ : L2.St} {H : Hp}
theorem te_1 {m : EVl} {f : D → Sl → AH → R α} {f0 : Sl → AH → R α} {Q : β → Hp → Prop} (e : ∀ s h, f0 s h = (m s h).bind fun d h => f d s h)
    (q : tes K ca W Rel (fun _ => f0) [] σ H Q) : te K ca W m σ H fun x H1 => tes K ca W Rel (on1 f) [x] σ H1 Q :=
  tes_seq (g := on1 f) (fun ds s h hl => by rw [e]; congr 1; funext d h; rw [on1_nil hl]) q
theorem te_2 {m : EVl} {f : D → Sl → AH → R α} {g : D → D → Sl → AH → R α} {x : V} {Q : β → Hp → Prop} (e : ∀ d s h, f d s h = (m s h).bind fun d' h => g d d' s h)
    (q : tes K ca W Rel (on1 f) [x] σ H Q) : te K ca W m σ H fun y H1 => tes K ca W Rel (on2 g) [x, y] σ H1 Q :=
  tes_seq (g := on2 g) (fun ds s h hl => by
    match ds, hl with
    | [d], _ => exact e d s h) q
theorem on1_out {f : D → Sl → AH → R α} {x : V} {Q : β → Hp → Prop} (q : tes K ca W Rel (on1 f) [x] σ H Q) :
    ∃ M r hp sd d, SR K ca ⟨M, r, H⟩ hp ∧ RepS K ⟨M, r, H⟩ sd σ ∧ Rep K ⟨M, r, H⟩ d x ∧ Post K ca W Rel σ ⟨M, r, H⟩ (f d sd hp) Q := by
  obtain ⟨M, r, hp, sd, ds, h1, h2, h3, h4⟩ := q
  have hl := h3.length
  match ds, hl, h3, h4 with
  | [d], _, h3, h4 =>
    obtain ⟨y, e, ry⟩ := h3.one
    cases e
    exact ⟨M, r, hp, sd, d, h1, h2, ry, h4⟩
theorem on2_out {f : D → D → Sl → AH → R α} {x y : V} {Q : β → Hp → Prop} (q : tes K ca W Rel (on2 f) [x, y] σ H Q) :
    ∃ M r hp sd d e, SR K ca ⟨M, r, H⟩ hp ∧ RepS K ⟨M, r, H⟩ sd σ ∧ Rep K ⟨M, r, H⟩ d x ∧ Rep K ⟨M, r, H⟩ e y ∧ Post K ca W Rel σ ⟨M, r, H⟩ (f d e sd hp) Q := by
  obtain ⟨M, r, hp, sd, ds, h1, h2, h3, h4⟩ := q
  have hl := h3.length
  match ds, hl, h3, h4 with
  | [d, e], _, h3, h4 =>
    obtain ⟨y, z, e', ry, rz⟩ := h3.two
    cases e'
    exact ⟨M, r, hp, sd, d, e, h1, h2, ry, rz, h4⟩
theorem to_te {m : EVl} {f : D → Sl → AH → R D} {x : V} {Q : VK} {P : Prop}
    (q : tes K ca W (Rep K) (on1 f) [x] σ H Q) (h : ∀ M r hp sd d, SR K ca ⟨M, r, H⟩ hp → RepS K ⟨M, r, H⟩ sd σ → Rep K ⟨M, r, H⟩ d x → Post K ca W (Rep K) σ ⟨M, r, H⟩ (f d sd hp) Q → P) : P := by
  obtain ⟨M, r, hp, sd, d, h1, h2, h3, h4⟩ := on1_out q
  exact h M r hp sd d h1 h2 h3 h4
theorem te_now {M : Addr → Prop} {r : List Addr} {hp : AH} {sd : Sl} {Rel : Cf → α → β → Prop} {m : Sl → AH → R α} {Q : β → Hp → Prop}
    (h1 : SR K ca ⟨M, r, H⟩ hp) (h2 : RepS K ⟨M, r, H⟩ sd σ) (h : Post K ca W Rel σ ⟨M, r, H⟩ (m sd hp) Q) : tes K ca W Rel (fun _ => m) [] σ H Q :=
  ⟨M, r, hp, sd, [], h1, h2, (by simp only [Reps]), h⟩
end

theorem star_cons {e : Expr} {es : List Expr} {env : Env} (h : noStar e = true) : starEach (e :: es) env = (false, eval e env) :: starEach es env := by
  cases e <;> first | rfl | (simp [noStar] at h; done)
theorem star_any {env : Env} : ∀ {es : List Expr} {pos : Pos}, es.all noStar = true → (backTo pos (starEach es env)).any (·.1) = false
  | [], _, _ => rfl
  | e :: es, pos, h => by
    simp only [List.all_cons, Bool.and_eq_true] at h
    rw [star_cons h.1]
    have := star_any (env := env) (es := es) (pos := pos) h.2
    simpa [backTo] using this
theorem plainIx {i : Expr} (h : isSlice i = false) : PlainIx i := by
  cases i <;> first | (intro _ _; rfl) | (simp [isSlice] at h; done)
theorem mark_not (op : CmpOp) (b : Expr) (h1 : op ≠ .In) (h2 : op ≠ .NotIn) : behindInMarks op b = false := nobehind b h1 h2

section
variable {X : Cx} {W : WX} {ca : CA} {c : CE} {fz : Nat → Bool} {F : FC} {k : Nat}

theorem s_name (S : SX X W ca c F k) (x : Str) (pos : Pos) : PE X (.Name x pos) (te X.K ca W (ev (apart fz F) (cName c x))) := by
  unfold cName
  split
  · rename_i h
    simp only [Bool.and_eq_true, Bool.not_eq_true'] at h
    obtain ⟨⟨h1, h2⟩, h3⟩ := h
    cases q : ixOf x c.N 0 with
    | none => exact PE.no fun _ _ _ => te_bad
    | some i =>
      have hi : X.N[i]? = some x := by rw [S.N]; exact ixOf_get0 q
      refine PE.imp (pe_var (i := i) hi (S.loc x h1) h2 h3) fun σ H Q q => ?_
      obtain ⟨M, r, hp, sd, ds, h1, h2, h3, h4⟩ := q
      simp only [ev] at h4
      split at h4
      · rename_i d e
        obtain ⟨v, ev, rv⟩ := h2.2 i d e
        exact ⟨v, ev, h4 ⟨M, r, H⟩ v (Step.refl _) h1 rv⟩
      · exact h4.elim
  · split
    · rename_i h
      simp only [Bool.and_eq_true, Bool.not_eq_true', beq_iff_eq] at h
      cases q : c.consts.lookup x with
      | none => exact PE.no fun _ _ _ => te_bad
      | some d =>
        obtain ⟨v, u, e1, e2, e3⟩ := S.cst x d q
        refine PE.imp (pe_glob (S.glb x h.1) e1 e2 h.2) fun σ H Q q => ?_
        obtain ⟨M, r, hp, sd, ds, h1, h2, h3, h4⟩ := q
        exact h4 ⟨M, r, H⟩ v (Step.refl _) h1 (e3 _)
    · exact PE.no fun _ _ _ => te_bad
theorem s_const (kc : Const) (n : Nat) (pos : Pos) : PE X (.Constant kc n pos) (te X.K ca W (ev (apart fz F) (cConst kc))) := by
  have now : ∀ {d : D} {v : V} {σ : L2.St} {H : Hp} {Q : VK}, te X.K ca W (ev (apart fz F) (.cst d)) σ H Q → (∀ cf, Rep X.K cf d v) → Q v H := fun {d v σ H Q} q e => by
    obtain ⟨M, r, hp, sd, ds, h1, h2, h3, h4⟩ := q
    exact h4 ⟨M, r, H⟩ v (Step.refl _) h1 (e _)
  cases kc with
  | none => exact PE.imp pe_non fun σ H Q q => now q fun _ => rep_non
  | bool b => exact PE.imp pe_bl fun σ H Q q => now q fun _ => rep_bl
  | int i => exact PE.imp pe_int fun σ H Q q => now q fun _ => rep_int
  | str x =>
    show PE X _ (te X.K ca W (ev (apart fz F) (if PyData.strOk x && decide (x.cps.size ≤ 16777216) then .cst (strD x) else .bad)))
    split
    · rename_i h
      simp only [Bool.and_eq_true, decide_eq_true_eq] at h
      refine PE.imp pe_str fun σ H Q q => now q fun _ => ?_
      simp only [Rep, strD, mkS]
      exact ⟨h.1, by rw [sz_eq]; simpa using h.2, trivial⟩
    · exact PE.no fun _ _ _ => te_bad
  | _ => exact PE.no fun _ _ _ => te_bad
/-- a list of arguments -/
theorem s_args {rec : Expr → Ex} (ih : ∀ e, PE X e (te X.K ca W (ev (apart fz F) (rec e)))) : ∀ {es : List Expr}, es.all noStar = true → PA X es (tas X.K ca W (evs (apart fz F) (mkExs (es.map rec))))
  | [], _ => PA.imp pa_nil fun σ H Q q => by
    obtain ⟨M, r, hp, sd, ds, h1, h2, h3, h4⟩ := q
    exact h4 ⟨M, r, H⟩ [] (Step.refl _) h1 (by simp only [Reps])
  | e :: es, h => by
    simp only [List.all_cons, Bool.and_eq_true] at h
    refine PA.imp (pa_cons (ih e) (s_args ih h.2) (star_cons h.1)) fun σ H Q q => ?_
    have q1 := te_1 (m := ev (apart fz F) (rec e)) (f := fun d s h => (evs (apart fz F) (mkExs (es.map rec)) s h).bind fun xs h => .ok (d :: xs) h) (fun s h => rfl) q
    obtain ⟨M, r, hp, sd, ds, h1, h2, h3, h4⟩ := q1
    refine ⟨M, r, hp, sd, ds, h1, h2, h3, h4.mono fun x H1 q2 => ?_⟩
    obtain ⟨M, r, hp, sd, d, h1, h2, h3, h4⟩ := on1_out q2
    refine ⟨M, r, hp, sd, [], h1, h2, (by simp only [Reps]), ?_⟩
    show Post X.K ca W (Reps X.K) σ _ (evs (apart fz F) (mkExs (es.map rec)) sd hp) _
    cases e1 : evs (apart fz F) (mkExs (es.map rec)) sd hp with
    | ok xs h' =>
      rw [e1] at h4
      intro c' ys s sr rs
      refine h4 c' (x :: ys) s sr ?_
      simp only [Reps]
      exact ⟨x, ys, rfl, h3.step h1.inM s, rs⟩
    | exc e2 h' => rw [e1] at h4; exact h4
    | bad => rw [e1] at h4; exact h4
theorem sts_out {α β : Type} {Rel : Cf → α → β → Prop} {K : PySem.W.Frag} {σ : L2.St} {H : Hp} {m : Sl → AH → R (List D)} {f : List D → AH → R α} {Q : β → Hp → Prop}
    (q : tes K ca W Rel (fun _ s h => (m s h).bind f) [] σ H Q) : tas K ca W m σ H fun xs H1 =>
      ∃ M r hp ds, SR K ca ⟨M, r, H1⟩ hp ∧ Reps K ⟨M, r, H1⟩ ds xs ∧ Post K ca W Rel σ ⟨M, r, H1⟩ (f ds hp) Q := by
  have q1 := tes_seqs (m := m) (g := fun ds _ h => f ds h) (xs := []) (fun ds s h hl => by
    obtain rfl := List.length_eq_zero_iff.mp hl
    rfl) q
  refine tes_mono q1 fun xs H1 q2 => ?_
  obtain ⟨M, r, hp, sd, ds, h1, h2, h3, h4⟩ := q2
  exact ⟨M, r, hp, ds, h1, h3, h4⟩

/-- the two readings of an expression, joined -/
structure SE (X : Cx) (W : WX) (ca : CA) (fz : Nat → Bool) (F : FC) (e : Expr) (x : Ex) : Prop where
  v : PE X e (te X.K ca W (ev (apart fz F) x))
  t : PT X e (tt X.K ca W (ev (apart fz F) x))
theorem SE.no {e : Expr} {x : Ex} (hx : x = .bad) : SE X W ca fz F e x := by
  subst hx
  exact ⟨PE.no fun _ _ _ => te_bad, PT.no fun _ _ _ => tt_bad⟩
theorem tt_te {m : EVl} {σ : L2.St} {H : Hp} {Q : Bool → Hp → Prop} (q : tt X.K ca W m σ H Q) : te X.K ca W m σ H fun x H1 => ∃ k, TruV X.K x H1 k ∧ Q k H1 := by
  have q1 := te_1 (m := m) (f := fun d _ h => R.opt (truth h d) h) (fun s h => rfl) q
  refine tes_mono q1 fun x H1 q2 => ?_
  obtain ⟨M, r, hp, sd, d, h1, h2, h3, h4⟩ := on1_out q2
  exact tru_te h1 h3 h4
/-- an expression whose test is its value's truth -/
theorem SE.plain {e : Expr} {x : Ex} (h : PE X e (te X.K ca W (ev (apart fz F) x))) (he : ∀ whole, isTrue e X.env whole = (do let v ← whole; standAt e.pos; holding [v] (truthy v))) : SE X W ca fz F e x :=
  ⟨h, PT.imp (pt_truth h he) fun σ H Q q => tt_te q⟩
/-- .. or which gives a bool whatever its test -/
theorem tt_b {m : EVl} {σ : L2.St} {H : Hp} {Q : Bool → Hp → Prop} (hb : ∀ s h d h', m s h = .ok d h' → ∃ b, d = .bl b) (q : tt X.K ca W m σ H Q) : te X.K ca W m σ H fun x H1 => ∃ k, x = .bl k ∧ Q k H1 := by
  obtain ⟨M, r, hp, sd, ds, h1, h2, h3, h4⟩ := q
  refine ⟨M, r, hp, sd, ds, h1, h2, h3, ?_⟩
  show Post X.K ca W (Rep X.K) σ _ (m sd hp) _
  have h4' : Post X.K ca W beq' σ ⟨M, r, H⟩ (tr (m sd hp)) Q := h4
  cases e : m sd hp with
  | ok d h' =>
    rw [e] at h4'
    obtain ⟨b, rfl⟩ := hb _ _ _ _ e
    intro c' v s sr rv
    exact ⟨b, bl_of rv, h4' c' b s sr rfl⟩
  | exc e2 h' => rw [e] at h4'; exact h4'
  | bad => rw [e] at h4'; exact h4'

theorem cmpop_bl {op : CmpOp} {h : AH} {x y d : D} (e : cmpop op h x y = some d) : ∃ b, d = .bl b := by
  have i2 : ∀ {f : Int → Int → Bool}, ints2 f x y = some d → ∃ b, d = .bl b := fun {f} e => by
    unfold ints2 at e; split at e
    · cases e; exact ⟨_, rfl⟩
    · cases e
  cases op with
  | Eq => obtain ⟨t, _, rfl⟩ := Option.map_eq_some_iff.mp e; exact ⟨_, rfl⟩
  | NotEq => obtain ⟨t, _, rfl⟩ := Option.map_eq_some_iff.mp e; exact ⟨_, rfl⟩
  | Lt => exact i2 e
  | LtE => exact i2 e
  | Gt => exact i2 e
  | GtE => exact i2 e
  | Is => cases e
  | IsNot => cases e
  | In => cases e
  | NotIn => cases e
theorem bind_ok {α β : Type} {r : R α} {f : α → AH → R β} {x : β} {h : AH} (e : r.bind f = .ok x h) : ∃ y h', r = .ok y h' ∧ f y h' = .ok x h := by
  cases r with
  | ok y h' => exact ⟨y, h', rfl, e⟩
  | exc _ _ => cases e
  | bad => cases e
theorem opt_ok {α : Type} {o : Option α} {h h' : AH} {x : α} (e : R.opt o h = .ok x h') : o = some x ∧ h = h' := by
  cases o with
  | none => cases e
  | some y => cases e; exact ⟨rfl, rfl⟩
theorem s_cmp (S : SX X W ca c F k) {op : CmpOp} {a b : Expr} {x y : Ex} {pos : Pos} (ha : SE X W ca fz F a x) (hb : SE X W ca fz F b y) : SE X W ca fz F (.Compare a [op] [b] pos) (cCmp op b x y) := by
  have plain : op ≠ .In → op ≠ .NotIn → SE X W ca fz F (.Compare a [op] [b] pos) (.cmp op x y) := fun n1 n2 => by
    have rd : ∀ {σ : L2.St} {H : Hp} {Q : VK}, te X.K ca W (ev (apart fz F) (.cmp op x y)) σ H Q → tOp (r2 X.K ca fun h a b => R.opt (cmpop op h a b) h) (te X.K ca W (ev (apart fz F) x)) (te X.K ca W (ev (apart fz F) y)) σ H Q := fun {σ H Q} q => by
      have q1 := te_1 (m := ev (apart fz F) x) (f := fun d s h => (ev (apart fz F) y s h).bind fun e h => R.opt (cmpop op h d e) h) (fun s h => rfl) q
      refine tes_mono q1 fun u H1 q2 => ?_
      have q3 := te_2 (m := ev (apart fz F) y) (g := fun d e s h => R.opt (cmpop op h d e) h) (fun d s h => rfl) q2
      refine tes_mono q3 fun w H2 q4 => ?_
      obtain ⟨M, r, hp, sd, d, e, h1, h2, h3, h4, h5⟩ := on2_out q4
      exact ⟨W, σ, M, r, hp, d, e, h1, h3, h4, h5⟩
    refine ⟨PE.imp (pe_cmpR (opCmp (ca := ca) S.hu) ha.v hb.v (mark_not op b n1 n2)) fun σ H Q q => rd q, PT.imp (pt_cmpR (opCmp (ca := ca) S.hu) ha.v hb.v (mark_not op b n1 n2)) fun σ H Q q => ?_⟩
    refine rd (tt_b (fun s h d h' e => ?_) q)
    simp only [ev] at e
    obtain ⟨_, _, _, e⟩ := bind_ok e
    obtain ⟨_, _, _, e⟩ := bind_ok e
    exact cmpop_bl (opt_ok e).1
  have nn : ∀ {d : D} {v : V} {cf : Cf}, Rep X.K cf d v → decide (v = .non) = d.isNon := fun {d v cf} r => by
    cases d with
    | non => simp only [Rep] at r; subst r; simp [D.isNon]
    | bl _ => simp only [Rep] at r; subst r; simp [D.isNon]
    | int _ => simp only [Rep] at r; subst r; simp [D.isNon]
    | str _ => obtain ⟨_, _, rfl⟩ := str_of r; simp [D.isNon]
    | tup _ => simp only [Rep] at r; obtain ⟨_, _, rfl, _⟩ := r; simp [D.isNon]
    | lst _ => simp only [Rep] at r; obtain ⟨_, _, rfl, _⟩ := r; simp [D.isNon]
    | scr _ => simp only [Rep] at r; obtain ⟨_, rfl, _⟩ := r; simp [D.isNon]
    | ref _ => simp only [Rep] at r; obtain ⟨_, rfl, _⟩ := r; simp [D.isNon]
  cases op with
  | Is =>
    unfold cCmp
    cases hb' : isNoneE b with
    | false => exact SE.no (by simp)
    | true =>
      obtain ⟨j, p', rfl⟩ : ∃ j p', b = .Constant .none j p' := by
        unfold isNoneE at hb'
        split at hb'
        · exact ⟨_, _, rfl⟩
        · cases hb'
      have rd : ∀ {σ : L2.St} {H : Hp} {Q : VK}, te X.K ca W (ev (apart fz F) (.isN x)) σ H Q → tIsN (te X.K ca W (ev (apart fz F) x)) σ H Q := fun {σ H Q} q => by
        have q1 := te_1 (m := ev (apart fz F) x) (f := fun d s h => .ok (D.bl d.isNon) h) (fun s h => rfl) q
        refine tes_mono q1 fun u H1 q2 => ?_
        obtain ⟨M, r, hp, sd, d, h1, h2, h3, h4⟩ := on1_out q2
        rw [nn h3]
        exact Post.now h1 h4 rep_bl
      refine ⟨PE.imp (pe_cmp (pc_isN ha.v)) fun σ H Q q => rd q, PT.imp (pt_cmp (pc_isN ha.v)) fun σ H Q q => ?_⟩
      refine rd (tt_b (fun s h d h' e => ?_) q)
      simp only [if_true, ev] at e
      obtain ⟨_, _, _, e⟩ := bind_ok e
      cases e
      exact ⟨_, rfl⟩
  | IsNot =>
    unfold cCmp
    cases hb' : isNoneE b with
    | false => exact SE.no (by simp)
    | true =>
      obtain ⟨j, p', rfl⟩ : ∃ j p', b = .Constant .none j p' := by
        unfold isNoneE at hb'
        split at hb'
        · exact ⟨_, _, rfl⟩
        · cases hb'
      have rd : ∀ {σ : L2.St} {H : Hp} {Q : VK}, te X.K ca W (ev (apart fz F) (.notN x)) σ H Q → tNotN (te X.K ca W (ev (apart fz F) x)) σ H Q := fun {σ H Q} q => by
        have q1 := te_1 (m := ev (apart fz F) x) (f := fun d s h => .ok (D.bl (!d.isNon)) h) (fun s h => rfl) q
        refine tes_mono q1 fun u H1 q2 => ?_
        obtain ⟨M, r, hp, sd, d, h1, h2, h3, h4⟩ := on1_out q2
        rw [nn h3]
        exact Post.now h1 h4 rep_bl
      refine ⟨PE.imp (pe_cmp (pc_notN ha.v)) fun σ H Q q => rd q, PT.imp (pt_cmp (pc_notN ha.v)) fun σ H Q q => ?_⟩
      refine rd (tt_b (fun s h d h' e => ?_) q)
      simp only [if_true, ev] at e
      obtain ⟨_, _, _, e⟩ := bind_ok e
      cases e
      exact ⟨_, rfl⟩
  | In => exact SE.no rfl
  | NotIn => exact SE.no rfl
  | _ => exact plain (by decide) (by decide)

theorem s_not {a : Expr} {x : Ex} {pos : Pos} (ha : SE X W ca fz F a x) : SE X W ca fz F (.UnaryOp .Not a pos) (.not_ x) := by
  constructor
  · refine PE.imp (pe_notT ha.v) fun σ H Q q => ?_
    have q1 := te_1 (m := ev (apart fz F) x) (f := fun d s h => (R.opt (truth h d) h).bind fun b h => .ok (D.bl (!b)) h) (fun s h => rfl) q
    refine tes_mono q1 fun u H1 q2 => ?_
    obtain ⟨M, r, hp, sd, d, h1, h2, h3, h4⟩ := on1_out q2
    obtain ⟨t, e, h5⟩ := h4.optb
    exact ⟨t, truth_out h1 h3 e, Post.now h1 h5 rep_bl⟩
  · refine PT.imp (pt_not ha.t) fun σ H Q q => ?_
    obtain ⟨M, r, hp, sd, ds, h1, h2, h3, h4⟩ := q
    refine ⟨M, r, hp, sd, ds, h1, h2, h3, ?_⟩
    show Post X.K ca W beq' σ _ (tr (ev (apart fz F) x sd hp)) _
    have h4' : Post X.K ca W beq' σ ⟨M, r, H⟩ (tr (ev (apart fz F) (.not_ x) sd hp)) Q := h4
    simp only [ev, tr] at h4' ⊢
    cases e : ev (apart fz F) x sd hp with
    | ok d h' =>
      rw [e] at h4'
      simp only [R.bind_ok] at h4' ⊢
      cases e2 : truth h' d with
      | none => rw [e2] at h4'; exact h4'
      | some t =>
        rw [e2] at h4'
        intro c' y s sr ry
        obtain rfl : t = y := ry
        exact h4' c' (!t) s sr rfl
    | exc e2 h' => rw [e] at h4'; exact h4'
    | bad => rw [e] at h4'; exact h4'

theorem s_and {a b : Expr} {r : List Expr} {x y : Ex} {pos : Pos} (ha : SE X W ca fz F a x) (hv : PE X (.BoolOp .And (b :: r) pos) (te X.K ca W (ev (apart fz F) y))) (ht : PW X (.BoolOp .And (b :: r) pos) (tt X.K ca W (ev (apart fz F) y))) :
    PE X (.BoolOp .And (a :: b :: r) pos) (te X.K ca W (ev (apart fz F) (.and_ x y))) ∧ PW X (.BoolOp .And (a :: b :: r) pos) (tt X.K ca W (ev (apart fz F) (.and_ x y))) := by
  constructor
  · refine PE.imp (pe_andT ha.v hv) fun σ H Q q => ?_
    have q1 := te_1 (m := ev (apart fz F) x) (f := fun d s h => match truth h d with | some true => ev (apart fz F) y s h | some false => .ok d h | none => .bad) (fun s h => rfl) q
    refine tes_mono q1 fun u H1 q2 => ?_
    obtain ⟨M, r, hp, sd, d, h1, h2, h3, h4⟩ := on1_out q2
    cases e : truth hp d with
    | none => rw [e] at h4; exact h4.elim
    | some t =>
      rw [e] at h4
      refine ⟨t, truth_out h1 h3 e, ?_⟩
      cases t with
      | true => exact te_now (m := ev (apart fz F) y) h1 h2 h4
      | false => exact Post.now h1 h4 h3
  · refine ⟨fun whole pins s σ H Q I q => (pw_and ha.t ht).run whole pins s σ H Q I ?_⟩
    obtain ⟨M, r, hp, sd, ds, h1, h2, h3, h4⟩ := q
    refine ⟨M, r, hp, sd, ds, h1, h2, h3, ?_⟩
    show Post X.K ca W beq' σ _ (tr (ev (apart fz F) x sd hp)) _
    have h4' : Post X.K ca W beq' σ ⟨M, r, H⟩ (tr (ev (apart fz F) (.and_ x y) sd hp)) Q := h4
    simp only [ev, tr] at h4' ⊢
    cases e : ev (apart fz F) x sd hp with
    | ok d h' =>
      rw [e] at h4'
      simp only [R.bind_ok] at h4' ⊢
      cases e2 : truth h' d with
      | none => rw [e2] at h4'; exact h4'
      | some t =>
        rw [e2] at h4'
        intro c' y' s sr ry
        obtain rfl : t = y' := ry
        cases t with
        | true => exact te_now (m := fun s h => tr (ev (apart fz F) y s h)) sr (h2.step h1.inM s) (Post.step s h4')
        | false =>
          simp only [R.bind_ok, e2] at h4'
          exact h4' c' false s sr rfl
    | exc e2 h' => rw [e] at h4'; exact h4'
    | bad => rw [e] at h4'; exact h4'
theorem s_or {a b : Expr} {r : List Expr} {x y : Ex} {pos : Pos} (ha : SE X W ca fz F a x) (hv : PE X (.BoolOp .Or (b :: r) pos) (te X.K ca W (ev (apart fz F) y))) (ht : PW X (.BoolOp .Or (b :: r) pos) (tt X.K ca W (ev (apart fz F) y))) :
    PE X (.BoolOp .Or (a :: b :: r) pos) (te X.K ca W (ev (apart fz F) (.or_ x y))) ∧ PW X (.BoolOp .Or (a :: b :: r) pos) (tt X.K ca W (ev (apart fz F) (.or_ x y))) := by
  constructor
  · refine PE.imp (pe_orT ha.v hv) fun σ H Q q => ?_
    have q1 := te_1 (m := ev (apart fz F) x) (f := fun d s h => match truth h d with | some true => .ok d h | some false => ev (apart fz F) y s h | none => .bad) (fun s h => rfl) q
    refine tes_mono q1 fun u H1 q2 => ?_
    obtain ⟨M, r, hp, sd, d, h1, h2, h3, h4⟩ := on1_out q2
    cases e : truth hp d with
    | none => rw [e] at h4; exact h4.elim
    | some t =>
      rw [e] at h4
      refine ⟨t, truth_out h1 h3 e, ?_⟩
      cases t with
      | false => exact te_now (m := ev (apart fz F) y) h1 h2 h4
      | true => exact Post.now h1 h4 h3
  · refine ⟨fun whole pins s σ H Q I q => (pw_or ha.t ht).run whole pins s σ H Q I ?_⟩
    obtain ⟨M, r, hp, sd, ds, h1, h2, h3, h4⟩ := q
    refine ⟨M, r, hp, sd, ds, h1, h2, h3, ?_⟩
    show Post X.K ca W beq' σ _ (tr (ev (apart fz F) x sd hp)) _
    have h4' : Post X.K ca W beq' σ ⟨M, r, H⟩ (tr (ev (apart fz F) (.or_ x y) sd hp)) Q := h4
    simp only [ev, tr] at h4' ⊢
    cases e : ev (apart fz F) x sd hp with
    | ok d h' =>
      rw [e] at h4'
      simp only [R.bind_ok] at h4' ⊢
      cases e2 : truth h' d with
      | none => rw [e2] at h4'; exact h4'
      | some t =>
        rw [e2] at h4'
        intro c' y' s sr ry
        obtain rfl : t = y' := ry
        cases t with
        | false => exact te_now (m := fun s h => tr (ev (apart fz F) y s h)) sr (h2.step h1.inM s) (Post.step s h4')
        | true =>
          simp only [R.bind_ok, e2] at h4'
          exact h4' c' true s sr rfl
    | exc e2 h' => rw [e] at h4'; exact h4'
    | bad => rw [e] at h4'; exact h4'
theorem s_bool {op : BoolOp} {rec : Expr → Ex} {pos : Pos} (ih : ∀ e, SE X W ca fz F e (rec e)) : ∀ es : List Expr, es ≠ [] →
    PE X (.BoolOp op es pos) (te X.K ca W (ev (apart fz F) (cBool op (es.map rec)))) ∧ PW X (.BoolOp op es pos) (tt X.K ca W (ev (apart fz F) (cBool op (es.map rec))))
  | [], h => absurd rfl h
  | [a], _ => by
    refine ⟨pe_one (ih a).v, ?_⟩
    cases op with
    | And => exact pw_and1 (ih a).t
    | Or => exact pw_or1 (ih a).t
  | a :: b :: r, _ => by
    obtain ⟨h1, h2⟩ := s_bool (op := op) (pos := pos) ih (b :: r) (by simp)
    cases op with
    | And => exact s_and (ih a) h1 h2
    | Or => exact s_or (ih a) h1 h2
end
end DI
set_option Elab.async false
set_option linter.all false
set_option maxRecDepth 100000
namespace DI
open PySem PySem.Spec PyProof.Rows L2
section
variable {X : Cx} {W : WX} {ca : CA} {c : CE} {fz : Nat → Bool} {F : FC} {k : Nat}
theorem s_bin {op : Operator} {mu : Bool} {a b : Expr} {x y : Ex} {pos : Pos} (ha : SE X W ca fz F a x) (hb : SE X W ca fz F b y) : PE X (.BinOp a op b pos) (te X.K ca W (ev (apart fz F) (.bin op mu x y))) := by
  refine PE.imp (pe_op (opBin (ca := ca) (mu := mu)) ha.v hb.v) fun σ H Q q => ?_
  have q1 := te_1 (m := ev (apart fz F) x) (f := fun d s h => (ev (apart fz F) y s h).bind fun e h => thenMk mu (binop op) h d e) (fun s h => rfl) q
  refine tes_mono q1 fun u H1 q2 => ?_
  have q3 := te_2 (m := ev (apart fz F) y) (g := fun d e s h => thenMk mu (binop op) h d e) (fun d s h => rfl) q2
  refine tes_mono q3 fun w H2 q4 => ?_
  obtain ⟨M, r, hp, sd, d, e, h1, h2, h3, h4, h5⟩ := on2_out q4
  exact ⟨W, σ, M, r, hp, d, e, h1, h3, h4, h5⟩
theorem s_idx {a b : Expr} {x y : Ex} {pos : Pos} (ha : SE X W ca fz F a x) (hb : SE X W ca fz F b y) (hs : isSlice b = false) : PE X (.Subscript a b pos) (te X.K ca W (ev (apart fz F) (.idx x y))) := by
  refine PE.imp (pe_ix (opIdx (ca := ca)) ha.v hb.v (plainIx hs)) fun σ H Q q => ?_
  have q1 := te_1 (m := ev (apart fz F) x) (f := fun d s h => (ev (apart fz F) y s h).bind fun e h => R.opt (idxD h d e) h) (fun s h => rfl) q
  refine tes_mono q1 fun u H1 q2 => ?_
  have q3 := te_2 (m := ev (apart fz F) y) (g := fun d e s h => R.opt (idxD h d e) h) (fun d s h => rfl) q2
  refine tes_mono q3 fun w H2 q4 => ?_
  obtain ⟨M, r, hp, sd, d, e, h1, h2, h3, h4, h5⟩ := on2_out q4
  exact ⟨W, σ, M, r, hp, d, e, h1, h3, h4, h5⟩
theorem s_neg {a : Expr} {x : Ex} {pos : Pos} (ha : SE X W ca fz F a x) : PE X (.UnaryOp .USub a pos) (te X.K ca W (ev (apart fz F) (.neg x))) := by
  refine PE.imp (pe_un un_neg ha.v) fun σ H Q q => ?_
  have q1 := te_1 (m := ev (apart fz F) x) (f := fun d s h => match d with | .int i => .ok (D.int (-i)) h | _ => .bad) (fun s h => rfl) q
  refine tes_mono q1 fun u H1 q2 => ?_
  obtain ⟨M, r, hp, sd, d, h1, h2, h3, h4⟩ := on1_out q2
  cases d with
  | int i => exact ⟨i, int_of h3, Post.now h1 h4 rep_int⟩
  | _ => exact h4.elim
theorem s_tup {es : List Expr} {rec : Expr → Ex} {n : Nat} {pos : Pos} (ih : ∀ e, SE X W ca fz F e (rec e)) (hs : es.all noStar = true) : PE X (.Tuple es n pos) (te X.K ca W (ev (apart fz F) (.tup (mkExs (es.map rec))))) := by
  refine PE.imp (pe_tup (s_args (fun e => (ih e).v) hs)) fun σ H Q q => ?_
  have q1 := sts_out (m := evs (apart fz F) (mkExs (es.map rec))) (f := fun xs h => if xs.length ≤ 16777216 then .ok (D.tup xs) h else .bad) q
  refine tes_mono q1 fun xs H1 ⟨M, r, hp, ds, h1, h2, h3⟩ => ?_
  split at h3
  · rename_i hl
    exact ⟨by rw [h2.length, sz_eq]; exact hl, fun p hn => mk_tup h1 h2 h3 p hn⟩
  · exact h3.elim
theorem s_lst {es : List Expr} {rec : Expr → Ex} {mu : Bool} {pos : Pos} (ih : ∀ e, SE X W ca fz F e (rec e)) (hs : es.all noStar = true) : PE X (.List es pos) (te X.K ca W (ev (apart fz F) (.lst mu (mkExs (es.map rec))))) := by
  refine PE.imp (pe_lst (s_args (fun e => (ih e).v) hs)) fun σ H Q q => ?_
  have q1 := sts_out (m := evs (apart fz F) (mkExs (es.map rec))) (f := fun xs h => if xs.length ≤ 16777216 then mkL mu (D.lst xs) h else .bad) q
  refine tes_mono q1 fun xs H1 ⟨M, r, hp, ds, h1, h2, h3⟩ => ?_
  split at h3
  · rename_i hl
    exact ⟨by rw [h2.length, sz_eq]; exact hl, fun p hn => mk_list h1 h2 h3 p hn⟩
  · exact h3.elim
theorem s_own (S : SX X W ca c F k) {x : Str} {i : Nat} {es : List Expr} {rec : Expr → Ex} {p pos : Pos} (ih : ∀ e, SE X W ca fz F e (rec e)) (hg : c.sc.lookup x = some .globalImplicit) (hx : c.fns[i]? = some x) (hs : es.all noStar = true) (hne : es ≠ [])
    (hd : (x == "__debug__") = false) : PE X (.Call (.Name x p) es [] pos) (te X.K ca W (ev (apart fz F) (.call i (mkExs (es.map rec))))) := by
  obtain ⟨f, fd, ps, e1, e2, e3, e4⟩ := (S.fns i x hx).ex
  cases es with
  | nil => exact absurd rfl hne
  | cons e es =>
    have hs' := hs
    simp only [List.all_cons, Bool.and_eq_true] at hs'
    refine PE.imp (pe_callS e4 S.room (S.glb x hg) e1 e2 e3 (fun σ => passAt S.tk σ) (s_args (fun e => (ih e).v) hs) hd (star_cons hs'.1) (star_any hs'.2)) fun σ H Q q => ?_
    have q1 := sts_out (m := evs (apart fz F) (mkExs ((e :: es).map rec))) (f := fun xs h => apart fz F i xs h) q
    exact tes_mono q1 fun xs H1 ⟨M, r, hp, ds, h1, h2, h3⟩ => apart_sp h1 h2 h3
theorem s_bi (S : SX X W ca c F k) {x : Str} {b : Bi} {mu : Bool} {es : List Expr} {rec : Expr → Ex} {p pos : Pos} (ih : ∀ e, SE X W ca fz F e (rec e)) (hg : c.sc.lookup x = some .globalImplicit) (hs : es.all noStar = true) (hne : es ≠ [])
    (hd : (x == "__debug__") = false) (hn : x ≠ "__name__") (hx : biOf x = some b) : PE X (.Call (.Name x p) es [] pos) (te X.K ca W (ev (apart fz F) (.bi b mu (mkExs (es.map rec))))) := by
  cases es with
  | nil => exact absurd rfl hne
  | cons e es =>
    have hs' := hs
    simp only [List.all_cons, Bool.and_eq_true] at hs'
    have fin : ∀ {σ : L2.St} {H : Hp} {Q : VK}, te X.K ca W (ev (apart fz F) (.bi b mu (mkExs ((e :: es).map rec)))) σ H Q → tCB (rn X.K ca fun h ds => (R.opt (biD b h ds) h).bind fun d h => mkL mu d h) (tas X.K ca W (evs (apart fz F) (mkExs ((e :: es).map rec)))) σ H Q := fun {σ H Q} q => by
      have q1 := sts_out (m := evs (apart fz F) (mkExs ((e :: es).map rec))) (f := fun xs h => (R.opt (biD b h xs) h).bind fun d h => mkL mu d h) q
      exact tes_mono q1 fun xs H1 ⟨M, r, hp, ds, h1, h2, h3⟩ => ⟨W, σ, M, r, hp, ds, h1, h2, h3⟩
    have hb : (∃ id, biFn b = .builtin id ∧ bootBuiltins x = some (.builtin id)) ∨ ∃ T, biFn b = .type T ∧ bootBuiltins x = some (.type T) := by
      unfold biOf at hx
      split at hx
      · rename_i h; cases hx; rw [beq_iff_eq.mp h]; exact .inl ⟨_, rfl, PySem.boot_len⟩
      · split at hx
        · rename_i h; cases hx; rw [beq_iff_eq.mp h]; exact .inr ⟨_, rfl, PyProof.Rows.boot_int⟩
        · cases hx
    have hm : X.mg x = none := by
      unfold biOf at hx
      split at hx
      · rename_i h; rw [beq_iff_eq.mp h]; exact S.blt _ (by decide)
      · split at hx
        · rename_i h; rw [beq_iff_eq.mp h]; exact S.blt _ (by decide)
        · cases hx
    have hc := opBi (X := X) (ca := ca) (b := b) (mu := mu)
    rcases hb with ⟨id, h1, h2⟩ | ⟨T, h1, h2⟩
    · rw [h1] at hc
      exact PE.imp (pe_callB hc (S.glb x hg) hm h2 (s_args (fun e => (ih e).v) hs) hn hd (star_cons hs'.1) (star_any hs'.2)) fun σ H Q q => fin q
    · rw [h1] at hc
      exact PE.imp (pe_callTy hc (S.glb x hg) hm h2 (s_args (fun e => (ih e).v) hs) hn hd (star_cons hs'.1) (star_any hs'.2)) fun σ H Q q => fin q
theorem cl_name (S : SX X W ca c F k) {y : Str} {pos : Pos} {kk : Cl} (h : clOf c y = some kk) : isOwn kk = false ∧ ∃ n, clT kk = .type n ∧ PE X (.Name y pos) (tC (.ty n)) := by
  unfold clOf at h
  split at h
  · rename_i hg
    have hg := S.glb y (beq_iff_eq.mp hg)
    have fin : ∀ {z : Str} {kk : Cl} {n : String}, y = z → clT kk = .type n → isOwn kk = false → bootBuiltins z = some (.type n) → z ∈ bltNames → z ≠ "__name__" → (z == ("__debug__" : Str)) = false → isOwn kk = false ∧ ∃ n, clT kk = .type n ∧ PE X (.Name y pos) (tC (.ty n)) := fun {z kk n} e h1 h2 h3 h4 h5 h6 => by
      subst e
      exact ⟨h2, n, h1, pe_bltn hg (S.blt _ h4) h3 rfl h5 h6⟩
    split at h
    · rename_i e; cases h; exact fin (beq_iff_eq.mp e) rfl rfl (by decide +kernel) (by decide) (by decide) (by decide)
    · split at h
      · rename_i e; cases h; exact fin (beq_iff_eq.mp e) rfl rfl (by decide +kernel) (by decide) (by decide) (by decide)
      · split at h
        · rename_i e; cases h; exact fin (beq_iff_eq.mp e) rfl rfl (by decide +kernel) (by decide) (by decide) (by decide)
        · split at h
          · rename_i e; cases h; exact fin (beq_iff_eq.mp e) rfl rfl (by decide +kernel) (by decide) (by decide) (by decide)
          · split at h
            · rename_i e; cases h; exact fin (beq_iff_eq.mp e) rfl rfl (by decide +kernel) (by decide) (by decide) (by decide)
            · split at h
              · rename_i e; cases h; exact fin (beq_iff_eq.mp e) rfl rfl (by decide +kernel) (by decide) (by decide) (by decide)
              · cases h
  · cases h
theorem s_isi (S : SX X W ca c F k) {e : Expr} {y : Str} {py : Pos} {kk : Cl} {x : Ex} {p pos : Pos} (ha : SE X W ca fz F e x) (hg : c.sc.lookup (Str.ofString "isinstance") = some .globalImplicit) (hs : noStar e = true) (hk : clOf c y = some kk) :
    PE X (.Call (.Name "isinstance" p) [e, .Name y py] [] pos) (te X.K ca W (ev (apart fz F) (.isi x [kk]))) := by
  obtain ⟨ho, n, hn, hp⟩ := cl_name S (pos := py) hk
  refine PE.imp (pe_callB (call_isi (X := X)) (S.glb _ hg) (S.blt _ (by decide)) PyProof.Rows.boot_isinstance (pa_cons ha.v (pa_cons hp pa_nil (star_cons rfl)) (star_cons hs)) (by decide) (by decide) (star_cons hs) (star_any (by simp [noStar]))) fun σ H Q q => ?_
  have q1 := te_1 (m := ev (apart fz F) x) (f := fun d s h => (R.opt (isi1 h [kk] d) h).bind fun b h => .ok (D.bl b) h) (fun s h => rfl) q
  refine tes_mono q1 fun u H1 q2 => ?_
  obtain ⟨M, r, hp', sd, d, h1, h2, h3, h4⟩ := on1_out q2
  obtain ⟨b, e1, h5⟩ := h4.optb
  have nr : ∀ n, now hp' d ≠ .ref n := fun n z => by
    unfold isi1 at e1
    rw [z] at e1
    cases e1
  obtain ⟨t, ty, kt⟩ := isi_now h1 h3 nr kk ho
  have e1' : isCl kk (now hp' d) = b := by
    unfold isi1 at e1
    cases z : now hp' d with
    | ref n => exact absurd z (nr n)
    | _ => rw [z] at e1; simpa using e1
  rw [e1', hn] at kt
  exact ⟨u, .ty n, t, .type n, b, rfl, .ty n, ty, kt, Post.now h1 h5 rep_bl⟩

theorem sE (S : SX X W ca c F k) : ∀ (n : Nat) (e : Expr), SE X W ca fz F e (cE c n e)
  | 0, e => SE.no rfl
  | n + 1, e => by
    have ih := sE S n
    unfold cE
    cases e with
    | Name x p => exact SE.plain (s_name S x p) fun _ => rfl
    | Constant kc m p => exact SE.plain (s_const kc m p) fun _ => rfl
    | BinOp a op b p => exact SE.plain (s_bin (ih a) (ih b)) fun _ => rfl
    | UnaryOp op a p =>
      cases op with
      | Not => exact s_not (ih a)
      | USub => exact ⟨s_neg (ih a), PT.imp (pt_truth (s_neg (ih a)) fun _ => rfl) fun σ H Q q => tt_te q⟩
      | _ => exact SE.no rfl
    | BoolOp op es p =>
      cases es with
      | nil => exact SE.no rfl
      | cons a r =>
        obtain ⟨h1, h2⟩ := s_bool (op := op) (pos := p) ih (a :: r) (by simp)
        exact ⟨h1, h2.pt⟩
    | Compare a ops bs p =>
      match ops, bs with
      | [op], [b] => exact s_cmp S (ih a) (ih b)
      | [], _ => exact SE.no rfl
      | [_], [] => exact SE.no rfl
      | [_], _ :: _ :: _ => exact SE.no rfl
      | _ :: _ :: _, _ => exact SE.no rfl
    | Tuple es m p =>
      simp only
      split
      · rename_i h; exact SE.plain (s_tup ih h) fun _ => rfl
      · exact SE.no rfl
    | List es p =>
      simp only
      split
      · rename_i h; exact SE.plain (s_lst ih h) fun _ => rfl
      · exact SE.no rfl
    | Subscript a i p =>
      simp only
      split
      · exact SE.no rfl
      · rename_i h; exact SE.plain (s_idx (ih a) (ih i) (by simpa using h)) fun _ => rfl
    | Call f es ks p =>
      simp only
      unfold cCall
      split
      · rename_i x p'
        split
        · rename_i h
          simp only [Bool.and_eq_true, Bool.not_eq_true', beq_iff_eq] at h
          obtain ⟨⟨⟨⟨h1, h2⟩, h3⟩, h4⟩, h5⟩ := h
          have hne : es ≠ [] := by intro z; subst z; simp at h3
          have h5' : x ≠ "__name__" := by intro z; subst z; simp at h5
          split
          · rename_i i hi
            exact SE.plain (s_own S ih h1 (ixOf_get0 hi) h2 hne h4) fun _ => rfl
          · split
            · rename_i hx
              have hx := beq_iff_eq.mp hx
              subst hx
              split
              · rename_i e t
                simp only [List.all_cons, Bool.and_eq_true] at h2
                split
                · rename_i y hy
                  split
                  · rename_i kk hk
                    obtain ⟨py, rfl⟩ : ∃ py, t = .Name y py := by
                      unfold nameOf at hy
                      split at hy
                      · cases hy; exact ⟨_, rfl⟩
                      · cases hy
                    exact SE.plain (s_isi S (ih e) h1 h2.1 hk) fun _ => rfl
                  · exact SE.no rfl
                · exact SE.no rfl
              · exact SE.no rfl
            · split
              · rename_i b hb
                exact SE.plain (s_bi S ih h1 h2 hne h4 h5' hb) fun _ => rfl
              · exact SE.no rfl
        · exact SE.no rfl
      · exact SE.no rfl
    | _ => exact SE.no rfl
end
end DI
set_option Elab.async false
set_option linter.all false
set_option maxRecDepth 100000
namespace DI
open PySem PySem.Spec PyProof.Rows L2

/-! ## 11. statements -/
section
variable {K : PySem.W.Frag} {ca : CA} {W : WX} {σ : L2.St} {H : Hp}
theorem PostO.mono {c : Cf} {o : O} {D1 D2 : Ends} (h : PostO K ca W c o D1) (h1 : ∀ σ H, D1.nx σ H → D2.nx σ H) (h2 : ∀ v H, D1.rt v H → D2.rt v H) (h3 : ∀ σ H, D1.bk σ H → D2.bk σ H) (h4 : ∀ σ H, D1.ct σ H → D2.ct σ H) : PostO K ca W c o D2 := by
  cases o with
  | nx _ _ => exact fun c2 y s a b => h1 _ _ (h c2 y s a b)
  | rt _ _ => exact fun c2 y s a b => h2 _ _ (h c2 y s a b)
  | bk _ _ => exact fun c2 y s a b => h3 _ _ (h c2 y s a b)
  | ct _ _ => exact fun c2 y s a b => h4 _ _ (h c2 y s a b)
  | ex _ _ _ => exact h
  | bad => exact h
/-- an expression, then something -/
theorem tst_e {m : EVl} {f : D → Sl → AH → O} {g : Sl → AH → O} {Dn : Ends} (e : ∀ s h, g s h = (m s h).to s fun d h => f d s h) (q : tst K ca W g Dn σ H) :
    te K ca W m σ H fun x H1 => ∃ M r hp sd d, SR K ca ⟨M, r, H1⟩ hp ∧ RepS K ⟨M, r, H1⟩ sd σ ∧ Rep K ⟨M, r, H1⟩ d x ∧ PostO K ca W ⟨M, r, H1⟩ (f d sd hp) Dn := by
  obtain ⟨M, r, hp, sd, h1, h2, h3⟩ := q
  refine ⟨M, r, hp, sd, [], h1, h2, (by simp only [Reps]), ?_⟩
  rw [e] at h3
  show Post K ca W (Rep K) σ _ (m sd hp) _
  cases q : m sd hp with
  | ok d h =>
    rw [q] at h3
    intro c' x s sr rx
    exact ⟨c'.M, c'.r, h, sd, d, sr, h2.step h1.inM s, rx, PostO.step s h3⟩
  | exc e' h =>
    rw [q] at h3
    intro c' cls dx s sr rx
    exact h3 c' σ cls dx s sr (h2.step h1.inM s) rx
  | bad => rw [q] at h3; exact h3
theorem tst_t {m : EVl} {f : Bool → Sl → AH → O} {g : Sl → AH → O} {Dn : Ends} (e : ∀ s h, g s h = (tr (m s h)).to s fun b h => f b s h) (q : tst K ca W g Dn σ H) :
    tt K ca W m σ H fun b H1 => ∃ M r hp sd, SR K ca ⟨M, r, H1⟩ hp ∧ RepS K ⟨M, r, H1⟩ sd σ ∧ PostO K ca W ⟨M, r, H1⟩ (f b sd hp) Dn := by
  obtain ⟨M, r, hp, sd, h1, h2, h3⟩ := q
  refine ⟨M, r, hp, sd, [], h1, h2, (by simp only [Reps]), ?_⟩
  rw [e] at h3
  show Post K ca W beq' σ _ (tr (m sd hp)) _
  cases q : tr (m sd hp) with
  | ok d h =>
    rw [q] at h3
    intro c' x s sr rx
    obtain rfl : d = x := rx
    exact ⟨c'.M, c'.r, h, sd, sr, h2.step h1.inM s, PostO.step s h3⟩
  | exc e' h =>
    rw [q] at h3
    intro c' cls dx s sr rx
    exact h3 c' σ cls dx s sr (h2.step h1.inM s) rx
  | bad => rw [q] at h3; exact h3
theorem tst_now {m : Sl → AH → O} {M : Addr → Prop} {r : List Addr} {hp : AH} {sd : Sl} {Dn : Ends} (h1 : SR K ca ⟨M, r, H⟩ hp) (h2 : RepS K ⟨M, r, H⟩ sd σ) (h : PostO K ca W ⟨M, r, H⟩ (m sd hp) Dn) : tst K ca W m Dn σ H := ⟨M, r, hp, sd, h1, h2, h⟩
theorem nx_now {M : Addr → Prop} {r : List Addr} {hp : AH} {sd : Sl} {Dn : Ends} (h1 : SR K ca ⟨M, r, H⟩ hp) (h2 : RepS K ⟨M, r, H⟩ sd σ) (h : PostO K ca W ⟨M, r, H⟩ (.nx sd hp) Dn) : Dn.nx σ H := h ⟨M, r, H⟩ σ (Step.refl _) h1 h2
theorem rt_now {M : Addr → Prop} {r : List Addr} {hp : AH} {d : D} {v : V} {Dn : Ends} (h1 : SR K ca ⟨M, r, H⟩ hp) (h2 : Rep K ⟨M, r, H⟩ d v) (h : PostO K ca W ⟨M, r, H⟩ (.rt d hp) Dn) : Dn.rt v H := h ⟨M, r, H⟩ v (Step.refl _) h1 h2
end

/-! loops: the rest of the run is told by the plain loop -/
def LoopW (K : PySem.W.Frag) (ca : CA) (W : WX) (body : Sl → AH → O) (g : Tg) (xs : List D) (M0 : Addr → Prop) (r0 : List Addr) (H0 : Hp) (Dn : Ends) (i : Nat) (σ : L2.St) (H : Hp) : Prop :=
  i ≤ xs.length ∧ ∃ M r hp sd, Step ⟨M0, r0, H0⟩ ⟨M, r, H⟩ ∧ SR K ca ⟨M, r, H⟩ hp ∧ RepS K ⟨M, r, H⟩ sd σ ∧ PostO K ca W ⟨M, r, H⟩ (loop body g (xs.drop i) sd hp) Dn
section
variable {K : PySem.W.Frag} {ca : CA} {W : WX}
theorem body_turn {body : Sl → AH → O} {g : Tg} {xs : List D} {M0 : Addr → Prop} {r0 : List Addr} {H0 : Hp} {Dn : Ends} {i : Nat} {M : Addr → Prop} {r : List Addr} {H : Hp} {o : O} (hi : i < xs.length)
    (st : Step ⟨M0, r0, H0⟩ ⟨M, r, H⟩) (h : PostO K ca W ⟨M, r, H⟩ (o.turn (loop body g (xs.drop (i + 1)))) Dn) :
    PostO K ca W ⟨M, r, H⟩ o { Dn with nx := LoopW K ca W body g xs M0 r0 H0 Dn (i + 1), ct := LoopW K ca W body g xs M0 r0 H0 Dn (i + 1), bk := Dn.nx } := by
  cases o with
  | nx s2 h2 => exact fun c' σ' s sr rs => ⟨hi, c'.M, c'.r, h2, s2, st.trans s, sr, rs, PostO.step s h⟩
  | ct s2 h2 => exact fun c' σ' s sr rs => ⟨hi, c'.M, c'.r, h2, s2, st.trans s, sr, rs, PostO.step s h⟩
  | bk s2 h2 => exact h
  | rt d h2 => exact h
  | ex e s2 h2 => exact h
  | bad => exact h
end
section
variable {X : Cx} {W : WX} {ca : CA} {c : CE} {fz : Nat → Bool} {F : FC} {k : Nat}
/-- over a tuple or over a list -/
def iAny (K : PySem.W.Frag) (tl : TE) : TI := fun σ H R => tl σ H fun x H1 => (∃ a, x = .ref a ∧ (∃ xs, SqT K H1 a xs) ∧ R (Itt K a) H1) ∨ (∃ a, x = .ref a ∧ (∃ xs, SqL K H1 a xs) ∧ R (Itl K a) H1)
theorem pi_any {tg l : Expr} {tl : TE} (hl : PE X l tl) : PI X tg l (iAny X.K tl) := by
  refine ⟨fun pins s σ H R I h => ?_⟩
  refine thn (hl.run pins s σ H _ I h) fun v s1 ⟨x, H1, I1, r1, q1⟩ => ?_
  rcases q1 with ⟨a, e, ⟨xs, hq⟩, q⟩ | ⟨a, e, ⟨xs, hq⟩, q⟩
  · subst e
    cases r1
    obtain ⟨its, rv, p, hz⟩ := I1.tuple hq
    refine wpAny_pyIter_tuple (show s1.heap.IsTuple a its.toArray from p) ?_
    refine ⟨s1.heap.objs.size, [s1.heap.objs.size], _, _, H1, rfl, I1.kept (t' := s1.toks) fun b o e => Heap.get?_push_of_some _ e, turn_tuple a _, ⟨_, Heap.get?_push_size _ rfl, rfl, rfl⟩, fun b hb => ?_, q⟩
    have e : b = s1.heap.objs.size := by simpa using hb
    subst e
    exact I1.fpOk (Nat.le_refl _) (I1.hok.fresh (Nat.le_refl _))
  · subst e
    cases r1
    obtain ⟨its, rv, p, hz⟩ := I1.list hq
    refine wpAny_pyIter_list p.isList ?_
    refine ⟨s1.heap.objs.size, [s1.heap.objs.size], _, _, H1, rfl, I1.kept (t' := s1.toks) fun b o e => Heap.get?_push_of_some _ e, turn_list a _, ⟨_, Heap.get?_push_size _ rfl, rfl, rfl⟩, fun b hb => ?_, q⟩
    have e : b = s1.heap.objs.size := by simpa using hb
    subst e
    exact I1.fpOk (Nat.le_refl _) (I1.hok.fresh (Nat.le_refl _))
abbrev SS (X : Cx) (W : WX) (ca : CA) (fz : Nat → Bool) (F : FC) (st : Stmt) (x : Sx) : Prop := PS X st (tst X.K ca W (evS (apart fz F) x))
abbrev SSs (X : Cx) (W : WX) (ca : CA) (fz : Nat → Bool) (F : FC) (st : List Stmt) (x : Sxs) : Prop := PSs X st (tst X.K ca W (evSs (apart fz F) x))
theorem SS.no {st : Stmt} {x : Sx} (hx : x = .bad) : SS X W ca fz F st x := by
  subst hx
  exact PS.no fun _ _ _ => tst_bad
theorem s_block {rec : Stmt → Sx} (ih : ∀ s, SS X W ca fz F s (rec s)) : ∀ sts : List Stmt, SSs X W ca fz F sts (mkSxs rec sts)
  | [] => PSs.imp pss_nil fun Dn σ H ⟨M, r, hp, sd, h1, h2, h3⟩ => nx_now h1 h2 h3
  | s :: sts => by
    refine PSs.imp (pss_cons (ih s) (s_block ih sts)) fun Dn σ H ⟨M, r, hp, sd, h1, h2, h3⟩ => ?_
    refine ⟨M, r, hp, sd, h1, h2, ?_⟩
    have h3' : PostO X.K ca W ⟨M, r, H⟩ ((evS (apart fz F) (rec s) sd hp).seq fun s h => evSs (apart fz F) (mkSxs rec sts) s h) Dn := h3
    cases e : evS (apart fz F) (rec s) sd hp with
    | nx s2 h2' =>
      rw [e] at h3'
      exact fun c' σ' st sr rs => ⟨c'.M, c'.r, h2', s2, sr, rs, PostO.step st h3'⟩
    | rt _ _ => rw [e] at h3'; exact h3'
    | bk _ _ => rw [e] at h3'; exact h3'
    | ct _ _ => rw [e] at h3'; exact h3'
    | ex _ _ _ => rw [e] at h3'; exact h3'
    | bad => rw [e] at h3'; exact h3'
theorem noLc_sw {e : Expr} {t : Option Expr} {l : Nat} {env : Env} (h : noLc e = true) : swapsWith e t l env = pure false := by
  cases e <;> first | rfl | (simp [noLc] at h; done)
/-- a target -/
theorem s_tg (S : SX X W ca c F k) {t : Expr} {g : Tg} (h : cTg c t = some g) : ∃ tg : TG, PG X t tg ∧ ∀ (M : Addr → Prop) (r : List Addr) (H : Hp) (sd s1 : Sl) (σ : L2.St) (d : D) (v : V) (Q : L2.St → Hp → Prop),
    RepS X.K ⟨M, r, H⟩ sd σ → Rep X.K ⟨M, r, H⟩ d v → asg g d sd = some s1 → (∀ σ1, RepS X.K ⟨M, r, H⟩ s1 σ1 → Q σ1 H) → tg v σ H Q := by
  unfold cTg at h
  split at h
  · rename_i x p
    split at h
    · rename_i hx
      simp only [Bool.or_eq_true, beq_iff_eq] at hx
      obtain ⟨i, hi, rfl⟩ := Option.map_eq_some_iff.mp h
      obtain ⟨l1, l2⟩ := S.sto x hx
      refine ⟨gName i, pg_name (by rw [S.N]; exact S.nd) (by rw [S.N]; exact ixOf_get0 hi) l1 l2, fun M r H sd s1 σ d v Q h1 h2 e q => ?_⟩
      cases e
      exact q _ (h1.set h2)
    · cases h
  · cases h
theorem s_for_list (S : SX X W ca c F k) {t it : Expr} {b : List Stmt} {g : Tg} {x : Ex} {y : Sxs} {pos : Pos} (hg : cTg c t = some g) (hi : SE X W ca fz F it x) (hb : SSs X W ca fz F b y) (hs : noSet it = true) :
    SS X W ca fz F (.For t it b [] pos) (.for_ g x y) := by
  obtain ⟨tg, pg, htg⟩ := s_tg S hg
  have hset : ∀ x, foldedSetIterable it X.env x = pure x := fun x => by
    cases it <;> first | rfl | (simp [noSet] at hs; done)
  -- over a tuple, or over a list: by what the value is
  have go : ∀ {Dn : Ends} {σ : L2.St} {H : Hp}, tst X.K ca W (evS (apart fz F) (.for_ g x y)) Dn σ H → te X.K ca W (ev (apart fz F) x) σ H fun v H1 => ∃ M r hp sd d ds, SR X.K ca ⟨M, r, H1⟩ hp ∧ RepS X.K ⟨M, r, H1⟩ sd σ ∧ Rep X.K ⟨M, r, H1⟩ d v ∧ items hp d = some ds ∧ PostO X.K ca W ⟨M, r, H1⟩ (loop (evSs (apart fz F) y) g ds sd hp) Dn := fun {Dn σ H} q => by
    have q1 := tst_e (m := ev (apart fz F) x) (f := fun d s h => match items h d with | none => .bad | some ds => loop (evSs (apart fz F) y) g ds s h) (fun s h => rfl) q
    refine tes_mono q1 fun v H1 ⟨M, r, hp, sd, d, h1, h2, h3, h4⟩ => ?_
    cases e : items hp d with
    | none => rw [e] at h4; exact h4.elim
    | some ds => rw [e] at h4; exact ⟨M, r, hp, sd, d, ds, h1, h2, h3, e, h4⟩
  have step : ∀ {ds : List D} {xs : List V} {M0 : Addr → Prop} {r0 : List Addr} {H0 : Hp} {Dn : Ends} {i : Nat} {σ : L2.St} {H : Hp} {v : V} (hinM : ∀ a ∈ r0, M0 a), Reps X.K ⟨M0, r0, H0⟩ ds xs → xs[i]? = some v → LoopW X.K ca W (evSs (apart fz F) y) g ds M0 r0 H0 Dn i σ H →
      tg v σ H fun σ2 H2 => tst X.K ca W (evSs (apart fz F) y) { Dn with nx := LoopW X.K ca W (evSs (apart fz F) y) g ds M0 r0 H0 Dn (i + 1), ct := LoopW X.K ca W (evSs (apart fz F) y) g ds M0 r0 H0 Dn (i + 1), bk := Dn.nx } σ2 H2 :=
    fun {ds xs M0 r0 H0 Dn i σ H v} hinM rs ex w => by
      obtain ⟨hi, M, r, hp, sd, st, sr, rsd, po⟩ := w
      obtain ⟨d, ed, rd⟩ := rs.get' ex
      have hlt : i < ds.length := (List.getElem?_eq_some_iff.mp ed).1
      have hdrop : ds.drop i = d :: ds.drop (i + 1) := by
        rw [List.drop_eq_getElem_cons hlt]
        congr 1
        exact (List.getElem?_eq_some_iff.mp ed).2
      rw [hdrop, loop] at po
      cases e : asg g d sd with
      | none => rw [e] at po; exact po.elim
      | some s1 =>
        rw [e] at po
        exact htg M r H sd s1 σ d v _ rsd (rd.step hinM st) e fun σ1 rs1 => ⟨M, r, hp, s1, sr, rs1, body_turn hlt st po⟩
  have cases' : ∀ {v : V} {H1 : Hp} {M r hp d ds}, SR X.K ca ⟨M, r, H1⟩ hp → Rep X.K ⟨M, r, H1⟩ d v → items hp d = some ds →
      ∃ a xs, v = .ref a ∧ Reps X.K ⟨M, r, H1⟩ ds xs ∧ ((∀ M' r' H', Step ⟨M, r, H1⟩ ⟨M', r', H'⟩ → SqT X.K H' a xs) ∨ (∀ M' r' H', Step ⟨M, r, H1⟩ ⟨M', r', H'⟩ → SqL X.K H' a xs)) := fun {v H1 M r hp d ds} h1 h3 e => by
    have inM : ∀ a ∈ r, M a := h1.inM
    cases d with
    | tup es =>
      cases e
      simp only [Rep] at h3
      obtain ⟨a, xs, rfl, t, rr⟩ := h3
      exact ⟨a, xs, rfl, rr, .inl fun M' r' H' st => (t.step (c := ⟨M, r, H1⟩) inM st).sq⟩
    | lst es =>
      cases e
      have h3' := h3
      simp only [Rep] at h3'
      obtain ⟨a, xs, rfl, n, t, rr⟩ := h3'
      exact ⟨a, xs, rfl, rr, .inr fun M' r' H' st => .of (st.keep a _ t fun m => n (inM a m))⟩
    | scr ns =>
      cases e
      simp only [Rep] at h3
      obtain ⟨a, rfl, t⟩ := h3
      refine ⟨a, _, rfl, ?_, .inr fun M' r' H' st => (t.step (c := ⟨M, r, H1⟩) inM st).sq⟩
      have : ∀ ns : List Int, Reps X.K ⟨M, r, H1⟩ (ns.map D.int) (ns.map V.int) := fun ns => by
        induction ns with
        | nil => simp only [List.map_nil, Reps]
        | cons n ns ih => simp only [List.map_cons, Reps]; exact ⟨_, _, rfl, rep_int, ih⟩
      exact this ns
    | _ => simp [items] at e
  refine PS.imp (ps_for S.pass S.calm (pi_any hi.v) pg hb hset) fun Dn σ H q => ?_
  refine tes_mono (go q) fun v H1 ⟨M, r, hp, sd, d, ds, h1, h2, h3, h4, h5⟩ => ?_
  obtain ⟨a, xs, e, rr, hq⟩ := cases' h1 h3 h4
  subst e
  have hl := rr.length
  have w0 : LoopW X.K ca W (evSs (apart fz F) y) g ds M r H1 Dn 0 σ H1 := ⟨Nat.zero_le _, M, r, hp, sd, Step.refl _, h1, h2, h5⟩
  have wend : ∀ {σ : L2.St} {H : Hp}, LoopW X.K ca W (evSs (apart fz F) y) g ds M r H1 Dn ds.length σ H → Dn.nx σ H := fun {σ H} w => by
    obtain ⟨_, M', r', hp', sd', st, sr, rsd, po⟩ := w
    rw [List.drop_length] at po
    exact nx_now sr rsd po
  rcases hq with hq | hq
  · refine .inl ⟨a, rfl, ⟨xs, hq _ _ _ (Step.refl _)⟩, for_tup (xs := xs) (LoopW X.K ca W (evSs (apart fz F) y) g ds M r H1 Dn) w0 (fun i σ H _ w => ?_) (fun i z σ H ez w => step h1.inM rr ez w) (fun σ H w => wend (by rw [← hl]; exact w))⟩
    obtain ⟨_, M', r', hp', sd', st, _⟩ := w
    exact hq _ _ _ st
  · refine .inr ⟨a, rfl, ⟨xs, hq _ _ _ (Step.refl _)⟩, for_list (xs := xs) (LoopW X.K ca W (evSs (apart fz F) y) g ds M r H1 Dn) w0 (fun i σ H _ w => ?_) (fun i z σ H ez w => step h1.inM rr ez w) (fun σ H w => wend (by rw [← hl]; exact w))⟩
    obtain ⟨_, M', r', hp', sd', st, _⟩ := w
    exact hq _ _ _ st
end
end DI
set_option Elab.async false
set_option linter.all false
set_option maxRecDepth 100000
namespace DI
open PySem PySem.Spec PyProof.Rows L2
section
variable {X : Cx} {W : WX} {ca : CA} {c : CE} {fz : Nat → Bool} {F : FC} {k : Nat}
theorem s_ret {e : Expr} {x : Ex} {pos : Pos} (he : SE X W ca fz F e x) : SS X W ca fz F (.Return (some e) pos) (.ret x) := by
  refine PS.imp (ps_ret he.v) fun Dn σ H q => ?_
  have q1 := tst_e (m := ev (apart fz F) x) (f := fun d s h => .rt d h) (fun s h => rfl) q
  exact tes_mono q1 fun v H1 ⟨M, r, hp, sd, d, h1, h2, h3, h4⟩ => rt_now h1 h3 h4
theorem s_retN {pos : Pos} : SS X W ca fz F (.Return none pos) .retN := by
  refine PS.imp ps_retN fun Dn σ H ⟨M, r, hp, sd, h1, h2, h3⟩ => ?_
  exact rt_now h1 rep_non h3
theorem s_pass {pos : Pos} : SS X W ca fz F (.Pass pos) .pass := PS.imp ps_pass fun Dn σ H ⟨M, r, hp, sd, h1, h2, h3⟩ => nx_now h1 h2 h3
theorem s_expr {e : Expr} {x : Ex} {pos : Pos} (he : SE X W ca fz F e x) (hn : noLc e = true) : SS X W ca fz F (.Expr e pos) (.expr x) := by
  refine PS.imp (ps_expr he.v (noLc_sw hn)) fun Dn σ H q => ?_
  have q1 := tst_e (m := ev (apart fz F) x) (f := fun d s h => .nx s h) (fun s h => rfl) q
  exact tes_mono q1 fun v H1 ⟨M, r, hp, sd, d, h1, h2, h3, h4⟩ => nx_now h1 h2 h4
theorem s_set (S : SX X W ca c F k) {e : Expr} {x : Ex} {y : Str} {i : Nat} {py pos : Pos} (he : SE X W ca fz F e x) (hn : noLc e = true) (hx : c.sc.lookup y = some .local ∨ c.sc.lookup y = some .cell) (hi : ixOf y c.N 0 = some i) :
    SS X W ca fz F (.Assign [.Name y py] e pos) (.set i x) := by
  obtain ⟨l1, l2⟩ := S.sto y hx
  refine PS.imp (ps_set (i := i) (by rw [S.N]; exact S.nd) (by rw [S.N]; exact ixOf_get0 hi) l1 he.v (noLc_sw hn) l2) fun Dn σ H q => ?_
  have q1 := tst_e (m := ev (apart fz F) x) (f := fun d s h => .nx (s.set i (some d)) h) (fun s h => rfl) q
  exact tes_mono q1 fun v H1 ⟨M, r, hp, sd, d, h1, h2, h3, h4⟩ => nx_now h1 (h2.set h3) h4
theorem s_if {e : Expr} {x : Ex} {a b : List Stmt} {y z : Sxs} {pos : Pos} (he : SE X W ca fz F e x) (ha : SSs X W ca fz F a y) (hb : SSs X W ca fz F b z) : SS X W ca fz F (.If e a b pos) (.ifs x y z) := by
  refine PS.imp (ps_if he.t ha hb) fun Dn σ H q => ?_
  have q1 := tst_t (m := ev (apart fz F) x) (f := fun t s h => if t = true then evSs (apart fz F) y s h else evSs (apart fz F) z s h) (fun s h => ?_) q
  · refine tes_mono q1 fun t H1 ⟨M, r, hp, sd, h1, h2, h3⟩ => ?_
    cases t with
    | true => exact ⟨M, r, hp, sd, h1, h2, h3⟩
    | false => exact ⟨M, r, hp, sd, h1, h2, h3⟩
  · simp only [evS, tr]
    cases ev (apart fz F) x s h with
    | ok d h' =>
      simp only [R.to_ok, R.bind_ok]
      cases e2 : truth h' d with
      | none => rfl
      | some t => cases t <;> rfl
    | exc _ _ => rfl
    | bad => rfl
theorem sS (S : SX X W ca c F k) : ∀ (n : Nat) (st : Stmt), SS X W ca fz F st (cS c n st)
  | 0, st => SS.no rfl
  | n + 1, st => by
    have ih := sS S n
    unfold cS
    split
    · exact s_ret (sE S _ _)
    · exact s_retN
    · exact s_pass
    · split
      · rename_i h; exact s_expr (sE S _ _) h
      · exact SS.no rfl
    · split
      · rename_i h
        simp only [Bool.and_eq_true, Bool.or_eq_true, beq_iff_eq] at h
        split
        · rename_i i hi; exact s_set S (sE S _ _) h.1 h.2 hi
        · exact SS.no rfl
      · exact SS.no rfl
    · exact s_if (sE S _ _) (s_block ih _) (s_block ih _)
    · split
      · rename_i g hg
        split
        · rename_i hs; exact s_for_list S hg (sE S _ _) (s_block ih _) hs
        · exact SS.no rfl
      · exact SS.no rfl
    · exact SS.no rfl
end

/-! ## 12. defs -/
/-- what is told of a def of the text by hand: its statement, its parameters, whether what it hands back is frozen -/
structure FnT where
  name : Str
  ps : List Str
  frz : Bool
  st : Stmt
/-- the def's own names: the parameters, then the others -/
def ownNames (ps : List Str) (sc : List (Str × NameKind)) : List Str :=
  ps ++ (sc.filterMap fun p => match p.2 with
    | .local | .cell => if ps.contains p.1 then none else some p.1
    | _ => none)
structure PT0 where
  fns : List FnT
  consts : List (Str × D)
  mu : List (Nat × Nat)
def PT0.ce (p : PT0) (f : FnT) : CE := ⟨ownNames f.ps (defScope f.st).names, (defScope f.st).names, p.fns.map (·.name), p.consts, p.mu⟩
def PT0.fn (p : PT0) (f : FnT) : Fn := cFn (p.ce f) f.ps.length f.frz (defBody f.st)
def PT0.prog (p : PT0) : List Fn := p.fns.map p.fn
/-- what is to be seen of a def's scope -/
def scopeOk (f : FnT) : Bool :=
  (defScope f.st).kind == .function && !(defScope f.st).isCoroutine && !(defScope f.st).isGenerator &&
  decide (ownNames f.ps (defScope f.st).names).Nodup && f.ps.all (fun x => (defScope f.st).names.lookup x == some .local || (defScope f.st).names.lookup x == some .cell) &&
  (defScope f.st).names.all fun y => y.2 != .free
theorem take_own (ps : List Str) (sc : List (Str × NameKind)) : (ownNames ps sc).take ps.length = ps := by simp [ownNames]
theorem scope_of {f : FnT} (h : scopeOk f = true) : FnScope (ownNames f.ps (defScope f.st).names) f.ps (defScope f.st) := by
  simp only [scopeOk, Bool.and_eq_true, Bool.not_eq_true', beq_iff_eq, decide_eq_true_eq, List.all_eq_true, Bool.or_eq_true, bne_iff_ne] at h
  obtain ⟨⟨⟨⟨⟨h1, h2⟩, h3⟩, h4⟩, h5⟩, h6⟩ := h
  exact ⟨h1, h2, h3, h4, take_own _ _, h5, h6⟩
/-- where a def of the text stands -/
structure FnW (K : PySem.W.Frag) (mg : Str → Option Value) (t : FnT) (f : Addr) (fd : FuncData) : Prop where
  fn : Fun K t.name t.name t.st f fd
  at_ : mg t.name = some (.ref f)
  b : Binds K fd t.ps []
structure PW0 (K : PySem.W.Frag) (mg : Str → Option Value) (p : PT0) : Prop where
  fns : ∀ (i : Nat) t, p.fns[i]? = some t → ∃ f fd, FnW K mg t f fd
  sc : ∀ t ∈ p.fns, scopeOk t = true
  cst : ∀ x d, p.consts.lookup x = some d → ∃ v u, mg x = some u ∧ RelV v u ∧ ∀ cf, Rep K cf d v
  blt : ∀ x ∈ bltNames, mg x = none

section
variable {P : Program} {w : World} {K : PySem.W.Frag} {mg : Str → Option Value} {base : Heap} {ca : CA}
end
end DI
set_option Elab.async false
set_option linter.all false
set_option maxRecDepth 100000
namespace DI
open PySem PySem.Spec PyProof.Rows L2
section
variable {P : Program} {w : World} {K : PySem.W.Frag} {mg : Str → Option Value} {base : Heap} {ca : CA}
theorem ran_post {E : XK} {c : Cf} {o : O} {Q : VK} (q : Post K ca (fun cls d _ H => E cls d H) (Rep K) ([] : L2.St) c (ran o) Q) :
    PostO K ca (fun cls d _ H => E cls d H) c o { nx := fun _ H' => Q .non H', rt := Q } := by
  cases o with
  | nx s h => exact fun c' σ' st sr _ => q c' .non st sr rep_non
  | rt d h => exact q
  | bk _ _ => exact q.elim
  | ct _ _ => exact q.elim
  | ex e s h => exact fun c' σ' cls dx st sr _ rx => q c' cls dx st sr rx
  | bad => exact q.elim
theorem reps_start {c : Cf} {ds : List D} {vs : List V} {N : List Str} (h : Reps K c ds vs) : RepS K c (ds.map some ++ List.replicate (N.length - ds.length) none) (L2.start N vs) := by
  have hl := h.length
  unfold L2.start
  refine ⟨by simp [hl], fun i d e => ?_⟩
  by_cases hi : i < ds.length
  · rw [List.getElem?_append_left (by simpa using hi), List.getElem?_map] at e
    cases q : ds[i]? with
    | none => rw [q] at e; cases e
    | some d' =>
      rw [q] at e
      cases e
      obtain ⟨x, ex, rx⟩ := h.get q
      refine ⟨x, ?_, rx⟩
      rw [List.getElem?_append_left (by simp; omega), List.getElem?_map, ex]
      rfl
  · rw [List.getElem?_append_right (by simpa using hi), List.getElem?_replicate] at e
    split at e <;> cases e
theorem sx_of {p : PT0} (pw : PW0 K mg p) {t : FnT} {f : Addr} {cdv : Value} {A : Around} {outer : List Env} {s : Shared} {H : Hp} {E : XK} {k : Nat} (ht : t ∈ p.fns)
    (hr : Room k (A.deeper (envOfC t.name (defScope t.st) s.heap.objs.size f cdv)))
    (ih : ∀ (i : Nat) (x : Str), (p.fns.map (·.name))[i]? = some x → FnAt (cxOf (L2.CX P w) P w K mg base (ownNames t.ps (defScope t.st).names) t.name (defScope t.st) f cdv A outer s H E) ca (call p.prog k) k i x) :
    SX (cxOf (L2.CX P w) P w K mg base (ownNames t.ps (defScope t.st).names) t.name (defScope t.st) f cdv A outer s H E) (fun cls d _ H => E cls d H) ca (p.ce t) (call p.prog k) k where
  tk := takes_of rfl rfl rfl rfl
  pass := PassesOwn.leaving
  calm := rfl
  room := hr
  N := rfl
  nd := (scope_of (pw.sc t ht)).nd
  loc := fun x h => by
    unfold isLoc at h
    have e : (p.ce t).sc = (defScope t.st).names := rfl
    rw [e] at h
    unfold Vis
    show (defScope t.st).names.lookup x = _ ∨ (defScope t.st).names.lookup x = _ ∨ (defScope t.st).names.lookup x = _
    split at h
    · rename_i q; exact .inl q
    · rename_i q; exact .inr (.inl q)
    · rename_i q; exact .inr (.inr q)
    · cases h
  sto := fun x h => ⟨h, .inl rfl⟩
  glb := fun x h => h
  cst := pw.cst
  fns := fun i x h => ih i x h
  blt := pw.blt
theorem sound (p : PT0) (pw : PW0 K mg p) : ∀ (k i : Nat) (t : FnT) (f : Addr) (fd : FuncData), p.fns[i]? = some t → FnW K mg t f fd → FnOk P w K mg base (L2.CX P w) k f fd t.ps (spF K ca (call p.prog k) i)
  | 0, i, t, f, fd, _, _ => ⟨fun vs H Q E ⟨_, _, _, _, _, _, h⟩ => h.elim, fun A outer s H args us vs Q E _ _ _ _ ⟨_, _, _, _, _, _, h⟩ => h.elim⟩
  | k + 1, i, t, f, fd, hi, fw => by
    have hp : p.prog[i]? = some (p.fn t) := by simp [PT0.prog, hi]
    have out : ∀ {vs H Q E}, spF K ca (call p.prog (k + 1)) i vs H Q E → ∃ M r hp ds, SR K ca ⟨M, r, H⟩ hp ∧ Reps K ⟨M, r, H⟩ ds vs ∧ ds.length = t.ps.length ∧
        Post K ca (fun cls d _ H => E cls d H) (Rep K) ([] : L2.St) ⟨M, r, H⟩ (ran (evSs (apart (fzs p.prog) (call p.prog k)) (p.fn t).body (ds.map some ++ List.replicate ((p.fn t).n - ds.length) none) hp)) Q := fun {vs H Q E} ⟨M, r, hp', ds, h1, h2, h3⟩ => by
      simp only [call, hp] at h3
      split at h3
      · rename_i hl
        exact ⟨M, r, hp', ds, h1, h2, hl, h3⟩
      · exact h3.elim
    refine fw.fn.okX (scope_of (pw.sc t (List.mem_of_getElem? hi))) (fun vs H Q E h => ?_) fun cdv A outer s H vs Q E hr h => ?_
    · obtain ⟨M, r, hp', ds, h1, h2, hl, _⟩ := out h
      rw [h2.length, hl]
    · obtain ⟨M, r, hp', ds, h1, h2, hl, h3⟩ := out h
      have S := sx_of (P := P) (w := w) (base := base) (ca := ca) (E := E) (outer := outer) (H := H) pw (List.mem_of_getElem? hi) hr fun j x hx => by
        rw [List.getElem?_map] at hx
        cases q : p.fns[j]? with
        | none => rw [q] at hx; cases hx
        | some t' =>
          rw [q] at hx
          cases hx
          obtain ⟨f', fd', fw'⟩ := pw.fns j t' q
          exact ⟨f', fd', t'.ps, fw'.at_, fw'.fn.kp, fw'.b, sound p pw k j t' f' fd' q fw'⟩
      refine ⟨_, s_block (fz := fzs p.prog) (fun st => sS S 50 st) (defBody t.st), M, r, hp', _, h1, reps_start h2, ran_post h3⟩
end
/-- the end: the law's def is the one at il -/
theorem law_walk {l : PySem.W.OpenLaw} {q : Program} {loose : List Str} {XP : (Str → Option Value) → Heap → Prop} {YP : World → Heap → Prop} {d : DefRec} {K : Params → PySem.W.Frag} (p : PT0) (il : Nat) (t : FnT) (k : Nat)
    (hn : l.most = some 63) (hdf : d.params.defaults = []) (hr : Room k callerA) (hil : p.fns[il]? = some t) (ht : t.name = d.name) (hps : t.ps = [Str.ofString "script"])
    (hY : ∀ (w : World) (h : Heap), YP w h → (K w.params).In h)
    (F : ∀ (w : World) (mg : Str → Option Value) (h : Heap), (K w.params).In h → h.Ns mainGlobals mg → PW0 (K w.params) mg p)
    (hb : ∀ (K : PySem.W.Frag) (f : Addr) (fd : FuncData), Fun K t.name t.name t.st f fd → ∀ (s : Shared) (u : Value), BindsTo s fd ⟨[u], []⟩ [(Str.ofString "script", u)])
    (law : ∀ ns : List Int, ns.length ≤ 63 → ∃ h, call p.prog k il [.scr ns] [] = .ok (.bl true) h) :
    PySem.W.WalkO q loose XP YP l.row.toRowW d [] (fun f vs => PySem.call f vs) := by
  refine L2.walk_of (n := 63) (k := k) (x := "script") (K := K) (CX := fun w => L2.CX l.prog w) (sp := fun w => spF (K w.params) (fun _ => none) (call p.prog k) il) hn (by rw [sz_eq]; decide) hdf hr hY (fun w mg fa h KX G hmg => ?_) (fun w H a ns hl hO hS => ?_) fun w H s e s' h => ?_
  · have pw := F w mg h KX G
    obtain ⟨f, fd, fw⟩ := pw.fns il t hil
    have e := fw.at_
    rw [ht, hmg] at e
    cases e
    refine ⟨fd, hb _ _ fd fw.fn, fun base _ _ => ?_⟩
    have := sound (P := l.prog) (w := w) (base := base) (ca := fun _ => none) p pw k il t fa fd hil fw
    rw [hps] at this
    exact this
  · obtain ⟨h, e⟩ := law ns hl
    refine ⟨fun _ => False, [], [], [.scr ns], ⟨rfl, List.nodup_nil, fun a m => by simp at m, fun a m => m.elim, fun i a o e => by simp at e⟩, ?_, ?_⟩
    · simp only [Reps, Rep]
      refine ⟨_, _, rfl, ⟨a, rfl, ?_⟩, rfl⟩
      rcases hS with (hS | ⟨o, hS⟩) | hS
      · rcases hO a with z | ⟨o, xs, z⟩
        · rw [hS] at z; cases z
        · rw [hS] at z; cases z
      · exact .inl ⟨fun z => z, o, hS⟩
      · exact .inr hS
    · rw [e]
      intro c' y _ _ ry
      exact bl_of ry
  · obtain ⟨_, _, _, _, _, _, _, _, _, _, _, _, z⟩ := h
    exact z
/-- a def of the text, by what the head has found -/
theorem fnw_mk {K : PySem.W.Frag} {h : Heap} {mg : Str → Option Value} {n : Str} {ps : List Str} {z : Bool} {st : Stmt} {f : Addr} {oc : Value} {od an : Option Addr} {osl : Array (Option Value)} {kV doc pm cdv ct : Value} (X : K.In h) (G : h.Ns mainGlobals mg)
    (a : PySem.W.nsIn K mainGlobals n = some (some (.ref f)))
    (l : K.lookup f = some ⟨oc, od, .func (PySem.W.fnOf n n (defArgs st) (defBody st) (defScope st) .none kV doc pm an cdv ct), osl⟩)
    (c : PySem.W.codeIn K cdv n = true) (k : PySem.W.keepIn K (.ref f) = true)
    (b : ∀ (kV doc pm : Value) (an : Option Addr) (cdv ct : Value) (us : List Value), us.length = ps.length → bindArgs (PySem.W.fnOf n n (defArgs st) (defBody st) (defScope st) .none kV doc pm an cdv ct) ⟨us, []⟩ = pure (ps.zip us)) :
    ∃ f fd, FnW K mg ⟨n, ps, z, st⟩ f fd :=
  ⟨f, _, fun_mk l c k, PySem.W.mg_of X G a, (fun_mk l c k).binds b⟩
def AllP {α : Type} (P : α → Prop) : List α → Prop
  | [] => True
  | x :: r => P x ∧ AllP P r
theorem AllP.cons {α : Type} {P : α → Prop} {x : α} {r : List α} (h : P x) (t : AllP P r) : AllP P (x :: r) := ⟨h, t⟩
theorem AllP.nil {α : Type} {P : α → Prop} : AllP P [] := trivial
theorem AllP.mem {α : Type} {P : α → Prop} : ∀ {l : List α}, AllP P l → ∀ x ∈ l, P x
  | [], _, _, h => by cases h
  | y :: r, ⟨h1, h2⟩, x, h => by
    rcases List.mem_cons.mp h with rfl | h
    · exact h1
    · exact AllP.mem h2 x h
def CstW (K : PySem.W.Frag) (mg : Str → Option Value) (p : Str × D) : Prop := ∃ v u, mg p.1 = some u ∧ RelV v u ∧ ∀ cf, Rep K cf p.2 v
theorem cst_int {K : PySem.W.Frag} {h : Heap} {mg : Str → Option Value} {n : Str} {i : Int} {tk : Tok} (X : K.In h) (G : h.Ns mainGlobals mg) (a : PySem.W.nsIn K mainGlobals n = some (some (.int i tk))) : CstW K mg (n, .int i) :=
  ⟨.int i, _, PySem.W.mg_of X G a, ⟨tk, rfl⟩, fun _ => rep_int⟩
theorem cst_str {K : PySem.W.Frag} {h : Heap} {mg : Str → Option Value} {n x : Str} {tk : Tok} (X : K.In h) (G : h.Ns mainGlobals mg) (a : PySem.W.nsIn K mainGlobals n = some (some (.str x tk))) (ok : PyData.strOk x = true) (hl : x.cps.size ≤ 16777216) : CstW K mg (n, strD x) :=
  ⟨.str x, _, PySem.W.mg_of X G a, ⟨tk, rfl⟩, fun _ => by
    simp only [Rep, strD, mkS]
    exact ⟨ok, by rw [sz_eq]; simpa using hl, trivial⟩⟩
theorem pw_mk {K : PySem.W.Frag} {mg : Str → Option Value} {p : PT0} (h1 : AllP (fun t => ∃ f fd, FnW K mg t f fd) p.fns) (h2 : p.fns.all scopeOk = true) (h3 : AllP (CstW K mg) p.consts) (h4 : AllP (fun x => mg x = none) bltNames) : PW0 K mg p where
  fns := fun i t h => h1.mem t (List.mem_of_getElem? h)
  sc := fun t h => List.all_eq_true.mp h2 t h
  cst := fun x d h => by
    have : (x, d) ∈ p.consts := PySem.mem_of_lookup h
    exact h3.mem _ this
  blt := fun x h => h4.mem x h
theorem binds_law {K : PySem.W.Frag} {n : Str} {st : Stmt} (h : ∀ (kV doc pm : Value) (an : Option Addr) (cdv ct u : Value), bindArgs (PySem.W.fnOf n n (defArgs st) (defBody st) (defScope st) .none kV doc pm an cdv ct) ⟨[u], []⟩ = pure [(Str.ofString "script", u)])
    (f : Addr) (fd : FuncData) (F : Fun K n n st f fd) (s : Shared) (u : Value) : BindsTo s fd ⟨[u], []⟩ [(Str.ofString "script", u)] := by
  obtain ⟨oc, od, kV, doc, pm, an, cdv, ct, osl, rfl, lk, hcd⟩ := F.ex
  exact .of_eq (h _ _ _ _ _ _ _)
end DI
set_option Elab.async false
set_option linter.all false
set_option maxRecDepth 100000
namespace DI
open PySem
/-! ## 13. words for the plain side -/
def S (s : String) : List Nat := s.toList.map Char.toNat
theorem S_inj {a b : String} (h : S a = S b) : a = b := by
  have : Function.Injective Char.toNat := fun x y h => Char.ext (UInt32.toNat.inj h)
  have e : a.toList = b.toList := (List.map_inj_right (fun x y h => this h)).mp h
  exact String.toList_inj.mp e
@[simp] theorem S_beq (a b : String) : (S a == S b) = (a == b) := by
  by_cases h : a = b
  · subst h; simp
  · have : S a ≠ S b := fun z => h (S_inj z)
    rw [beq_eq_false_iff_ne.mpr h, beq_eq_false_iff_ne.mpr this]
@[simp] theorem S_eq (a b : String) : (S a = S b) = (a = b) := propext ⟨S_inj, fun h => h ▸ rfl⟩
@[simp] theorem ev_var {F : FC} {s : Sl} {h : AH} {i : Nat} : ev F (.var i) s h = (match s[i]? with | some (some d) => .ok d h | _ => .bad) := by first | rfl | simp only [ev, evs, evS, evSs]
@[simp] theorem ev_cst {F : FC} {s : Sl} {h : AH} {d : D} : ev F (.cst d) s h = .ok d h := by first | rfl | simp only [ev, evs, evS, evSs]
@[simp] theorem ev_bin {F : FC} {s : Sl} {h : AH} {op : Operator} {mu : Bool} {a b : Ex} : ev F (.bin op mu a b) s h = ((ev F a s h).bind fun x h => (ev F b s h).bind fun y h => (R.opt (binop op h x y) h).bind fun d h => mkL mu d h) := by first | rfl | simp only [ev, evs, evS, evSs]
@[simp] theorem ev_cmp {F : FC} {s : Sl} {h : AH} {op : CmpOp} {a b : Ex} : ev F (.cmp op a b) s h = ((ev F a s h).bind fun x h => (ev F b s h).bind fun y h => R.opt (cmpop op h x y) h) := by first | rfl | simp only [ev, evs, evS, evSs]
@[simp] theorem ev_isN {F : FC} {s : Sl} {h : AH} {a : Ex} : ev F (.isN a) s h = ((ev F a s h).bind fun x h => .ok (.bl x.isNon) h) := by first | rfl | simp only [ev, evs, evS, evSs]
@[simp] theorem ev_notN {F : FC} {s : Sl} {h : AH} {a : Ex} : ev F (.notN a) s h = ((ev F a s h).bind fun x h => .ok (.bl (!x.isNon)) h) := by first | rfl | simp only [ev, evs, evS, evSs]
@[simp] theorem ev_and {F : FC} {s : Sl} {h : AH} {a b : Ex} : ev F (.and_ a b) s h = ((ev F a s h).bind fun x h => match truth h x with | some true => ev F b s h | some false => .ok x h | none => .bad) := by first | rfl | simp only [ev, evs, evS, evSs]
@[simp] theorem ev_or {F : FC} {s : Sl} {h : AH} {a b : Ex} : ev F (.or_ a b) s h = ((ev F a s h).bind fun x h => match truth h x with | some true => .ok x h | some false => ev F b s h | none => .bad) := by first | rfl | simp only [ev, evs, evS, evSs]
@[simp] theorem ev_not {F : FC} {s : Sl} {h : AH} {a : Ex} : ev F (.not_ a) s h = ((ev F a s h).bind fun x h => (R.opt (truth h x) h).bind fun b h => .ok (.bl (!b)) h) := by first | rfl | simp only [ev, evs, evS, evSs]
@[simp] theorem ev_tup {F : FC} {s : Sl} {h : AH} {es : Exs} : ev F (.tup es) s h = ((evs F es s h).bind fun xs h => if xs.length ≤ 16777216 then .ok (.tup xs) h else .bad) := by first | rfl | simp only [ev, evs, evS, evSs]
@[simp] theorem ev_lst {F : FC} {s : Sl} {h : AH} {mu : Bool} {es : Exs} : ev F (.lst mu es) s h = ((evs F es s h).bind fun xs h => if xs.length ≤ 16777216 then mkL mu (.lst xs) h else .bad) := by first | rfl | simp only [ev, evs, evS, evSs]
@[simp] theorem ev_idx {F : FC} {s : Sl} {h : AH} {a i : Ex} : ev F (.idx a i) s h = ((ev F a s h).bind fun x h => (ev F i s h).bind fun y h => R.opt (idxD h x y) h) := by first | rfl | simp only [ev, evs, evS, evSs]
@[simp] theorem ev_call {F : FC} {s : Sl} {h : AH} {f : Nat} {es : Exs} : ev F (.call f es) s h = ((evs F es s h).bind fun xs h => F f xs h) := by first | rfl | simp only [ev, evs, evS, evSs]
@[simp] theorem ev_isi {F : FC} {s : Sl} {h : AH} {e : Ex} {cs : List Cl} : ev F (.isi e cs) s h = ((ev F e s h).bind fun x h => (R.opt (isi1 h cs x) h).bind fun b h => .ok (.bl b) h) := by first | rfl | simp only [ev, evs, evS, evSs]
@[simp] theorem ev_bi {F : FC} {s : Sl} {h : AH} {b : Bi} {mu : Bool} {es : Exs} : ev F (.bi b mu es) s h = ((evs F es s h).bind fun xs h => (R.opt (biD b h xs) h).bind fun d h => mkL mu d h) := by first | rfl | simp only [ev, evs, evS, evSs]
@[simp] theorem evs_nil {F : FC} {s : Sl} {h : AH} : evs F .nil s h = .ok [] h := by first | rfl | simp only [ev, evs, evS, evSs]
@[simp] theorem evs_cons {F : FC} {s : Sl} {h : AH} {e : Ex} {es : Exs} : evs F (.cons e es) s h = ((ev F e s h).bind fun x h => (evs F es s h).bind fun xs h => .ok (x :: xs) h) := by first | rfl | simp only [ev, evs, evS, evSs]
@[simp] theorem evS_pass {F : FC} {s : Sl} {h : AH} : evS F .pass s h = .nx s h := by first | rfl | simp only [ev, evs, evS, evSs]
@[simp] theorem evS_ret {F : FC} {s : Sl} {h : AH} {e : Ex} : evS F (.ret e) s h = ((ev F e s h).to s fun d h => .rt d h) := by first | rfl | simp only [ev, evs, evS, evSs]
@[simp] theorem evS_retN {F : FC} {s : Sl} {h : AH} : evS F .retN s h = .rt .non h := by first | rfl | simp only [ev, evs, evS, evSs]
@[simp] theorem evS_expr {F : FC} {s : Sl} {h : AH} {e : Ex} : evS F (.expr e) s h = ((ev F e s h).to s fun _ h => .nx s h) := by first | rfl | simp only [ev, evs, evS, evSs]
@[simp] theorem evS_set {F : FC} {s : Sl} {h : AH} {i : Nat} {e : Ex} : evS F (.set i e) s h = ((ev F e s h).to s fun d h => .nx (s.set i (some d)) h) := by first | rfl | simp only [ev, evs, evS, evSs]
@[simp] theorem evS_ifs {F : FC} {s : Sl} {h : AH} {c : Ex} {t e : Sxs} : evS F (.ifs c t e) s h = ((ev F c s h).to s fun d h => match truth h d with | some true => evSs F t s h | some false => evSs F e s h | none => .bad) := by first | rfl | simp only [ev, evs, evS, evSs]
@[simp] theorem evS_for {F : FC} {s : Sl} {h : AH} {g : Tg} {it : Ex} {b : Sxs} : evS F (.for_ g it b) s h = ((ev F it s h).to s fun d h => match items h d with | none => .bad | some ds => loop (evSs F b) g ds s h) := by first | rfl | simp only [ev, evs, evS, evSs]
@[simp] theorem evSs_nil {F : FC} {s : Sl} {h : AH} : evSs F .nil s h = .nx s h := by first | rfl | simp only [ev, evs, evS, evSs]
@[simp] theorem evSs_cons {F : FC} {s : Sl} {h : AH} {x : Sx} {xs : Sxs} : evSs F (.cons x xs) s h = ((evS F x s h).seq fun s h => evSs F xs s h) := by first | rfl | simp only [ev, evs, evS, evSs]

@[simp] theorem truth_bl {h : AH} {b : Bool} : truth h (.bl b) = some b := rfl
@[simp] theorem truth_non {h : AH} : truth h .non = some false := rfl
@[simp] theorem truth_int {h : AH} {i : Int} : truth h (.int i) = some (i != 0) := rfl
@[simp] theorem eqD_int {h : AH} {i j : Int} : eqD h (.int i) (.int j) = some (decide (i = j)) := by simp [eqD, now, D.dat, D.dep, eqv]; rfl
@[simp] theorem eqD_str {h : AH} {x y : List Nat} : eqD h (.str x) (.str y) = some (decide (x = y)) := by simp [eqD, now, D.dat, D.dep, eqv, Bool.beq_eq_decide_eq]
@[simp] theorem cmp_eq {h : AH} {x y : D} : cmpop .Eq h x y = (eqD h x y).map D.bl := rfl
@[simp] theorem cmp_ne {h : AH} {x y : D} : cmpop .NotEq h x y = (eqD h x y).map fun b => D.bl (!b) := rfl
@[simp] theorem cmp_lt {h : AH} {x y : Int} : cmpop .Lt h (.int x) (.int y) = some (.bl (decide (x < y))) := rfl
@[simp] theorem cmp_le {h : AH} {x y : Int} : cmpop .LtE h (.int x) (.int y) = some (.bl (decide (x ≤ y))) := rfl
@[simp] theorem cmp_gt {h : AH} {x y : Int} : cmpop .Gt h (.int x) (.int y) = some (.bl (decide (y < x))) := rfl
@[simp] theorem cmp_ge {h : AH} {x y : Int} : cmpop .GtE h (.int x) (.int y) = some (.bl (decide (y ≤ x))) := rfl
@[simp] theorem bin_add {h : AH} {x y : Int} : binop .Add h (.int x) (.int y) = some (.int (x + y)) := rfl
@[simp] theorem bin_sub {h : AH} {x y : Int} : binop .Sub h (.int x) (.int y) = some (.int (x - y)) := rfl
@[simp] theorem bin_mul {h : AH} {x y : Int} : binop .Mult h (.int x) (.int y) = if (-18446744073709551616 < x ∧ x < 18446744073709551616) ∨ (-18446744073709551616 < y ∧ y < 18446744073709551616) then some (.int (x * y)) else none := rfl
@[simp] theorem bin_div {h : AH} {x y : Int} : binop .FloorDiv h (.int x) (.int y) = if 0 < y ∧ y < 18446744073709551616 then some (.int (x / y)) else none := rfl
@[simp] theorem bin_mod {h : AH} {x y : Int} : binop .Mod h (.int x) (.int y) = if 0 < y then some (.int (x % y)) else none := rfl
@[simp] theorem bin_pow {h : AH} {x y : Int} : binop .Pow h (.int x) (.int y) = if 0 ≤ y ∧ y ≤ 1000000 ∧ x.natAbs < 2 ^ 64 then some (.int (x ^ y.toNat)) else none := rfl
@[simp] theorem mkL_f {d : D} {h : AH} : mkL false d h = .ok d h := by cases d <;> rfl
@[simp] theorem mkL_t {ds : List D} {h : AH} : mkL true (.lst ds) h = .ok (.ref h.length) (h ++ [.lst ds]) := rfl
@[simp] theorem isi_i {h : AH} {cs : List Cl} {i : Int} : isi1 h cs (.int i) = some (cs.any fun c => isCl c (.int i)) := rfl
@[simp] theorem isi_b {h : AH} {cs : List Cl} {i : Bool} : isi1 h cs (.bl i) = some (cs.any fun c => isCl c (.bl i)) := rfl
@[simp] theorem isi_s {h : AH} {cs : List Cl} {i : List Nat} : isi1 h cs (.str i) = some (cs.any fun c => isCl c (.str i)) := rfl
@[simp] theorem isi_t {h : AH} {cs : List Cl} {i : List D} : isi1 h cs (.tup i) = some (cs.any fun c => isCl c (.tup i)) := rfl
@[simp] theorem isi_l {h : AH} {cs : List Cl} {i : List D} : isi1 h cs (.lst i) = some (cs.any fun c => isCl c (.lst i)) := rfl
@[simp] theorem ran_rt {d : D} {h : AH} : ran (.rt d h) = .ok d h := rfl
@[simp] theorem ran_nx {s : Sl} {h : AH} : ran (.nx s h) = .ok .non h := rfl
@[simp] theorem ran_ex {e : EV} {s : Sl} {h : AH} : ran (.ex e s h) = .exc e h := rfl
@[simp] theorem idx_tup {h : AH} {ds : List D} {i : Int} : idxD h (.tup ds) (.int i) = atL ds i := rfl
@[simp] theorem idx_lst {h : AH} {ds : List D} {i : Int} : idxD h (.lst ds) (.int i) = atL ds i := rfl
@[simp] theorem idx_str {h : AH} {ds : List Nat} {i : Int} : idxD h (.str ds) (.int i) = (atL ds i).map fun c => .str [c] := rfl
@[simp] theorem idx_scr {h : AH} {ds : List Int} {i : Int} : idxD h (.scr ds) (.int i) = (atL ds i).map D.int := rfl
@[simp] theorem items_tup {h : AH} {ds : List D} : items h (.tup ds) = some ds := rfl
@[simp] theorem items_lst {h : AH} {ds : List D} : items h (.lst ds) = some ds := rfl
@[simp] theorem items_scr {h : AH} {ds : List Int} : items h (.scr ds) = some (ds.map D.int) := rfl
@[simp] theorem asg_nm {i : Nat} {d : D} {s : Sl} : asg (.nm i) d s = some (s.set i (some d)) := rfl
theorem atL_nat {α : Type} {xs : List α} {n : Nat} : atL xs (n : Int) = xs[n]? := by simp [atL]
@[simp] theorem atL_0 {α : Type} {xs : List α} : atL xs 0 = xs[0]? := rfl
@[simp] theorem atL_1 {α : Type} {xs : List α} : atL xs 1 = xs[1]? := rfl
@[simp] theorem atL_2 {α : Type} {xs : List α} : atL xs 2 = xs[2]? := rfl
@[simp] theorem atL_3 {α : Type} {xs : List α} : atL xs 3 = xs[3]? := rfl
/-- the first arguments of the call's run -/
def st0 (fn : Fn) (ds : List D) : Sl := ds.map some ++ List.replicate (fn.n - ds.length) none
theorem ap_ok {P : List Fn} {k f : Nat} {ds : List D} {fn : Fn} {d : D} {h' h : AH} (hf : P[f]? = some fn) (hl : ds.length = fn.ps) (hn : norefs ds = true)
    (hr : ran (evSs (apart (fzs P) (call P k)) fn.body (st0 fn ds) []) = .ok d h') (hd : d.noref = true) : apart (fzs P) (call P (k + 1)) f ds h = .ok d h := by
  unfold apart
  rw [if_pos hn]
  have : call P (k + 1) f ds [] = .ok d h' := by
    simp only [call, hf]
    rw [if_pos hl]
    exact hr
  rw [this]
  have e : fzD 5 h' d = some d := by unfold fzD; rw [if_pos hd]
  cases fzs P f <;> simp [hd, e]
theorem ap_fz {P : List Fn} {k f : Nat} {ds : List D} {fn : Fn} {d d' : D} {h' h : AH} (hf : P[f]? = some fn) (hl : ds.length = fn.ps) (hn : norefs ds = true) (hz : fn.frz = true)
    (hr : ran (evSs (apart (fzs P) (call P k)) fn.body (st0 fn ds) []) = .ok d h') (hd : fzD 5 h' d = some d') : apart (fzs P) (call P (k + 1)) f ds h = .ok d' h := by
  unfold apart
  rw [if_pos hn]
  have : call P (k + 1) f ds [] = .ok d h' := by
    simp only [call, hf]
    rw [if_pos hl]
    exact hr
  rw [this]
  have : fzs P f = true := by simp [fzs, hf, hz]
  simp [this, hd]
/-- a call of the law itself -/
theorem call_ok {P : List Fn} {k f : Nat} {ds : List D} {fn : Fn} {d : D} {h' h : AH} (hf : P[f]? = some fn) (hl : ds.length = fn.ps)
    (hr : ran (evSs (apart (fzs P) (call P k)) fn.body (st0 fn ds) h) = .ok d h') : call P (k + 1) f ds h = .ok d h' := by
  simp only [call, hf]
  rw [if_pos hl]
  exact hr
end DI
set_option Elab.async false
set_option linter.all false
set_option maxRecDepth 100000
namespace DI
open PySem PySem.Spec PyProof.Rows L2
def topS (i : Nat) : Stmt := PySem.Challenge.pw_leafsay_k01_numbers_go_round.main.body.getD i (.Pass ⟨0, 0, 0, 0⟩)
def t_done_by_nums : FnT := ⟨Str.ofString "done_by_nums", [Str.ofString "deed", Str.ofString "one", Str.ofString "other"], true, topS 4⟩
def t_done_by_rows : FnT := ⟨Str.ofString "done_by_rows", [Str.ofString "deed", Str.ofString "row", Str.ofString "other"], true, topS 5⟩
def t_done : FnT := ⟨Str.ofString "done", [Str.ofString "deed", Str.ofString "some"], true, topS 6⟩
def t__law_whole : FnT := ⟨Str.ofString "_law_whole", [Str.ofString "found"], true, topS 8⟩
def t__law_number : FnT := ⟨Str.ofString "_law_number", [Str.ofString "cell", Str.ofString "ahead"], true, topS 9⟩
def t__law_round : FnT := ⟨Str.ofString "_law_round", [Str.ofString "deed", Str.ofString "one", Str.ofString "other", Str.ofString "due"], true, topS 10⟩
def t__law_less : FnT := ⟨Str.ofString "_law_less", [Str.ofString "one", Str.ofString "other"], true, topS 11⟩
def t__law_pair : FnT := ⟨Str.ofString "_law_pair", [Str.ofString "one", Str.ofString "other"], true, topS 12⟩
def t_law : FnT := ⟨Str.ofString "law", [Str.ofString "script"], true, topS 13⟩
def theFns : List FnT := [t_done_by_nums, t_done_by_rows, t_done, t__law_whole, t__law_number, t__law_round, t__law_less, t__law_pair, t_law]
def theConsts : List (Str × D) := [((Str.ofString "LIMIT"), (.int 1000000000000000000)), ((Str.ofString "MOST_SIGNS"), (.int 40)), ((Str.ofString "MOST_NUMS"), (.int 12))]
def thePT : PT0 := ⟨theFns, theConsts, []⟩
end DI
set_option Elab.async false
set_option linter.all false
set_option maxRecDepth 100000
namespace DI
open PySem
def f_done_by_nums : Fn := ⟨3, 3, true,
    (.cons (.ifs (.cmp .Eq (.var 0) (.cst (.str (S "add")))) (.cons (.ret (.bin .Mod false (.bin .Add false (.var 1) (.var 2)) (.cst (.int 1000000000000000000))))
    .nil) .nil)
    (.cons (.ifs (.cmp .Eq (.var 0) (.cst (.str (S "sub")))) (.cons (.ret (.bin .Mod false (.bin .Sub false (.var 1) (.var 2)) (.cst (.int 1000000000000000000))))
    .nil) .nil)
    (.cons (.ifs (.cmp .Eq (.var 0) (.cst (.str (S "mul")))) (.cons (.ret (.bin .Mod false (.bin .Mult false (.var 1) (.var 2)) (.cst (.int 1000000000000000000))))
    .nil) .nil)
    (.cons (.ifs (.cmp .Lt (.var 1) (.var 2)) (.cons (.ret (.cst (.int 1)))
    .nil) .nil)
    (.cons (.ret (.cst (.int 0)))
    .nil)))))⟩

def f_done_by_rows : Fn := ⟨3, 3, true,
    (.cons (.ifs (.cmp .Eq (.var 0) (.cst (.str (S "link")))) (.cons (.ret .bad)
    .nil) .nil)
    (.cons (.ifs (.cmp .Eq (.var 0) (.cst (.str (S "put")))) (.cons (.ifs (.cmp .Lt (.bi .len false (.cons (.var 1) .nil)) (.cst (.int 12))) (.cons (.ret (.bin .Add false (.var 1) (.tup (.cons (.var 2) .nil))))
    .nil) .nil)
    (.cons (.ret (.var 1))
    .nil)) .nil)
    (.cons (.ifs (.cmp .Lt (.var 2) (.bi .len false (.cons (.var 1) .nil))) (.cons (.ret (.idx (.var 1) (.var 2)))
    .nil) .nil)
    (.cons (.ret (.cst (.int 0)))
    .nil))))⟩

def f_done : Fn := ⟨2, 2, true,
    (.cons (.ifs (.cmp .Eq (.var 0) (.cst (.str (S "pick")))) (.cons (.ifs (.cmp .NotEq (.idx (.var 1) (.cst (.int 0))) (.cst (.int 0))) (.cons (.ret (.idx (.var 1) (.cst (.int 1))))
    .nil) .nil)
    (.cons (.ret (.idx (.var 1) (.cst (.int 2))))
    .nil)) .nil)
    (.cons (.ifs (.cmp .Eq (.var 0) (.cst (.str (S "show")))) (.cons (.ret .bad)
    .nil) .nil)
    (.cons (.ifs (.or_ (.cmp .Eq (.var 0) (.cst (.str (S "size")))) (.cmp .Eq (.var 0) (.cst (.str (S "many"))))) (.cons (.ret (.bi .len false (.cons (.idx (.var 1) (.cst (.int 0))) .nil)))
    .nil) .nil)
    (.cons (.ifs (.cmp .Eq (.var 0) (.cst (.str (S "glue")))) (.cons (.ret .bad)
    .nil) .nil)
    (.cons (.ifs (.or_ (.cmp .Eq (.var 0) (.cst (.str (S "put")))) (.or_ (.cmp .Eq (.var 0) (.cst (.str (S "link")))) (.cmp .Eq (.var 0) (.cst (.str (S "at")))))) (.cons (.ret (.call 1 (.cons (.var 0) (.cons (.idx (.var 1) (.cst (.int 0))) (.cons (.idx (.var 1) (.cst (.int 1))) .nil)))))
    .nil) .nil)
    (.cons (.ret (.call 0 (.cons (.var 0) (.cons (.idx (.var 1) (.cst (.int 0))) (.cons (.idx (.var 1) (.cst (.int 1))) .nil)))))
    .nil))))))⟩

def f__law_whole : Fn := ⟨1, 1, true,
    (.cons (.ret (.and_ (.isi (.var 0) [.int]) (.not_ (.isi (.var 0) [.bool]))))
    .nil)⟩

def f__law_number : Fn := ⟨2, 2, true,
    (.cons (.ifs (.cmp .Eq (.bin .Mod false (.var 0) (.cst (.int 7))) (.cst (.int 3))) (.cons (.ret (.idx (.lst false (.cons (.cst (.int 0)) (.cons (.var 1) (.cons (.bin .Sub false (.bin .Pow false (.cst (.int 10)) (.cst (.int 18))) (.cst (.int 1))) (.cons (.bin .Mod false (.bin .Sub false (.bin .Pow false (.cst (.int 10)) (.cst (.int 18))) (.var 1)) (.bin .Pow false (.cst (.int 10)) (.cst (.int 18)))) .nil))))) (.bin .Mod false (.bin .FloorDiv false (.var 0) (.cst (.int 7))) (.cst (.int 4)))))
    .nil) .nil)
    (.cons (.ifs (.cmp .Eq (.bin .Mod false (.var 0) (.cst (.int 7))) (.cst (.int 5))) (.cons (.ret (.bin .Mod false (.bin .FloorDiv false (.var 0) (.cst (.int 7))) (.cst (.int 10))))
    .nil) .nil)
    (.cons (.ret (.bin .Mod false (.var 0) (.bin .Pow false (.cst (.int 10)) (.cst (.int 18)))))
    .nil)))⟩

def f__law_round : Fn := ⟨4, 6, true,
    (.cons (.set 4 (.lst false (.cons (.var 1) (.cons (.var 2) .nil))))
    (.cons (.set 5 (.call 2 (.cons (.var 0) (.cons (.var 4) .nil))))
    (.cons (.ifs (.or_ (.not_ (.call 3 (.cons (.var 5) .nil))) (.or_ (.cmp .Lt (.var 5) (.cst (.int 0))) (.cmp .GtE (.var 5) (.bin .Pow false (.cst (.int 10)) (.cst (.int 18)))))) (.cons (.ret (.cst (.bl false)))
    .nil) .nil)
    (.cons (.ret (.and_ (.cmp .Eq (.bin .Mod false (.bin .Sub false (.var 5) (.var 3)) (.bin .Pow false (.cst (.int 10)) (.cst (.int 18)))) (.cst (.int 0))) (.cmp .Eq (.var 4) (.lst false (.cons (.var 1) (.cons (.var 2) .nil))))))
    .nil))))⟩

def f__law_less : Fn := ⟨2, 3, true,
    (.cons (.set 2 (.call 2 (.cons (.cst (.str (S "less"))) (.cons (.lst false (.cons (.var 0) (.cons (.var 1) .nil))) .nil))))
    (.cons (.ret (.and_ (.call 3 (.cons (.var 2) .nil)) (.cmp .Eq (.var 2) (.bi .int false (.cons (.cmp .Lt (.var 0) (.var 1)) .nil)))))
    .nil))⟩

def f__law_pair : Fn := ⟨2, 2, true,
    (.cons (.ifs (.or_ (.not_ (.call 5 (.cons (.cst (.str (S "add"))) (.cons (.var 0) (.cons (.var 1) (.cons (.bin .Add false (.var 0) (.var 1)) .nil)))))) (.not_ (.call 5 (.cons (.cst (.str (S "mul"))) (.cons (.var 0) (.cons (.var 1) (.cons (.bin .Mult false (.var 0) (.var 1)) .nil))))))) (.cons (.ret (.cst (.bl false)))
    .nil) .nil)
    (.cons (.ifs (.or_ (.not_ (.call 5 (.cons (.cst (.str (S "sub"))) (.cons (.var 0) (.cons (.var 1) (.cons (.bin .Sub false (.var 0) (.var 1)) .nil)))))) (.not_ (.call 5 (.cons (.cst (.str (S "sub"))) (.cons (.var 1) (.cons (.var 0) (.cons (.bin .Sub false (.var 1) (.var 0)) .nil))))))) (.cons (.ret (.cst (.bl false)))
    .nil) .nil)
    (.cons (.ret (.and_ (.call 6 (.cons (.var 0) (.cons (.var 1) .nil))) (.call 6 (.cons (.var 1) (.cons (.var 0) .nil)))))
    .nil)))⟩

def f_law : Fn := ⟨1, 4, true,
    (.cons (.ifs (.or_ (.not_ (.call 3 (.cons (.cst (.int 1000000000000000000)) .nil))) (.cmp .NotEq (.cst (.int 1000000000000000000)) (.bin .Pow false (.cst (.int 10)) (.cst (.int 18))))) (.cons (.ret (.cst (.bl false)))
    .nil) .nil)
    (.cons (.set 1 (.bin .Sub false (.bin .Pow false (.cst (.int 10)) (.cst (.int 18))) (.cst (.int 1))))
    (.cons (.for_ (.nm 2) (.var 0) (.cons (.set 3 (.call 4 (.cons (.var 2) (.cons (.var 1) .nil))))
    (.cons (.ifs (.not_ (.call 7 (.cons (.var 1) (.cons (.var 3) .nil)))) (.cons (.ret (.cst (.bl false)))
    .nil) .nil)
    (.cons (.set 1 (.var 3))
    .nil))))
    (.cons (.ret (.and_ (.call 7 (.cons (.var 1) (.cons (.cst (.int 1)) .nil))) (.call 7 (.cons (.cst (.int 0)) (.cons (.var 1) .nil)))))
    .nil))))⟩

def prog : List Fn := [f_done_by_nums, f_done_by_rows, f_done, f__law_whole, f__law_number, f__law_round, f__law_less, f__law_pair, f_law]
end DI
set_option Elab.async false
set_option linter.all false
set_option maxRecDepth 100000
namespace DI
open PySem
abbrev A (k : Nat) : FC := apart (fzs prog) (call prog k)
abbrev L18 : Int := 1000000000000000000
theorem s_whole (k : Nat) (x : Int) (h : AH) : A (k + 1) 3 [.int x] h = .ok (.bl true) h := by
  refine ap_ok (fn := f__law_whole) (h' := []) rfl rfl rfl ?_ rfl
  simp [f__law_whole, st0, isCl]
theorem s_add (k : Nat) (x y : Int) (h : AH) : A (k + 2) 2 [.str (S "add"), .lst [.int x, .int y]] h = .ok (.int ((x + y) % L18)) h := by
  have n : ∀ h, A (k + 1) 0 [.str (S "add"), .int x, .int y] h = .ok (.int ((x + y) % L18)) h := fun h => by
    refine ap_ok (fn := f_done_by_nums) (h' := []) rfl rfl rfl ?_ rfl
    simp [f_done_by_nums, st0, L18]
  refine ap_ok (fn := f_done) (h' := []) rfl rfl rfl ?_ rfl
  simp [f_done, st0, n]
theorem s_sub (k : Nat) (x y : Int) (h : AH) : A (k + 2) 2 [.str (S "sub"), .lst [.int x, .int y]] h = .ok (.int ((x - y) % L18)) h := by
  have n : ∀ h, A (k + 1) 0 [.str (S "sub"), .int x, .int y] h = .ok (.int ((x - y) % L18)) h := fun h => by
    refine ap_ok (fn := f_done_by_nums) (h' := []) rfl rfl rfl ?_ rfl
    simp [f_done_by_nums, st0, L18]
  refine ap_ok (fn := f_done) (h' := []) rfl rfl rfl ?_ rfl
  simp [f_done, st0, n]
/-- a number that is drawn -/
def Nm (x : Int) : Prop := 0 ≤ x ∧ x < L18
theorem Nm.ok {x y : Int} (h : Nm x) : (-18446744073709551616 < x ∧ x < 18446744073709551616) ∨ (-18446744073709551616 < y ∧ y < 18446744073709551616) := by
  obtain ⟨h1, h2⟩ := h
  simp only [L18] at h2
  omega
theorem s_mul (k : Nat) (x y : Int) (hx : Nm x) (hy : Nm y) (h : AH) : A (k + 2) 2 [.str (S "mul"), .lst [.int x, .int y]] h = .ok (.int ((x * y) % L18)) h := by
  have n : ∀ h, A (k + 1) 0 [.str (S "mul"), .int x, .int y] h = .ok (.int ((x * y) % L18)) h := fun h => by
    refine ap_ok (fn := f_done_by_nums) (h' := []) rfl rfl rfl ?_ rfl
    simp [f_done_by_nums, st0, L18, hx.ok]
  refine ap_ok (fn := f_done) (h' := []) rfl rfl rfl ?_ rfl
  simp [f_done, st0, n]
theorem s_less (k : Nat) (x y : Int) (h : AH) : A (k + 2) 2 [.str (S "less"), .lst [.int x, .int y]] h = .ok (.int (if x < y then 1 else 0)) h := by
  have n : ∀ h, A (k + 1) 0 [.str (S "less"), .int x, .int y] h = .ok (.int (if x < y then 1 else 0)) h := fun h => by
    refine ap_ok (fn := f_done_by_nums) (h' := []) rfl rfl rfl ?_ rfl
    by_cases e : x < y <;> simp [f_done_by_nums, st0, e]
  refine ap_ok (fn := f_done) (h' := []) rfl rfl rfl ?_ rfl
  simp [f_done, st0, n]
theorem eqD_2 {h : AH} {x y : Int} : eqD h (.lst [.int x, .int y]) (.lst [.int x, .int y]) = some true := by
  simp [eqD, now, D.dat, dats, D.dep, deps, eqv, eqvs]
/-- _law_round, whatever the deed, where the deed makes v -/
theorem s_round (k : Nat) (w : String) (x y v due : Int) (hd : ∀ h, A (k + 2) 2 [.str (S w), .lst [.int x, .int y]] h = .ok (.int v) h) (h1 : Nm v) (h2 : (v - due) % L18 = 0) (h : AH) :
    A (k + 3) 5 [.str (S w), .int x, .int y, .int due] h = .ok (.bl true) h := by
  refine ap_ok (fn := f__law_round) (h' := []) rfl rfl rfl ?_ rfl
  obtain ⟨h1, h1'⟩ := h1
  simp only [L18] at h1' h2
  simp [f__law_round, st0, hd, s_whole (k + 1), eqD_2, Int.not_lt.mpr h1, Int.not_le.mpr h1', h2]
theorem s_lawless (k : Nat) (x y : Int) (h : AH) : A (k + 3) 6 [.int x, .int y] h = .ok (.bl true) h := by
  refine ap_ok (fn := f__law_less) (h' := []) rfl rfl rfl ?_ rfl
  by_cases e : x < y <;> simp [f__law_less, st0, s_less, s_whole (k + 1), biD, e]
theorem nm_mod (x : Int) : Nm (x % L18) := ⟨Int.emod_nonneg _ (by decide), Int.emod_lt_of_pos _ (by decide)⟩
theorem mod_due (x : Int) : (x % L18 - x) % L18 = 0 := by
  rw [Int.emod_sub_emod, Int.sub_self]; rfl
theorem s_pair (k : Nat) (x y : Int) (hx : Nm x) (hy : Nm y) (h : AH) : A (k + 4) 7 [.int x, .int y] h = .ok (.bl true) h := by
  refine ap_ok (fn := f__law_pair) (h' := []) rfl rfl rfl ?_ rfl
  have e1 := fun h => s_round k "add" x y _ (x + y) (s_add k x y) (nm_mod _) (mod_due _) h
  have e2 := fun h => s_round k "mul" x y _ (x * y) (s_mul k x y hx hy) (nm_mod _) (mod_due _) h
  have e3 := fun h => s_round k "sub" x y _ (x - y) (s_sub k x y) (nm_mod _) (mod_due _) h
  have e4 := fun h => s_round k "sub" y x _ (y - x) (s_sub k y x) (nm_mod _) (mod_due _) h
  simp [f__law_pair, st0, e1, e2, e3, e4, s_lawless, hx.ok]
theorem s_number (k : Nat) (c a : Int) (ha : Nm a) : ∃ v, Nm v ∧ ∀ h, A (k + 1) 4 [.int c, .int a] h = .ok (.int v) h := by
  have run : ∀ {v : Int}, (∃ h', ran (evSs (A k) f__law_number.body (st0 f__law_number [.int c, .int a]) []) = .ok (.int v) h') → ∀ h, A (k + 1) 4 [.int c, .int a] h = .ok (.int v) h := fun ⟨h', e⟩ h =>
    ap_ok (fn := f__law_number) (h' := h') rfl rfl rfl e rfl
  by_cases e3 : c % 7 = 3
  · have hr : c / 7 % 4 = 0 ∨ c / 7 % 4 = 1 ∨ c / 7 % 4 = 2 ∨ c / 7 % 4 = 3 := by omega
    rcases hr with e | e | e | e
    · exact ⟨0, by simp [Nm, L18], run ⟨[], by simp [f__law_number, st0, e3, e]⟩⟩
    · exact ⟨a, ha, run ⟨[], by simp [f__law_number, st0, e3, e]⟩⟩
    · exact ⟨999999999999999999, by simp [Nm, L18], run ⟨[], by simp [f__law_number, st0, e3, e]⟩⟩
    · exact ⟨(1000000000000000000 - a) % L18, nm_mod _, run ⟨[], by simp [f__law_number, st0, e3, e, L18]⟩⟩
  · by_cases e5 : c % 7 = 5
    · refine ⟨c / 7 % 10, ?_, run ⟨[], by simp [f__law_number, st0, e3, e5]⟩⟩
      simp only [Nm, L18]
      omega
    · exact ⟨c % L18, nm_mod _, run ⟨[], by simp [f__law_number, st0, e3, e5, L18]⟩⟩
/-- the loop over the script: the name ahead holds a number -/
theorem s_loop (k : Nat) : ∀ (ns : List Int) (a : Int) (b d : Option D) (sc : Option D) (h : AH), Nm a →
    ∃ a' b' d', Nm a' ∧ loop (evSs (A (k + 4)) (.cons (.set 3 (.call 4 (.cons (.var 2) (.cons (.var 1) .nil)))) (.cons (.ifs (.not_ (.call 7 (.cons (.var 1) (.cons (.var 3) .nil)))) (.cons (.ret (.cst (.bl false))) .nil) .nil) (.cons (.set 1 (.var 3)) .nil)))) (.nm 2) (ns.map D.int) [sc, some (.int a), b, d] h = .nx [sc, some (.int a'), b', d'] h
  | [], a, b, d, sc, h, ha => ⟨a, b, d, ha, rfl⟩
  | n :: ns, a, b, d, sc, h, ha => by
    obtain ⟨v, hv, e⟩ := s_number (k + 3) n a ha
    obtain ⟨a', b', d', h1, h2⟩ := s_loop k ns v (some (.int n)) (some (.int v)) sc h hv
    refine ⟨a', b', d', h1, ?_⟩
    simp only [List.map_cons, loop]
    simpa [e, s_pair k a v ha hv] using h2
theorem law_true (ns : List Int) : ∃ h, call prog 20 8 [.scr ns] [] = .ok (.bl true) h := by
  refine ⟨[], call_ok (fn := f_law) rfl rfl ?_⟩
  obtain ⟨a', b', d', h1, h2⟩ := s_loop 15 ns 999999999999999999 none none (some (.scr ns)) [] (by simp [Nm, L18])
  have h2' := h2
  simp only [A] at h2'
  have w := s_whole 18 L18 []
  have p1 := s_pair 15 a' 1 h1 (by simp [Nm, L18]) []
  have p2 := s_pair 15 0 a' (by simp [Nm, L18]) h1 []
  simp only [A, L18] at w p1 p2
  simp [f_law, st0, w, h2', p1, p2]
end DI
set_option Elab.async false
set_option linter.all false
set_option maxRecDepth 100000
theorem DI.prog_eq : DI.thePT.prog = DI.prog := by kernel_rfl
theorem DI.sc_ok : DI.theFns.all DI.scopeOk = true := by decide +kernel
open PySem PySem.W PyProof.Rows
set_option maxRecDepth 100000 in
set_option maxHeartbeats 0 in
theorem PySem.Challenge.cw_leafsay_k01_numbers_go_round_holds : PySem.Challenge.rw_leafsay_k01_numbers_go_round.Holds := by
  w_on; o_law; k_head; (case hw => w_witness2)
  k_fill
  refine DI.law_walk (l := PySem.Challenge.rw_leafsay_k01_numbers_go_round) DI.thePT 8 DI.t_law 20 rfl rfl ⟨rfl, by decide, by decide⟩ rfl rfl rfl (fun w h Y => PySem.W.kIn_of Y) ?F ?B ?L
  case L => intro ns _; rw [DI.prog_eq]; exact DI.law_true ns
  case B => exact fun K f fd F => DI.binds_law (fun _ _ _ _ _ _ _ => rfl) f fd F
  case F =>
    intro w mg h KX G
    refine' DI.pw_mk (DI.AllP.cons ?w0 (DI.AllP.cons ?w1 (DI.AllP.cons ?w2 (DI.AllP.cons ?w3 (DI.AllP.cons ?w4 (DI.AllP.cons ?w5 (DI.AllP.cons ?w6 (DI.AllP.cons ?w7 (DI.AllP.cons ?w8 DI.AllP.nil))))))))) DI.sc_ok (DI.AllP.cons ?c0 (DI.AllP.cons ?c1 (DI.AllP.cons ?c2 DI.AllP.nil))) (DI.AllP.cons ?b0 (DI.AllP.cons ?b1 (DI.AllP.cons ?b2 (DI.AllP.cons ?b3 (DI.AllP.cons ?b4 (DI.AllP.cons ?b5 (DI.AllP.cons ?b6 (DI.AllP.cons ?b7 (DI.AllP.cons ?b8 (DI.AllP.cons ?b9 (DI.AllP.cons ?b10 (DI.AllP.cons ?b11 (DI.AllP.cons ?b12 (DI.AllP.cons ?b13 (DI.AllP.cons ?b14 (DI.AllP.cons ?b15 (DI.AllP.cons ?b16 (DI.AllP.cons ?b17 (DI.AllP.cons ?b18 DI.AllP.nil)))))))))))))))))))
    (case w0 =>
      refine' DI.fnw_mk (n := Str.ofString "done_by_nums") (st := DI.topS 4) KX G ?a ?l ?c ?k ?b
      (case a => k_is); (case l => k_is); (case c => k_is); (case k => k_is)
      (case b => exact fun _ _ _ _ _ _ us hl => match us, hl with | [_, _, _], _ => rfl))
    (case w1 =>
      refine' DI.fnw_mk (n := Str.ofString "done_by_rows") (st := DI.topS 5) KX G ?a ?l ?c ?k ?b
      (case a => k_is); (case l => k_is); (case c => k_is); (case k => k_is)
      (case b => exact fun _ _ _ _ _ _ us hl => match us, hl with | [_, _, _], _ => rfl))
    (case w2 =>
      refine' DI.fnw_mk (n := Str.ofString "done") (st := DI.topS 6) KX G ?a ?l ?c ?k ?b
      (case a => k_is); (case l => k_is); (case c => k_is); (case k => k_is)
      (case b => exact fun _ _ _ _ _ _ us hl => match us, hl with | [_, _], _ => rfl))
    (case w3 =>
      refine' DI.fnw_mk (n := Str.ofString "_law_whole") (st := DI.topS 8) KX G ?a ?l ?c ?k ?b
      (case a => k_is); (case l => k_is); (case c => k_is); (case k => k_is)
      (case b => exact fun _ _ _ _ _ _ us hl => match us, hl with | [_], _ => rfl))
    (case w4 =>
      refine' DI.fnw_mk (n := Str.ofString "_law_number") (st := DI.topS 9) KX G ?a ?l ?c ?k ?b
      (case a => k_is); (case l => k_is); (case c => k_is); (case k => k_is)
      (case b => exact fun _ _ _ _ _ _ us hl => match us, hl with | [_, _], _ => rfl))
    (case w5 =>
      refine' DI.fnw_mk (n := Str.ofString "_law_round") (st := DI.topS 10) KX G ?a ?l ?c ?k ?b
      (case a => k_is); (case l => k_is); (case c => k_is); (case k => k_is)
      (case b => exact fun _ _ _ _ _ _ us hl => match us, hl with | [_, _, _, _], _ => rfl))
    (case w6 =>
      refine' DI.fnw_mk (n := Str.ofString "_law_less") (st := DI.topS 11) KX G ?a ?l ?c ?k ?b
      (case a => k_is); (case l => k_is); (case c => k_is); (case k => k_is)
      (case b => exact fun _ _ _ _ _ _ us hl => match us, hl with | [_, _], _ => rfl))
    (case w7 =>
      refine' DI.fnw_mk (n := Str.ofString "_law_pair") (st := DI.topS 12) KX G ?a ?l ?c ?k ?b
      (case a => k_is); (case l => k_is); (case c => k_is); (case k => k_is)
      (case b => exact fun _ _ _ _ _ _ us hl => match us, hl with | [_, _], _ => rfl))
    (case w8 =>
      refine' DI.fnw_mk (n := Str.ofString "law") (st := DI.topS 13) KX G ?a ?l ?c ?k ?b
      (case a => k_is); (case l => k_is); (case c => k_is); (case k => k_is)
      (case b => exact fun _ _ _ _ _ _ us hl => match us, hl with | [_], _ => rfl))
    (case c0 =>
      refine' DI.cst_int KX G ?a
      (case a => k_is))
    (case c1 =>
      refine' DI.cst_int KX G ?a
      (case a => k_is))
    (case c2 =>
      refine' DI.cst_int KX G ?a
      (case a => k_is))
    (case b0 =>
      refine' PySem.W.mg_none_of (n := Str.ofString "len") KX G ?a
      (case a => k_is))
    (case b1 =>
      refine' PySem.W.mg_none_of (n := Str.ofString "int") KX G ?a
      (case a => k_is))
    (case b2 =>
      refine' PySem.W.mg_none_of (n := Str.ofString "isinstance") KX G ?a
      (case a => k_is))
    (case b3 =>
      refine' PySem.W.mg_none_of (n := Str.ofString "bool") KX G ?a
      (case a => k_is))
    (case b4 =>
      refine' PySem.W.mg_none_of (n := Str.ofString "str") KX G ?a
      (case a => k_is))
    (case b5 =>
      refine' PySem.W.mg_none_of (n := Str.ofString "tuple") KX G ?a
      (case a => k_is))
    (case b6 =>
      refine' PySem.W.mg_none_of (n := Str.ofString "list") KX G ?a
      (case a => k_is))
    (case b7 =>
      refine' PySem.W.mg_none_of (n := Str.ofString "dict") KX G ?a
      (case a => k_is))
    (case b8 =>
      refine' PySem.W.mg_none_of (n := Str.ofString "range") KX G ?a
      (case a => k_is))
    (case b9 =>
      refine' PySem.W.mg_none_of (n := Str.ofString "sum") KX G ?a
      (case a => k_is))
    (case b10 =>
      refine' PySem.W.mg_none_of (n := Str.ofString "max") KX G ?a
      (case a => k_is))
    (case b11 =>
      refine' PySem.W.mg_none_of (n := Str.ofString "min") KX G ?a
      (case a => k_is))
    (case b12 =>
      refine' PySem.W.mg_none_of (n := Str.ofString "sorted") KX G ?a
      (case a => k_is))
    (case b13 =>
      refine' PySem.W.mg_none_of (n := Str.ofString "reversed") KX G ?a
      (case a => k_is))
    (case b14 =>
      refine' PySem.W.mg_none_of (n := Str.ofString "zip") KX G ?a
      (case a => k_is))
    (case b15 =>
      refine' PySem.W.mg_none_of (n := Str.ofString "enumerate") KX G ?a
      (case a => k_is))
    (case b16 =>
      refine' PySem.W.mg_none_of (n := Str.ofString "set") KX G ?a
      (case a => k_is))
    (case b17 =>
      refine' PySem.W.mg_none_of (n := Str.ofString "abs") KX G ?a
      (case a => k_is))
    (case b18 =>
      refine' PySem.W.mg_none_of (n := Str.ofString "all") KX G ?a
      (case a => k_is))
