import PyProof.Rows.All
import Wide.All
import OpenK.AllK
import Wide.FinOn
import PySem.Challenge.RW_nz0490_01
set_option Elab.async false
set_option genSizeOf false
set_option genSizeOfSpec false
set_option genInjectivity false
set_option maxRecDepth 100000
set_option linter.unusedVariables false
set_option linter.unusedSimpArgs false
set_option linter.unusedSectionVars false

namespace Mine
open PySem PySem.W PySem.Calls PyProof.Rows

/-! flat forms of ∃ and ∧ -/
inductive X2 {α0 α1 : Type} (p : α0 → α1 → Prop) : Prop
  | mk (x0 : α0) (x1 : α1) : p x0 x1 → X2 p
inductive X3 {α0 α1 α2 : Type} (p : α0 → α1 → α2 → Prop) : Prop
  | mk (x0 : α0) (x1 : α1) (x2 : α2) : p x0 x1 x2 → X3 p
inductive X4 {α0 α1 α2 α3 : Type} (p : α0 → α1 → α2 → α3 → Prop) : Prop
  | mk (x0 : α0) (x1 : α1) (x2 : α2) (x3 : α3) : p x0 x1 x2 x3 → X4 p
inductive X5 {α0 α1 α2 α3 α4 : Type} (p : α0 → α1 → α2 → α3 → α4 → Prop) : Prop
  | mk (x0 : α0) (x1 : α1) (x2 : α2) (x3 : α3) (x4 : α4) : p x0 x1 x2 x3 x4 → X5 p
inductive X6 {α0 α1 α2 α3 α4 α5 : Type} (p : α0 → α1 → α2 → α3 → α4 → α5 → Prop) : Prop
  | mk (x0 : α0) (x1 : α1) (x2 : α2) (x3 : α3) (x4 : α4) (x5 : α5) : p x0 x1 x2 x3 x4 x5 → X6 p
inductive X7 {α0 α1 α2 α3 α4 α5 α6 : Type} (p : α0 → α1 → α2 → α3 → α4 → α5 → α6 → Prop) : Prop
  | mk (x0 : α0) (x1 : α1) (x2 : α2) (x3 : α3) (x4 : α4) (x5 : α5) (x6 : α6) : p x0 x1 x2 x3 x4 x5 x6 → X7 p
inductive X8 {α0 α1 α2 α3 α4 α5 α6 α7 : Type} (p : α0 → α1 → α2 → α3 → α4 → α5 → α6 → α7 → Prop) : Prop
  | mk (x0 : α0) (x1 : α1) (x2 : α2) (x3 : α3) (x4 : α4) (x5 : α5) (x6 : α6) (x7 : α7) : p x0 x1 x2 x3 x4 x5 x6 x7 → X8 p
inductive X10 {α0 α1 α2 α3 α4 α5 α6 α7 α8 α9 : Type} (p : α0 → α1 → α2 → α3 → α4 → α5 → α6 → α7 → α8 → α9 → Prop) : Prop
  | mk (x0 : α0) (x1 : α1) (x2 : α2) (x3 : α3) (x4 : α4) (x5 : α5) (x6 : α6) (x7 : α7) (x8 : α8) (x9 : α9) : p x0 x1 x2 x3 x4 x5 x6 x7 x8 x9 → X10 p
inductive X14 {α0 α1 α2 α3 α4 α5 α6 α7 α8 α9 α10 α11 α12 α13 : Type} (p : α0 → α1 → α2 → α3 → α4 → α5 → α6 → α7 → α8 → α9 → α10 → α11 → α12 → α13 → Prop) : Prop
  | mk (x0 : α0) (x1 : α1) (x2 : α2) (x3 : α3) (x4 : α4) (x5 : α5) (x6 : α6) (x7 : α7) (x8 : α8) (x9 : α9) (x10 : α10) (x11 : α11) (x12 : α12) (x13 : α13) : p x0 x1 x2 x3 x4 x5 x6 x7 x8 x9 x10 x11 x12 x13 → X14 p
inductive A3 (p0 p1 p2 : Prop) : Prop
  | mk : p0 → p1 → p2 → A3 p0 p1 p2
inductive A4 (p0 p1 p2 p3 : Prop) : Prop
  | mk : p0 → p1 → p2 → p3 → A4 p0 p1 p2 p3
inductive A5 (p0 p1 p2 p3 p4 : Prop) : Prop
  | mk : p0 → p1 → p2 → p3 → p4 → A5 p0 p1 p2 p3 p4
inductive A6 (p0 p1 p2 p3 p4 p5 : Prop) : Prop
  | mk : p0 → p1 → p2 → p3 → p4 → p5 → A6 p0 p1 p2 p3 p4 p5
inductive A7 (p0 p1 p2 p3 p4 p5 p6 : Prop) : Prop
  | mk : p0 → p1 → p2 → p3 → p4 → p5 → p6 → A7 p0 p1 p2 p3 p4 p5 p6
inductive A8 (p0 p1 p2 p3 p4 p5 p6 p7 : Prop) : Prop
  | mk : p0 → p1 → p2 → p3 → p4 → p5 → p6 → p7 → A8 p0 p1 p2 p3 p4 p5 p6 p7
inductive A12 (p0 p1 p2 p3 p4 p5 p6 p7 p8 p9 p10 p11 : Prop) : Prop
  | mk : p0 → p1 → p2 → p3 → p4 → p5 → p6 → p7 → p8 → p9 → p10 → p11 → A12 p0 p1 p2 p3 p4 p5 p6 p7 p8 p9 p10 p11

/-! the abstract data, the store, the small language and its evaluator -/
set_option genInjectivity true in
inductive D where
  | none
  | bool (b : Bool)
  | int (i : Int)
  | str (s : Str)
  | tup (l : List D)
  | list (l : List D)
  | dict (l : List (Str × D))
  | odict (l : List (Str × D))
  | inst (c : Nat) (l : List (Nat × D))
  | rng (a b c : Int)
  deriving Inhabited

set_option genInjectivity true in
inductive AV where
  | val (d : D)
  | loc (i : Nat)
  deriving Inhabited

noncomputable abbrev Store := List D
noncomputable abbrev Slots := List (Option AV)

inductive Bop where | add | sub | mul | fdiv | md | pow
  deriving DecidableEq, Inhabited
inductive Cop where | eq | ne | lt | le | gt | ge | is | isnot | isin | notin
  deriving DecidableEq, Inhabited
inductive Bi where | len | str | abs | max2 | max1 | ord | range1 | range2 | range3 | list1 | sum1
  deriving DecidableEq, Inhabited
inductive Me where | ljust | rjust | rjustc | join | get
  deriving DecidableEq, Inhabited

inductive T where
  | bot
  | c (d : D)
  | gv (x : Str) (d : D)
  | v (i : Nat)
  | bin (op : Bop) (a b : T)
  | neg (a : T)
  | not (a : T)
  | and (a b : T)
  | or (a b : T)
  | cmp (op : Cop) (a b : T)
  | ite (c a b : T)
  | call (f : Nat) (as : List T)
  | new (c : Nat) (as : List T)
  | bi (b : Bi) (as : List T)
  | meth (m : Me) (o : T) (as : List T)
  | attr (o : T) (n : Nat)
  | idx (o i : T)
  | sl (o lo hi : T)
  | tup (l : List T)
  | list (l : List T)
  | tbl (ks vs : List D) (i : T)
  | lc (elt : T) (x : Nat) (it : T)
  | lcf (elt : T) (x : Nat) (it cond : T)
  | fs (ps : List T)
  deriving Inhabited

inductive S where
  | bot
  | asg (x : Nat) (t : T)
  | asgL (x : Nat) (ts : List T)
  | asgN (x : Nat) (c : Nat) (as : List T)
  | asgT (xs : List Nat) (t : T)
  | aug (x : Nat) (op : Bop) (t : T)
  | augL (x : Nat) (t : T)
  | sattr (o : T) (n : Nat) (t : T)
  | sattrD (o : T) (n : Nat) (k : Str) (t : T)
  | sidx (o i t : T)
  | sidx2 (o : T) (n : Nat) (k : Str) (t : T)
  | app (o t : T)
  | ext (o t : T)
  | rev (o : T)
  | iff (c : T) (a b : List S)
  | whl (c : T) (b : List S)
  | forr (x : Nat) (it : T) (b : List S)
  | ret (t : T)
  | frzv (x : Nat)
  deriving Inhabited

set_option genInjectivity true in
inductive Fl where
  | next
  | ret (a : AV)
  deriving Inhabited

/-- what a frame may hold at most -/
noncomputable def lim : Nat := 1000000

noncomputable def lookN (n : Nat) : List (Nat × D) → Option D
  | [] => .none
  | (k, d) :: r => if k == n then some d else lookN n r
noncomputable def setN (n : Nat) (d : D) : List (Nat × D) → List (Nat × D)
  | [] => [(n, d)]
  | (k, e) :: r => if k == n then (k, d) :: r else (k, e) :: setN n d r
noncomputable def lookS (n : Str) : List (Str × D) → Option D
  | [] => .none
  | (k, d) :: r => if k == n then some d else lookS n r
noncomputable def setS (n : Str) (d : D) : List (Str × D) → List (Str × D)
  | [] => [(n, d)]
  | (k, e) :: r => if k == n then (k, d) :: r else (k, e) :: setS n d r

/-- a cell's content as a tree -/
noncomputable def thawD : D → D
  | .odict l => .dict l
  | d => d
noncomputable def frzD : D → Option D
  | .list l => some (.list l)
  | .inst c l => some (.inst c (l.map fun p => (p.1, thawD p.2)))
  | _ => none

noncomputable def isO : D → Bool
  | .odict _ => true
  | _ => false
/-- the only dict of the cell's own -/
noncomputable def oneO (n : Nat) : List (Nat × D) → Bool
  | [] => true
  | (k, d) :: r => if k == n then r.all fun p => !isO p.2 else !isO d && oneO n r

noncomputable def cellOf (σ : Store) : AV → Option D
  | .val d => some d
  | .loc i => σ[i]?

noncomputable def signs (s : Str) : List D := s.cps.toList.map fun c => .str ⟨#[c]⟩
noncomputable def rangeL (a : Int) (c : Int) : Nat → List D
  | 0 => []
  | n + 1 => .int a :: rangeL (a + c) c n
noncomputable def rangeN (a b c : Int) : Nat := (Builtin.Range.rangeSize a b c).toNat
noncomputable def itemsOf : AV → Option (List D)
  | .val (.list l) => some l
  | .val (.str s) => some (signs s)
  | .val (.rng a b c) => if -10 ≤ a ∧ a.natAbs ≤ lim ∧ b.natAbs ≤ lim ∧ 0 < c ∧ c.natAbs ≤ lim then some (rangeL a c (rangeN a b c)) else none
  | _ => none

noncomputable def idxOf (i : Int) (l : List D) : Option D := if 0 ≤ i ∧ i.natAbs < 1000000 then l[i.toNat]? else none

noncomputable def sm (i : Int) : Bool := decide (i.natAbs < 1000000000000000000000000)

/-! readers of a datum -/
@[simp] noncomputable def D.int? : D → Option Int
  | .int i => some i
  | _ => Option.none
@[simp] noncomputable def D.str? : D → Option Str
  | .str x => some x
  | _ => Option.none
@[simp] noncomputable def D.list? : D → Option (List D)
  | .list l => some l
  | _ => Option.none
@[simp] noncomputable def D.tup? : D → Option (List D)
  | .tup l => some l
  | _ => Option.none
@[simp] noncomputable def D.dict? : D → Option (List (Str × D))
  | .dict l => some l
  | _ => Option.none
@[simp] noncomputable def AV.d? : AV → Option D
  | .val d => some d
  | .loc _ => Option.none
@[simp] noncomputable def unc {α β : Type} (l : List α) (f : α → List α → Option β) : Option β := match l with
  | a :: r => f a r
  | [] => none
@[simp] noncomputable def fin {α β : Type} (l : List α) (z : Option β) : Option β := match l with
  | [] => z
  | _ :: _ => none
@[simp] noncomputable def one {α β : Type} (l : List α) (f : α → Option β) : Option β := unc l fun a r => fin r (f a)
@[simp] noncomputable def two {α β : Type} (l : List α) (f : α → α → Option β) : Option β := unc l fun a r => one r (f a)
@[simp] noncomputable def three {α β : Type} (l : List α) (f : α → α → α → Option β) : Option β := unc l fun a r => two r (f a)
noncomputable def strs? : List D → Option (List Str)
  | [] => some []
  | d :: r => d.str?.bind fun s => (strs? r).map (s :: ·)
noncomputable def ints? : List D → Option (List Int)
  | [] => some []
  | d :: r => d.int?.bind fun s => (ints? r).map (s :: ·)
theorem D.of_int {d : D} {i : Int} (h : d.int? = some i) : d = .int i := by cases d <;> first | (cases h; rfl) | cases h
theorem D.of_str {d : D} {i : Str} (h : d.str? = some i) : d = .str i := by cases d <;> first | (cases h; rfl) | cases h
theorem D.of_list {d : D} {i : List D} (h : d.list? = some i) : d = .list i := by cases d <;> first | (cases h; rfl) | cases h
theorem D.of_tup {d : D} {i : List D} (h : d.tup? = some i) : d = .tup i := by cases d <;> first | (cases h; rfl) | cases h
theorem D.of_dict {d : D} {i : List (Str × D)} (h : d.dict? = some i) : d = .dict i := by cases d <;> first | (cases h; rfl) | cases h
theorem AV.of_d {a : AV} {d : D} (h : a.d? = some d) : a = .val d := by cases a <;> first | (cases h; rfl) | cases h
theorem of_unc {α β : Type} {l : List α} {f : α → List α → Option β} {z : β} (h : unc l f = some z) : X2 fun a r => l = a :: r ∧ f a r = some z := by
  cases l with
  | nil => cases h
  | cons a r => exact ⟨a, r, rfl, h⟩
theorem of_one {α β : Type} {l : List α} {f : α → Option β} {z : β} (h : one l f = some z) : ∃ a, l = [a] ∧ f a = some z := by
  obtain ⟨a, r, rfl, h⟩ := of_unc h
  cases r with
  | nil => exact ⟨a, rfl, h⟩
  | cons _ _ => cases h
theorem of_two {α β : Type} {l : List α} {f : α → α → Option β} {z : β} (h : two l f = some z) : X2 fun a b => l = [a, b] ∧ f a b = some z := by
  obtain ⟨a, r, rfl, h⟩ := of_unc h
  obtain ⟨b, rfl, h⟩ := of_one h
  exact ⟨a, b, rfl, h⟩
theorem of_three {α β : Type} {l : List α} {f : α → α → α → Option β} {z : β} (h : three l f = some z) : X3 fun a b c => l = [a, b, c] ∧ f a b c = some z := by
  obtain ⟨a, r, rfl, h⟩ := of_unc h
  obtain ⟨b, c, rfl, h⟩ := of_two h
  exact ⟨a, b, c, rfl, h⟩
noncomputable def D.inst? : D → Option (Nat × List (Nat × D))
  | .inst c l => some (c, l)
  | _ => Option.none
theorem D.of_inst {d : D} {p : Nat × List (Nat × D)} (h : d.inst? = some p) : d = .inst p.1 p.2 := by cases d <;> first | (cases h; rfl) | cases h
theorem of_bind {α β : Type} {o : Option α} {f : α → Option β} {z : β} (h : o.bind f = some z) : ∃ a, o = some a ∧ f a = some z := Option.bind_eq_some_iff.mp h
theorem of_map {α β : Type} {o : Option α} {f : α → β} {z : β} (h : o.map f = some z) : ∃ a, o = some a ∧ f a = z := Option.map_eq_some_iff.mp h
theorem of_if {α : Type} {c : Prop} [Decidable c] {x z : α} (h : (if c then some x else none) = some z) : c ∧ x = z := by
  by_cases hc : c
  · rw [if_pos hc] at h; exact ⟨hc, Option.some.inj h⟩
  · rw [if_neg hc] at h; cases h

/-! the same, with what is to be shown behind -/
theorem of_bindC {α β : Type} {P : Prop} {o : Option α} {f : α → Option β} {z : β} (h : o.bind f = some z) (k : ∀ a, o = some a → f a = some z → P) : P := (of_bind h).elim fun a h => k a h.1 h.2
theorem of_mapP {α β γ : Type} {P : Prop} {o : Option α} {f : α → β × γ} {b : β} {s : γ} {K : β → γ → Prop} (h : o.map f = some (b, s)) (hK : K b s) (k : ∀ a, o = some a → K (f a).1 (f a).2 → P) : P :=
  (of_map h).elim fun a h => k a h.1 (by rw [h.2]; exact hK)
theorem of_mapS {α β γ δ : Type} {P : Prop} {o : Option α} {f : α → β × γ × δ} {b : β} {s : γ} {t : δ} {K : β → γ → δ → Prop} (h : o.map f = some (b, s, t)) (hK : K b s t) (k : ∀ a, o = some a → K (f a).1 (f a).2.1 (f a).2.2 → P) : P :=
  (of_map h).elim fun a h => k a h.1 (by rw [h.2]; exact hK)
theorem of_ifC {α : Type} {P : Prop} {c : Prop} [Decidable c] {o : Option α} {z : α} (h : (if c then o else none) = some z) (k : c → o = some z → P) : P := by
  by_cases hc : c
  · rw [if_pos hc] at h; exact k hc h
  · rw [if_neg hc] at h; cases h
theorem of_someP {β γ : Type} {p : β × γ} {b : β} {s : γ} {K : β → γ → Prop} (h : some p = some (b, s)) (hK : K b s) : K p.1 p.2 := by rw [Option.some.inj h]; exact hK
theorem of_someS {β γ δ : Type} {p : β × γ × δ} {b : β} {s : γ} {t : δ} {K : β → γ → δ → Prop} (h : some p = some (b, s, t)) (hK : K b s t) : K p.1 p.2.1 p.2.2 := by rw [Option.some.inj h]; exact hK
theorem of_condC {α : Type} {P : Prop} {t : Bool} {x y : Option α} {z : α} (h : cond t x y = some z) (k : t = true → x = some z → P) (l : t = false → y = some z → P) : P := by
  cases t with
  | true => exact k rfl h
  | false => exact l rfl h

theorem ite_t {c : Bool} {P Q : Prop} (e : c = true) (h : P) : if c = true then P else Q := by rw [if_pos e]; exact h
theorem ite_f {c : Bool} {P Q : Prop} (e : c = false) (h : Q) : if c = true then P else Q := by rw [e, if_neg Bool.false_ne_true]; exact h
noncomputable def attrOf (n : Nat) (d : D) : Option AV := d.inst?.bind fun p => if 3 ≤ p.1 ∨ 12 ≤ n then none else (lookN n p.2).bind fun e => if isO e = true then none else some (.val e)
@[simp] noncomputable def intD {α : Type} (x y : D) (f : Int → Int → Option α) : Option α := x.int?.bind fun a => y.int?.bind fun b => f a b
theorem of_intD {α : Type} {x y : D} {f : Int → Int → Option α} {z : α} (h : intD x y f = some z) : X2 fun a b => A3 (x = .int a) (y = .int b) (f a b = some z) := by
  obtain ⟨a, ha, h⟩ := of_bind h
  obtain ⟨b, hb, h⟩ := of_bind h
  exact ⟨a, b, D.of_int ha, D.of_int hb, h⟩
@[simp] noncomputable def addD (x y : D) : Option D := match x with
  | .int a => y.int?.map fun b => .int (a + b)
  | .str a => y.str?.bind fun b => if a.length + b.length ≤ lim then some (.str (a ++ b)) else none
  | .list a => y.list?.bind fun b => if a.length + b.length ≤ lim then some (.list (a ++ b)) else none
  | _ => none
@[simp] noncomputable def mulD (x y : D) : Option D := match x with
  | .int a => y.int?.bind fun b => if sm a && sm b then some (.int (a * b)) else none
  | .str a => y.int?.bind fun n => if a.length ≤ 1000 ∧ n.natAbs ≤ 1000 then some (.str (Txt.mul a n)) else none
  | _ => none
noncomputable def binD : Bop → D → D → Option D
  | .add, x, y => addD x y
  | .sub, x, y => intD x y fun a b => some (.int (a - b))
  | .mul, x, y => mulD x y
  | .fdiv, x, y => intD x y fun a b => if b ≠ 0 ∧ sm b = true then some (.int (a.fdiv b)) else none
  | .md, x, y => intD x y fun a b => if b ≠ 0 then some (.int (a.fmod b)) else none
  | .pow, x, y => intD x y fun a b => if 0 ≤ b ∧ b ≤ 100 ∧ sm a = true then some (.int (a ^ b.toNat)) else none
noncomputable def binAV (op : Bop) (x y : AV) : Option AV := x.d?.bind fun a => y.d?.bind fun b => (binD op a b).map .val
theorem of_binAV {op : Bop} {x y z : AV} (h : binAV op x y = some z) : X3 fun a b c => A4 (x = .val a) (y = .val b) (z = .val c) (binD op a b = some c) := by
  obtain ⟨a, ha, h⟩ := of_bind h
  obtain ⟨b, hb, h⟩ := of_bind h
  obtain ⟨c, hc, h⟩ := of_map h
  exact ⟨a, b, c, AV.of_d ha, AV.of_d hb, h.symm, hc⟩

/-- plain data that two lists are compared by -/
noncomputable def D.isNone : D → Bool
  | .none => true
  | _ => false
theorem D.of_isNone {d : D} (h : d.isNone = true) : d = .none := by cases d <;> first | rfl | cases h
noncomputable def atomD (d : D) : Option Dat := cond d.isNone (some .none) ((d.int?.map .int).or (d.str?.bind fun x => if PyData.strOk x = true then some (.str x) else none))
theorem of_or {α : Type} {x y : Option α} {z : α} (h : x.or y = some z) : x = some z ∨ y = some z := by
  cases x with
  | none => exact .inr h
  | some a => exact .inl h
noncomputable def toDat : Nat → D → Option Dat
  | 0, d => atomD d
  | n + 1, d => (d.list?.bind fun l => (l.mapM (toDat n)).map .list).or ((d.tup?.bind fun l => (l.mapM (toDat n)).map .tuple).or (atomD d))
noncomputable def toDats (l : List D) : Option (List Dat) := l.mapM (toDat 6)

noncomputable section
noncomputable def eqL (a b : List D) : Option Bool := (toDats a).bind fun x => (toDats b).map fun y => @decide (x = y) (Classical.propDecidable _)
@[simp] noncomputable def noneAV : AV → Bool
  | .val d => d.isNone
  | .loc _ => false
theorem of_noneAV {a : AV} (h : noneAV a = true) : a = .val .none := by
  cases a with
  | loc _ => cases h
  | val d => rw [D.of_isNone h]
@[simp] noncomputable def listOfAV (σ : Store) (a : AV) : Option (List D) := (cellOf σ a).bind D.list?
theorem of_listOf {σ : Store} {a : AV} {l : List D} (h : listOfAV σ a = some l) : cellOf σ a = some (.list l) := by
  obtain ⟨d, hd, h⟩ := of_bind h
  rw [hd, D.of_list h]
@[simp] noncomputable def eqLs (σ : Store) (x y : AV) : Option Bool := (listOfAV σ x).bind fun a => (listOfAV σ y).bind fun b => eqL a b
@[simp] noncomputable def intAV (a : AV) : Option Int := a.d?.bind D.int?
@[simp] noncomputable def strAV (a : AV) : Option Str := a.d?.bind D.str?
theorem of_intAV {a : AV} {i : Int} (h : intAV a = some i) : a = .val (.int i) := by
  obtain ⟨d, hd, h⟩ := of_bind h
  rw [AV.of_d hd, D.of_int h]
theorem of_strAV {a : AV} {i : Str} (h : strAV a = some i) : a = .val (.str i) := by
  obtain ⟨d, hd, h⟩ := of_bind h
  rw [AV.of_d hd, D.of_str h]
@[simp] noncomputable def ordAV (x y : AV) (f : Int → Int → Bool) : Option Bool := (intAV x).bind fun a => (intAV y).map fun b => f a b
@[simp] noncomputable def eqAV (σ : Store) (x y : AV) : Option Bool := match intAV x, strAV x with
  | some a, _ => (intAV y).map fun b => a == b
  | none, some a => (strAV y).map fun b => a == b
  | none, none => eqLs σ x y
@[simp] noncomputable def neAV (σ : Store) (x y : AV) : Option Bool := match intAV x with
  | some a => (intAV y).map fun b => a != b
  | none => (eqLs σ x y).map fun b => !b
@[simp] noncomputable def inAV (x y : AV) : Option Bool := (strAV x).bind fun a => (y.d?.bind D.tup?).bind fun l => (strs? l).map fun ss => ss.contains a
noncomputable def cmpAV (σ : Store) (op : Cop) (x y : AV) : Option Bool := match op with
  | .is => if noneAV y then some (noneAV x) else none
  | .isnot => if noneAV y then some (!noneAV x) else none
  | .eq => eqAV σ x y
  | .ne => neAV σ x y
  | .lt => ordAV x y fun a b => decide (a < b)
  | .le => ordAV x y fun a b => decide (a ≤ b)
  | .gt => ordAV x y fun a b => decide (b < a)
  | .ge => ordAV x y fun a b => decide (b ≤ a)
  | .isin => inAV x y
  | .notin => (inAV x y).map fun b => !b
theorem of_ordAV {x y : AV} {f : Int → Int → Bool} {r : Bool} (h : ordAV x y f = some r) : X2 fun a b => A3 (x = .val (.int a)) (y = .val (.int b)) (f a b = r) := by
  obtain ⟨a, ha, h⟩ := of_bind h
  obtain ⟨b, hb, h⟩ := of_map h
  exact ⟨a, b, of_intAV ha, of_intAV hb, h⟩

noncomputable def maxL : Int → List Int → Int
  | a, [] => a
  | a, b :: r => maxL (if b > a then b else a) r
noncomputable def vals? : List AV → Option (List D)
  | [] => some []
  | a :: r => a.d?.bind fun d => (vals? r).map (d :: ·)
/-- a call's operands; one that is a list's cell where it is let -/
noncomputable def seenAs (σ : Store) (k : Bool) (as : List AV) : Option (List D) := match as with
  | [.loc i] => if k then (σ[i]?).bind fun d => d.list?.map fun l => [.list l] else none
  | as => vals? as
@[simp] theorem seenAs_nil {σ : Store} {k : Bool} : seenAs σ k [] = some [] := rfl
@[simp] theorem seenAs_one {σ : Store} {k : Bool} {d : D} : seenAs σ k [.val d] = some [d] := rfl
@[simp] theorem seenAs_two {σ : Store} {k : Bool} {d e : D} : seenAs σ k [.val d, .val e] = some [d, e] := rfl
@[simp] theorem seenAs_three {σ : Store} {k : Bool} {d e f : D} : seenAs σ k [.val d, .val e, .val f] = some [d, e, f] := rfl
@[simp] theorem seenAs_loc {σ : Store} {i : Nat} : seenAs σ true [.loc i] = (σ[i]?).bind fun d => d.list?.map fun l => [.list l] := rfl
theorem of_seenAs {σ : Store} {k : Bool} {as : List AV} {ds : List D} (h : seenAs σ k as = some ds) : vals? as = some ds ∨ X2 fun i l => A4 (as = [.loc i]) (k = true) (σ[i]? = some (.list l)) (ds = [.list l]) := by
  unfold seenAs at h
  match as, h with
  | [.loc i], h =>
    cases k with
    | false => cases h
    | true =>
      obtain ⟨d, hd, h⟩ := of_bind h
      obtain ⟨l, hl, h⟩ := of_map h
      exact .inr ⟨i, l, rfl, rfl, by rw [hd, D.of_list hl], h.symm⟩
  | [], h => exact .inl h
  | .val d :: r, h => exact .inl h
  | .loc i :: b :: r, h => exact .inl h
@[simp] noncomputable def lenD (d : D) : Option D := (d.str?.bind fun s => if s.length ≤ lim then some (.int s.length) else none).or (d.list?.bind fun l => if l.length ≤ lim then some (.int l.length) else none)
@[simp] noncomputable def maxD : List Int → Option D
  | a :: r => if r.length ≤ lim then some (.int (maxL a r)) else none
  | [] => none
@[simp] noncomputable def biD (b : Bi) (l : List D) : Option D := match b with
  | .len => one l lenD
  | .str => one l fun d => d.int?.bind fun i => if sm i then some (.str (Str.ofString (toString i))) else none
  | .abs => one l fun d => d.int?.map fun a => .int (if a < 0 then -a else a)
  | .max2 => two l fun x y => intD x y fun a b => some (.int (if b > a then b else a))
  | .max1 => one l fun d => d.list?.bind fun l => (ints? l).bind maxD
  | .ord => one l fun d => d.str?.bind fun s => one s.cps.toList fun c => some (.int c)
  | .range1 => one l fun d => d.int?.bind fun b => if b.natAbs ≤ lim then some (.rng 0 b 1) else none
  | .range2 => two l fun x y => intD x y fun a b => if -10 ≤ a ∧ a.natAbs ≤ lim ∧ b.natAbs ≤ lim then some (.rng a b 1) else none
  | .range3 => three l fun x y z => intD x y fun a b => z.int?.bind fun c => if 0 ≤ a ∧ a.natAbs ≤ lim ∧ b.natAbs ≤ lim ∧ 0 < c ∧ c.natAbs ≤ lim then some (.rng a b c) else none
  | .list1 => one l fun d => d.list?.bind fun l => if l.length ≤ lim then some (.list l) else none
  | .sum1 => one l fun d => d.list?.bind fun l => (ints? l).map fun ns => .int ns.sum
@[simp] noncomputable def Bi.isLen : Bi → Bool
  | .len => true
  | _ => false
noncomputable def biAV (σ : Store) (b : Bi) (as : List AV) : Option AV := (seenAs σ b.isLen as).bind fun ds => (biD b ds).map .val

@[simp] noncomputable def meD (m : Me) (o : D) (l : List D) : Option D := match m with
  | .ljust => o.str?.bind fun x => one l fun d => d.int?.bind fun i => if i.natAbs ≤ lim ∧ -10 ≤ i then some (.str (Txt.ljust x i)) else none
  | .rjust => o.str?.bind fun x => one l fun d => d.int?.bind fun i => if i.natAbs ≤ lim ∧ -10 ≤ i then some (.str (Txt.rjust x i)) else none
  | .rjustc => o.str?.bind fun x => two l fun d e => d.int?.bind fun i => e.str?.bind fun f => if i.natAbs ≤ lim ∧ -10 ≤ i ∧ f.length = 1 then some (.str (Txt.rjustF x i (f.cps.getD 0 0))) else none
  | .join => o.str?.bind fun x => one l fun d => d.list?.bind fun l => (strs? l).bind fun ss => if (ss.map (·.length)).sum + ss.length * x.length ≤ lim then some (.str (Txt.join x ss)) else none
  | .get => o.dict?.bind fun m => one l fun d => d.str?.map fun k => (lookS k m).getD .none
@[simp] noncomputable def Me.isJoin : Me → Bool
  | .join => true
  | _ => false
noncomputable def meAV (σ : Store) (m : Me) (o : AV) (as : List AV) : Option AV := o.d?.bind fun d => (seenAs σ m.isJoin as).bind fun ds => (meD m d ds).map .val

/-- bounds of a slice -/
noncomputable def partOf (a : AV) : Option (Option Int) := a.d?.bind fun d => cond d.isNone (some none) (d.int?.map some)
noncomputable def cut {α : Type} (lo hi : Option Int) (l : List α) : List α := (l.drop (kms_lo lo l.length)).take (kms_hi hi l.length - kms_lo lo l.length)
@[simp] noncomputable def slD (d : D) (lo hi : Option Int) : Option D := (d.str?.bind fun s => if s.length ≤ lim then some (.str (PySem.Txt.slice s lo hi)) else none).or (d.list?.bind fun l => if l.length ≤ lim then some (.list (cut lo hi l)) else none)
noncomputable def slAV (x y z : AV) : Option AV := x.d?.bind fun d => (partOf y).bind fun lo => (partOf z).bind fun hi => (slD d lo hi).map .val

@[simp] noncomputable def idxD (σ : Store) (x : AV) (i : Int) : Option D := match x with
  | .val d => (d.str?.bind fun s => if 0 ≤ i ∧ i.natAbs < lim then (s.cps[i.toNat]?).map fun c => .str ⟨#[c]⟩ else none).or ((d.tup?.bind (idxOf i)).or (d.list?.bind (idxOf i)))
  | .loc j => (listOfAV σ (.loc j)).bind (idxOf i)
noncomputable def idxAV (σ : Store) (x y : AV) : Option AV := (intAV y).bind fun i => (idxD σ x i).map .val

noncomputable def keyIs (k i : D) : Bool := cond k.isNone i.isNone (k.int?.any fun a => i.int? == some a)
noncomputable def tblOf : List D → List D → D → Option D
  | [], _, _ => none
  | k :: ks, vs, i => unc vs fun v vs => cond (keyIs k i) (some v) (tblOf ks vs i)

noncomputable abbrev Fns := Nat → List AV → Store → Option (AV × Store)

noncomputable def slot (ρ : Slots) (i : Nat) : Option AV := match ρ[i]? with
  | some (some a) => some a
  | _ => none

noncomputable def D.bool? : D → Option Bool
  | .bool b => some b
  | _ => Option.none
noncomputable def boolAV (a : AV) : Option Bool := a.d?.bind D.bool?
theorem of_boolAV {a : AV} {b : Bool} (h : boolAV a = some b) : a = .val (.bool b) := by
  obtain ⟨d, hd, h⟩ := of_bind h
  rw [AV.of_d hd]
  cases d <;> first | (cases h; rfl) | cases h
noncomputable def AV.loc? : AV → Option Nat
  | .loc i => some i
  | .val _ => Option.none
theorem of_loc? {a : AV} {i : Nat} (h : a.loc? = some i) : a = .loc i := by cases a <;> first | (cases h; rfl) | cases h
noncomputable def listV (a : AV) : Option (List D) := a.d?.bind D.list?
theorem of_listV {a : AV} {l : List D} (h : listV a = some l) : a = .val (.list l) := by
  obtain ⟨d, hd, h⟩ := of_bind h
  rw [AV.of_d hd, D.of_list h]
noncomputable def Fl.on {α : Sort u} (f : Fl) (n : α) (r : AV → α) : α := match f with
  | .next => n
  | .ret a => r a

noncomputable def lcLoop (f : Slots → Store → Option (AV × Store)) (x : Nat) (ρ : Slots) : List D → Store → List D → Option (List D × Store)
  | [], σ, acc => some (acc.reverse, σ)
  | d :: r, σ, acc => (f (ρ.set x (some (.val d))) σ).bind fun p => p.1.d?.bind fun e => lcLoop f x ρ r p.2 (e :: acc)
noncomputable def lcLoopF (c f : Slots → Store → Option (AV × Store)) (x : Nat) (ρ : Slots) : List D → Store → List D → Option (List D × Store)
  | [], σ, acc => some (acc.reverse, σ)
  | d :: r, σ, acc => (c (ρ.set x (some (.val d))) σ).bind fun p => (boolAV p.1).bind fun t =>
    cond t ((f (ρ.set x (some (.val d))) p.2).bind fun q => q.1.d?.bind fun e => lcLoopF c f x ρ r q.2 (e :: acc)) (lcLoopF c f x ρ r p.2 acc)

/-- a callee's store behind it -/
noncomputable def leave (b : Nat) (a : AV) (σ : Store) : Option (AV × Store) := match a with
  | .val d => some (.val d, σ.take b)
  | .loc i => if i < b then some (.loc i, σ.take b) else (σ[i]?).bind fun c => (c.list?.map fun l => (.val (.list l), σ.take b)).or (c.inst?.map fun p => (.loc b, σ.take b ++ [.inst p.1 p.2]))
/-- as a tree -/
noncomputable def settle (b : Nat) (a : AV) (σ : Store) : Option (AV × Store) := match a with
  | .val d => some (.val d, σ.take b)
  | .loc i => if i < b then none else (σ[i]?).bind fun c => (frzD c).map fun d => (.val d, σ.take b)

mutual
noncomputable def ev (F : Fns) : T → Slots → Store → Option (AV × Store)
  | .bot, _, _ => none
  | .c d, _, σ => some (.val d, σ)
  | .gv _ d, _, σ => some (.val d, σ)
  | .v i, ρ, σ => (slot ρ i).map fun a => (a, σ)
  | .bin op a b, ρ, σ => (ev F a ρ σ).bind fun p => (ev F b ρ p.2).bind fun q => (binAV op p.1 q.1).map fun z => (z, q.2)
  | .neg a, ρ, σ => (ev F a ρ σ).bind fun p => (intAV p.1).map fun i => (.val (.int (-i)), p.2)
  | .not a, ρ, σ => (ev F a ρ σ).bind fun p => (boolAV p.1).map fun b => (.val (.bool (!b)), p.2)
  | .and a b, ρ, σ => (ev F a ρ σ).bind fun p => (boolAV p.1).bind fun c => cond c ((ev F b ρ p.2).bind fun q => (boolAV q.1).map fun d => (.val (.bool d), q.2)) (some (.val (.bool false), p.2))
  | .or a b, ρ, σ => (ev F a ρ σ).bind fun p => (boolAV p.1).bind fun c => cond c (some (.val (.bool true), p.2)) ((ev F b ρ p.2).bind fun q => (boolAV q.1).map fun d => (.val (.bool d), q.2))
  | .cmp op a b, ρ, σ => (ev F a ρ σ).bind fun p => (ev F b ρ p.2).bind fun q => (cmpAV q.2 op p.1 q.1).map fun z => (.val (.bool z), q.2)
  | .ite c a b, ρ, σ => (ev F c ρ σ).bind fun p => (boolAV p.1).bind fun t => cond t (ev F a ρ p.2) (ev F b ρ p.2)
  | .call f as, ρ, σ => (evs F as ρ σ).bind fun p => F f p.1 p.2
  | .new c as, ρ, σ => (evs F as ρ σ).bind fun p => (F (1000 + c) p.1 p.2).bind fun q => settle p.2.length q.1 q.2
  | .bi b as, ρ, σ => (evs F as ρ σ).bind fun p => (biAV p.2 b p.1).map fun z => (z, p.2)
  | .meth m o as, ρ, σ => (ev F o ρ σ).bind fun p => (evs F as ρ p.2).bind fun q => (meAV q.2 m p.1 q.1).map fun z => (z, q.2)
  | .attr o n, ρ, σ => (ev F o ρ σ).bind fun p => (cellOf p.2 p.1).bind fun d => (attrOf n d).map fun z => (z, p.2)
  | .idx o i, ρ, σ => (ev F o ρ σ).bind fun p => (ev F i ρ p.2).bind fun q => (idxAV q.2 p.1 q.1).map fun z => (z, q.2)
  | .sl o lo hi, ρ, σ => (ev F o ρ σ).bind fun p => (ev F lo ρ p.2).bind fun q => (ev F hi ρ q.2).bind fun r => (slAV p.1 q.1 r.1).map fun z => (z, r.2)
  | .tup l, ρ, σ => (evs F l ρ σ).bind fun p => (vals? p.1).map fun ds => (.val (.tup ds), p.2)
  | .list l, ρ, σ => (evs F l ρ σ).bind fun p => (vals? p.1).map fun ds => (.val (.list ds), p.2)
  | .tbl ks vs i, ρ, σ => (ev F i ρ σ).bind fun p => p.1.d?.bind fun d => (tblOf ks vs d).map fun e => (.val e, p.2)
  | .lc elt x it, ρ, σ => (ev F it ρ σ).bind fun p => (itemsOf p.1).bind fun ds => if ds.length ≤ lim then (lcLoop (ev F elt) x ρ ds p.2 []).map fun r => (.val (.list r.1), r.2) else none
  | .lcf elt x it c, ρ, σ => (ev F it ρ σ).bind fun p => (itemsOf p.1).bind fun ds => if ds.length ≤ lim then (lcLoopF (ev F c) (ev F elt) x ρ ds p.2 []).map fun r => (.val (.list r.1), r.2) else none
  | .fs ps, ρ, σ => (evs F ps ρ σ).bind fun p => ((vals? p.1).bind strs?).bind fun ss => if (ss.map (·.length)).sum ≤ lim then some (.val (.str (ss.foldl (· ++ ·) Str.empty)), p.2) else none
noncomputable def evs (F : Fns) : List T → Slots → Store → Option (List AV × Store)
  | [], _, σ => some ([], σ)
  | t :: r, ρ, σ => (ev F t ρ σ).bind fun p => (evs F r ρ p.2).map fun q => (p.1 :: q.1, q.2)
end

noncomputable def whLoop (c : Slots → Store → Option (AV × Store)) (b : Slots → Store → Option (Fl × Slots × Store)) : Nat → Slots → Store → Option (Fl × Slots × Store)
  | 0, _, _ => none
  | n + 1, ρ, σ => (c ρ σ).bind fun p => (boolAV p.1).bind fun t => cond t ((b ρ p.2).bind fun q => q.1.on (whLoop c b n q.2.1 q.2.2) fun a => some (.ret a, q.2.1, q.2.2)) (some (.next, ρ, p.2))
noncomputable def forLoop (b : Slots → Store → Option (Fl × Slots × Store)) (x : Nat) : List D → Slots → Store → Option (Fl × Slots × Store)
  | [], ρ, σ => some (.next, ρ, σ)
  | d :: r, ρ, σ => (b (ρ.set x (some (.val d))) σ).bind fun q => q.1.on (forLoop b x r q.2.1 q.2.2) fun a => some (.ret a, q.2.1, q.2.2)

noncomputable def setSlots : List Nat → List D → Slots → Option Slots
  | [], [], ρ => some ρ
  | x :: xs, d :: ds, ρ => setSlots xs ds (ρ.set x (some (.val d)))
  | _, _, _ => none
noncomputable def isL (d : D) : Bool := d.list?.isSome
noncomputable def augAV (op : Bop) (a b : AV) : Option AV := cond (a.d?.any isL) none (binAV op a b)

/-! a cell's new content -/
@[simp] noncomputable def odict? : D → Option (List (Str × D))
  | .odict e => some e
  | _ => none
theorem of_odict {d : D} {e : List (Str × D)} (h : odict? d = some e) : d = .odict e := by cases d <;> first | (cases h; rfl) | cases h
noncomputable def cellN (n : Nat) (d : D) (c : D) : Option D := c.inst?.bind fun p => if isO d = true ∨ 3 ≤ p.1 ∨ 12 ≤ n ∨ 900 ≤ p.2.length then none else some (.inst p.1 (setN n d p.2))
noncomputable def cellD (n : Nat) (k : Str) (d : D) (c : D) : Option D := c.inst?.bind fun p => if isO d = true ∨ 3 ≤ p.1 ∨ 12 ≤ n ∨ 900 ≤ p.2.length then none else some (.inst p.1 (setN n (.odict [(k, d)]) p.2))
noncomputable def cellK (n : Nat) (k : Str) (d : D) (c : D) : Option D := c.inst?.bind fun p => (lookN n p.2).bind fun x => (odict? x).bind fun e => if isO d = true ∨ 3 ≤ p.1 ∨ 12 ≤ n ∨ 900 ≤ e.length ∨ oneO n p.2 = false then none else some (.inst p.1 (setN n (.odict (setS k d e)) p.2))
noncomputable def cellI (k : Int) (d : D) (c : D) : Option D := c.list?.bind fun l => if isO d = false ∧ 0 ≤ k ∧ k < l.length ∧ l.length ≤ lim then some (.list (l.set k.toNat d)) else none
noncomputable def cellA (d : D) (c : D) : Option D := c.list?.bind fun l => if l.length ≤ lim then some (.list (l ++ [d])) else none
noncomputable def cellE (k : List D) (c : D) : Option D := c.list?.bind fun l => if l.length + k.length ≤ lim then some (.list (l ++ k)) else none
noncomputable def cellR (c : D) : Option D := c.list?.bind fun l => if l.length ≤ lim then some (.list l.reverse) else none
theorem of_cellA {d c c' : D} (h : cellA d c = some c') : ∃ l, A3 (c = .list l) (l.length ≤ lim) (c' = .list (l ++ [d])) := by
  obtain ⟨l, hl, h⟩ := of_bind h
  obtain ⟨a, b⟩ := of_if h
  exact ⟨l, D.of_list hl, a, b.symm⟩
theorem of_cellE {k : List D} {c c' : D} (h : cellE k c = some c') : ∃ l, A3 (c = .list l) (l.length + k.length ≤ lim) (c' = .list (l ++ k)) := by
  obtain ⟨l, hl, h⟩ := of_bind h
  obtain ⟨a, b⟩ := of_if h
  exact ⟨l, D.of_list hl, a, b.symm⟩
theorem of_cellR {c c' : D} (h : cellR c = some c') : ∃ l, A3 (c = .list l) (l.length ≤ lim) (c' = .list l.reverse) := by
  obtain ⟨l, hl, h⟩ := of_bind h
  obtain ⟨a, b⟩ := of_if h
  exact ⟨l, D.of_list hl, a, b.symm⟩
theorem of_cellI {k : Int} {d c c' : D} (h : cellI k d c = some c') : ∃ l, A3 (c = .list l) ((isO d = false ∧ 0 ≤ k ∧ k < l.length ∧ l.length ≤ lim)) (c' = .list (l.set k.toNat d)) := by
  obtain ⟨l, hl, h⟩ := of_bind h
  obtain ⟨a, b⟩ := of_if h
  exact ⟨l, D.of_list hl, a, b.symm⟩
theorem of_ifnT {α : Type} {c : Prop} [Decidable c] {o : Option α} {z : α} (h : (if c then none else o) = some z) : ¬ c ∧ o = some z := by
  by_cases hc : c
  · rw [if_pos hc] at h; cases h
  · rw [if_neg hc] at h; exact ⟨hc, h⟩
theorem of_iteT {α : Type} {c : Prop} [Decidable c] {o : Option α} {z : α} (h : (if c then o else none) = some z) : c ∧ o = some z := by
  by_cases hc : c
  · rw [if_pos hc] at h; exact ⟨hc, h⟩
  · rw [if_neg hc] at h; cases h
theorem of_ifn {α : Type} {c : Prop} [Decidable c] {x z : α} (h : (if c then none else some x) = some z) : ¬ c ∧ x = z := by
  by_cases hc : c
  · rw [if_pos hc] at h; cases h
  · rw [if_neg hc] at h; exact ⟨hc, Option.some.inj h⟩
theorem of_cellN {n : Nat} {d c c' : D} (h : cellN n d c = some c') : X2 fun k l => A3 (c = .inst k l) (¬ (isO d = true ∨ 3 ≤ k ∨ 12 ≤ n ∨ 900 ≤ l.length)) (c' = .inst k (setN n d l)) := by
  obtain ⟨p, hp, h⟩ := of_bind h
  obtain ⟨a, b⟩ := of_ifn h
  exact ⟨p.1, p.2, D.of_inst hp, a, b.symm⟩
theorem of_cellD {n : Nat} {x : Str} {d c c' : D} (h : cellD n x d c = some c') : X2 fun k l => A3 (c = .inst k l) (¬ (isO d = true ∨ 3 ≤ k ∨ 12 ≤ n ∨ 900 ≤ l.length)) (c' = .inst k (setN n (.odict [(x, d)]) l)) := by
  obtain ⟨p, hp, h⟩ := of_bind h
  obtain ⟨a, b⟩ := of_ifn h
  exact ⟨p.1, p.2, D.of_inst hp, a, b.symm⟩
theorem of_cellK {n : Nat} {x : Str} {d c c' : D} (h : cellK n x d c = some c') : X3 fun k l e => A4 (c = .inst k l) (lookN n l = some (.odict e)) (¬ (isO d = true ∨ 3 ≤ k ∨ 12 ≤ n ∨ 900 ≤ e.length ∨ oneO n l = false)) (c' = .inst k (setN n (.odict (setS x d e)) l)) := by
  obtain ⟨p, hp, h⟩ := of_bind h
  obtain ⟨y, hy, h⟩ := of_bind h
  obtain ⟨e, he, h⟩ := of_bind h
  obtain ⟨a, b⟩ := of_ifn h
  exact ⟨p.1, p.2, e, D.of_inst hp, hy.trans (congrArg some (of_odict he)), a, b.symm⟩
theorem of_isL {o : Option D} (h : o.any isL = true) : ∃ l, o = some (.list l) := by
  cases o with
  | none => cases h
  | some d => obtain ⟨l, hl⟩ := Option.isSome_iff_exists.mp h; exact ⟨l, congrArg some (D.of_list hl)⟩
noncomputable def tupList? (a : AV) : Option (List D) := a.d?.bind fun d => d.tup?.or d.list?
theorem of_tupList {a : AV} {ds : List D} (h : tupList? a = some ds) : a = .val (.tup ds) ∨ a = .val (.list ds) := by
  obtain ⟨d, hd, h⟩ := of_bind h
  rw [AV.of_d hd]
  cases ht : d.tup? with
  | some l => rw [ht] at h; cases h; exact .inl (congrArg AV.val (D.of_tup ht))
  | none => rw [ht] at h; exact .inr (congrArg AV.val (D.of_list h))

/-- a slot's cell as a tree -/
noncomputable def frzS (ρ : Slots) (σ : Store) (x : Nat) (a : AV) : Option (Fl × Slots × Store) := match a with
  | .val d => some (.next, ρ.set x (some (.val d)), σ)
  | .loc i => (σ[i]?).bind fun c => (frzD c).map fun d => (.next, ρ.set x (some (.val d)), σ.set i .none)
mutual
noncomputable def evS (F : Fns) : S → Slots → Store → Option (Fl × Slots × Store)
  | .bot, _, _ => none
  | .asg x t, ρ, σ => (ev F t ρ σ).map fun p => (.next, ρ.set x (some p.1), p.2)
  | .asgL x ts, ρ, σ => (evs F ts ρ σ).bind fun p => (vals? p.1).map fun ds => (.next, ρ.set x (some (.loc p.2.length)), p.2 ++ [.list ds])
  | .asgN x c as, ρ, σ => (evs F as ρ σ).bind fun p => (F (1000 + c) p.1 p.2).map fun q => (.next, ρ.set x (some q.1), q.2)
  | .asgT xs t, ρ, σ => (ev F t ρ σ).bind fun p => ((tupList? p.1).bind fun ds => setSlots xs ds ρ).map fun ρ' => (.next, ρ', p.2)
  | .aug x op t, ρ, σ => (slot ρ x).bind fun a => (ev F t ρ σ).bind fun p => (augAV op a p.1).map fun z => (.next, ρ.set x (some z), p.2)
  | .augL x t, ρ, σ => ((slot ρ x).bind AV.loc?).bind fun i => (ev F t ρ σ).bind fun p => (listV p.1).bind fun l => ((p.2[i]?).bind (cellE l)).map fun c => (.next, ρ.set x (some (.loc i)), p.2.set i c)
  | .sattr o n t, ρ, σ => (ev F t ρ σ).bind fun p => p.1.d?.bind fun d => (ev F o ρ p.2).bind fun q => q.1.loc?.bind fun i => ((q.2[i]?).bind (cellN n d)).map fun c => (.next, ρ, q.2.set i c)
  | .sattrD o n k t, ρ, σ => (ev F t ρ σ).bind fun p => p.1.d?.bind fun d => (ev F o ρ p.2).bind fun q => q.1.loc?.bind fun i => ((q.2[i]?).bind (cellD n k d)).map fun c => (.next, ρ, q.2.set i c)
  | .sidx o i t, ρ, σ => (ev F t ρ σ).bind fun p => p.1.d?.bind fun d => (ev F o ρ p.2).bind fun q => q.1.loc?.bind fun j => (ev F i ρ q.2).bind fun r => (intAV r.1).bind fun k => ((r.2[j]?).bind (cellI k d)).map fun c => (.next, ρ, r.2.set j c)
  | .sidx2 o n k t, ρ, σ => (ev F t ρ σ).bind fun p => p.1.d?.bind fun d => (ev F o ρ p.2).bind fun q => q.1.loc?.bind fun i => ((q.2[i]?).bind (cellK n k d)).map fun c => (.next, ρ, q.2.set i c)
  | .app o t, ρ, σ => (ev F o ρ σ).bind fun p => p.1.loc?.bind fun i => if (p.2[i]?).any isL = true then (ev F t ρ p.2).bind fun q => q.1.d?.bind fun d => ((q.2[i]?).bind (cellA d)).map fun c => (.next, ρ, q.2.set i c) else none
  | .ext o t, ρ, σ => (ev F o ρ σ).bind fun p => p.1.loc?.bind fun i => if (p.2[i]?).any isL = true then (ev F t ρ p.2).bind fun q => (listV q.1).bind fun d => ((q.2[i]?).bind (cellE d)).map fun c => (.next, ρ, q.2.set i c) else none
  | .rev o, ρ, σ => (ev F o ρ σ).bind fun p => p.1.loc?.bind fun i => ((p.2[i]?).bind cellR).map fun c => (.next, ρ, p.2.set i c)
  | .iff c a b, ρ, σ => (ev F c ρ σ).bind fun p => (boolAV p.1).bind fun t => cond t (evSs F a ρ p.2) (evSs F b ρ p.2)
  | .whl c b, ρ, σ => whLoop (ev F c) (evSs F b) 24 ρ σ
  | .forr x it b, ρ, σ => (ev F it ρ σ).bind fun p => (itemsOf p.1).bind fun ds => if ds.length ≤ lim then forLoop (evSs F b) x ds ρ p.2 else none
  | .ret t, ρ, σ => (ev F t ρ σ).map fun p => (.ret p.1, ρ, p.2)
  | .frzv x, ρ, σ => (slot ρ x).bind fun a => frzS ρ σ x a
noncomputable def evSs (F : Fns) : List S → Slots → Store → Option (Fl × Slots × Store)
  | [], ρ, σ => some (.next, ρ, σ)
  | s :: r, ρ, σ => (evS F s ρ σ).bind fun q => q.1.on (evSs F r q.2.1 q.2.2) fun a => some (.ret a, q.2.1, q.2.2)
end

/-- a def of the text: where it lies, its parameters' number, the values of those left out, its slots' number, its body -/
structure Fun where
  np : Nat
  dflt : List D
  ns : Nat
  body : List S
  deriving Inhabited

noncomputable def pad (n : Nat) (as : List AV) : Slots := as.map some ++ List.replicate (n - as.length) none

noncomputable def runF (F : Fns) (fd : Fun) (as : List AV) (σ : Store) : Option (AV × Store) :=
  if as.length + fd.dflt.length = fd.np then
    (evSs F fd.body (pad fd.ns (as ++ fd.dflt.map .val)) σ).bind fun q => q.1.on (leave σ.length (.val .none) q.2.2) fun a => leave σ.length a q.2.2
  else none

/-- classes are called by their __init__: what is made is the last cell -/
noncomputable def runC (F : Fns) (c : Nat) (fd : Fun) (as : List AV) (σ : Store) : Option (AV × Store) :=
  if (as.length + 1) + fd.dflt.length = fd.np then
    (evSs F fd.body (pad fd.ns (.loc σ.length :: as ++ fd.dflt.map .val)) (σ ++ [.inst c []])).bind fun q => q.1.on (leave σ.length (.loc σ.length) (q.2.2.take (σ.length + 1))) fun _ => none
  else none

noncomputable def callN (P : Nat → Option Fun) (C : Nat → Option Fun) : Nat → Fns
  | 0, _, _, _ => none
  | n + 1, f, as, σ => if f < 1000 then (P f).bind fun fd => runF (callN P C n) fd as σ
    else (C (f - 1000)).bind fun fd => runC (callN P C n) (f - 1000) fd as σ
end
/-! readers of a text -/
theorem bAnd {a b : Bool} (h : (a && b) = true) : a = true ∧ b = true := Bool.and_eq_true_iff.mp h
theorem bDec {p : Prop} [Decidable p] (h : decide p = true) : p := of_decide_eq_true h
theorem bBeq {α : Type} [BEq α] [LawfulBEq α] {a b : α} (h : (a == b) = true) : a = b := eq_of_beq h
theorem nilE {α : Type} {M : List α → Prop} {l : List α} (k : M []) (h : l.isEmpty = true) : M l := by
  cases l with
  | nil => exact k
  | cons _ _ => cases h
noncomputable def l1 {α : Type} (f : α → List α → Bool) (l : List α) : Bool := match l with
  | [] => false
  | a :: r => f a r
theorem of_l1 {α : Type} {f : α → List α → Bool} {M : List α → Prop} {l : List α} (k : ∀ a r, f a r = true → M (a :: r)) (h : l1 f l = true) : M l := by
  cases l with
  | nil => cases h
  | cons a r => exact k a r h
noncomputable def oN {α : Type} (o : Option α) : Bool := o.elim true fun _ => false
theorem of_oN {α : Type} {M : Option α → Prop} {o : Option α} (k : M none) (h : oN o = true) : M o := by
  cases o with
  | none => exact k
  | some a => cases h
noncomputable def oS {α : Type} (f : α → Bool) (o : Option α) : Bool := o.elim false f
theorem of_oS {α : Type} {f : α → Bool} {M : Option α → Prop} {o : Option α} (k : ∀ a, f a = true → M (some a)) (h : oS f o = true) : M o := by
  cases o with
  | none => cases h
  | some a => exact k a h
noncomputable def dB {p : Prop} [Decidable p] (g : p → Bool) : Bool := if h : p then g h else false
theorem of_dB {p : Prop} [Decidable p] {g : p → Bool} {P : Prop} (h : dB g = true) (k : ∀ hp, g hp = true → P) : P := by
  unfold dB at h
  split at h
  · exact k _ h
  · cases h
noncomputable def rBoolOp (f : BoolOp → List Expr → Pos → Bool) (e : Expr) : Bool := dB fun h : e.ctorIdx = 0 => @Expr.BoolOp.elim (fun _ => Bool) e h f
theorem of_rBoolOp {f : BoolOp → List Expr → Pos → Bool} {M : Expr → Prop} {e : Expr} (k : ∀ x0 x1 x2, f x0 x1 x2 = true → M (.BoolOp x0 x1 x2)) (h : rBoolOp f e = true) : M e :=
  of_dB h fun hc h => @Expr.BoolOp.elim (fun e => ∀ hc : e.ctorIdx = 0, @Expr.BoolOp.elim (fun _ => Bool) e hc f = true → M e) e hc (fun x0 x1 x2 _ h => k x0 x1 x2 h) hc h
noncomputable def rBinOp (f : Expr → Operator → Expr → Pos → Bool) (e : Expr) : Bool := dB fun h : e.ctorIdx = 2 => @Expr.BinOp.elim (fun _ => Bool) e h f
theorem of_rBinOp {f : Expr → Operator → Expr → Pos → Bool} {M : Expr → Prop} {e : Expr} (k : ∀ x0 x1 x2 x3, f x0 x1 x2 x3 = true → M (.BinOp x0 x1 x2 x3)) (h : rBinOp f e = true) : M e :=
  of_dB h fun hc h => @Expr.BinOp.elim (fun e => ∀ hc : e.ctorIdx = 2, @Expr.BinOp.elim (fun _ => Bool) e hc f = true → M e) e hc (fun x0 x1 x2 x3 _ h => k x0 x1 x2 x3 h) hc h
noncomputable def rUnaryOp (f : UnaryOp → Expr → Pos → Bool) (e : Expr) : Bool := dB fun h : e.ctorIdx = 3 => @Expr.UnaryOp.elim (fun _ => Bool) e h f
theorem of_rUnaryOp {f : UnaryOp → Expr → Pos → Bool} {M : Expr → Prop} {e : Expr} (k : ∀ x0 x1 x2, f x0 x1 x2 = true → M (.UnaryOp x0 x1 x2)) (h : rUnaryOp f e = true) : M e :=
  of_dB h fun hc h => @Expr.UnaryOp.elim (fun e => ∀ hc : e.ctorIdx = 3, @Expr.UnaryOp.elim (fun _ => Bool) e hc f = true → M e) e hc (fun x0 x1 x2 _ h => k x0 x1 x2 h) hc h
noncomputable def rIfExp (f : Expr → Expr → Expr → Pos → Bool) (e : Expr) : Bool := dB fun h : e.ctorIdx = 5 => @Expr.IfExp.elim (fun _ => Bool) e h f
theorem of_rIfExp {f : Expr → Expr → Expr → Pos → Bool} {M : Expr → Prop} {e : Expr} (k : ∀ x0 x1 x2 x3, f x0 x1 x2 x3 = true → M (.IfExp x0 x1 x2 x3)) (h : rIfExp f e = true) : M e :=
  of_dB h fun hc h => @Expr.IfExp.elim (fun e => ∀ hc : e.ctorIdx = 5, @Expr.IfExp.elim (fun _ => Bool) e hc f = true → M e) e hc (fun x0 x1 x2 x3 _ h => k x0 x1 x2 x3 h) hc h
noncomputable def rDict (f : List (Option Expr) → List Expr → Pos → Bool) (e : Expr) : Bool := dB fun h : e.ctorIdx = 6 => @Expr.Dict.elim (fun _ => Bool) e h f
theorem of_rDict {f : List (Option Expr) → List Expr → Pos → Bool} {M : Expr → Prop} {e : Expr} (k : ∀ x0 x1 x2, f x0 x1 x2 = true → M (.Dict x0 x1 x2)) (h : rDict f e = true) : M e :=
  of_dB h fun hc h => @Expr.Dict.elim (fun e => ∀ hc : e.ctorIdx = 6, @Expr.Dict.elim (fun _ => Bool) e hc f = true → M e) e hc (fun x0 x1 x2 _ h => k x0 x1 x2 h) hc h
noncomputable def rListComp (f : Expr → List Comprehension → Scope → Pos → Bool) (e : Expr) : Bool := dB fun h : e.ctorIdx = 8 => @Expr.ListComp.elim (fun _ => Bool) e h f
theorem of_rListComp {f : Expr → List Comprehension → Scope → Pos → Bool} {M : Expr → Prop} {e : Expr} (k : ∀ x0 x1 x2 x3, f x0 x1 x2 x3 = true → M (.ListComp x0 x1 x2 x3)) (h : rListComp f e = true) : M e :=
  of_dB h fun hc h => @Expr.ListComp.elim (fun e => ∀ hc : e.ctorIdx = 8, @Expr.ListComp.elim (fun _ => Bool) e hc f = true → M e) e hc (fun x0 x1 x2 x3 _ h => k x0 x1 x2 x3 h) hc h
noncomputable def rCompare (f : Expr → List CmpOp → List Expr → Pos → Bool) (e : Expr) : Bool := dB fun h : e.ctorIdx = 15 => @Expr.Compare.elim (fun _ => Bool) e h f
theorem of_rCompare {f : Expr → List CmpOp → List Expr → Pos → Bool} {M : Expr → Prop} {e : Expr} (k : ∀ x0 x1 x2 x3, f x0 x1 x2 x3 = true → M (.Compare x0 x1 x2 x3)) (h : rCompare f e = true) : M e :=
  of_dB h fun hc h => @Expr.Compare.elim (fun e => ∀ hc : e.ctorIdx = 15, @Expr.Compare.elim (fun _ => Bool) e hc f = true → M e) e hc (fun x0 x1 x2 x3 _ h => k x0 x1 x2 x3 h) hc h
noncomputable def rCall (f : Expr → List Expr → List Keyword → Pos → Bool) (e : Expr) : Bool := dB fun h : e.ctorIdx = 16 => @Expr.Call.elim (fun _ => Bool) e h f
theorem of_rCall {f : Expr → List Expr → List Keyword → Pos → Bool} {M : Expr → Prop} {e : Expr} (k : ∀ x0 x1 x2 x3, f x0 x1 x2 x3 = true → M (.Call x0 x1 x2 x3)) (h : rCall f e = true) : M e :=
  of_dB h fun hc h => @Expr.Call.elim (fun e => ∀ hc : e.ctorIdx = 16, @Expr.Call.elim (fun _ => Bool) e hc f = true → M e) e hc (fun x0 x1 x2 x3 _ h => k x0 x1 x2 x3 h) hc h
noncomputable def rFormattedValue (f : Expr → Int → Option Expr → Pos → Bool) (e : Expr) : Bool := dB fun h : e.ctorIdx = 17 => @Expr.FormattedValue.elim (fun _ => Bool) e h f
theorem of_rFormattedValue {f : Expr → Int → Option Expr → Pos → Bool} {M : Expr → Prop} {e : Expr} (k : ∀ x0 x1 x2 x3, f x0 x1 x2 x3 = true → M (.FormattedValue x0 x1 x2 x3)) (h : rFormattedValue f e = true) : M e :=
  of_dB h fun hc h => @Expr.FormattedValue.elim (fun e => ∀ hc : e.ctorIdx = 17, @Expr.FormattedValue.elim (fun _ => Bool) e hc f = true → M e) e hc (fun x0 x1 x2 x3 _ h => k x0 x1 x2 x3 h) hc h
noncomputable def rJoinedStr (f : List Expr → Pos → Bool) (e : Expr) : Bool := dB fun h : e.ctorIdx = 18 => @Expr.JoinedStr.elim (fun _ => Bool) e h f
theorem of_rJoinedStr {f : List Expr → Pos → Bool} {M : Expr → Prop} {e : Expr} (k : ∀ x0 x1, f x0 x1 = true → M (.JoinedStr x0 x1)) (h : rJoinedStr f e = true) : M e :=
  of_dB h fun hc h => @Expr.JoinedStr.elim (fun e => ∀ hc : e.ctorIdx = 18, @Expr.JoinedStr.elim (fun _ => Bool) e hc f = true → M e) e hc (fun x0 x1 _ h => k x0 x1 h) hc h
noncomputable def rConstant (f : Const → Nat → Pos → Bool) (e : Expr) : Bool := dB fun h : e.ctorIdx = 19 => @Expr.Constant.elim (fun _ => Bool) e h f
theorem of_rConstant {f : Const → Nat → Pos → Bool} {M : Expr → Prop} {e : Expr} (k : ∀ x0 x1 x2, f x0 x1 x2 = true → M (.Constant x0 x1 x2)) (h : rConstant f e = true) : M e :=
  of_dB h fun hc h => @Expr.Constant.elim (fun e => ∀ hc : e.ctorIdx = 19, @Expr.Constant.elim (fun _ => Bool) e hc f = true → M e) e hc (fun x0 x1 x2 _ h => k x0 x1 x2 h) hc h
noncomputable def rAttribute (f : Expr → Str → Pos → Bool) (e : Expr) : Bool := dB fun h : e.ctorIdx = 20 => @Expr.Attribute.elim (fun _ => Bool) e h f
theorem of_rAttribute {f : Expr → Str → Pos → Bool} {M : Expr → Prop} {e : Expr} (k : ∀ x0 x1 x2, f x0 x1 x2 = true → M (.Attribute x0 x1 x2)) (h : rAttribute f e = true) : M e :=
  of_dB h fun hc h => @Expr.Attribute.elim (fun e => ∀ hc : e.ctorIdx = 20, @Expr.Attribute.elim (fun _ => Bool) e hc f = true → M e) e hc (fun x0 x1 x2 _ h => k x0 x1 x2 h) hc h
noncomputable def rSubscript (f : Expr → Expr → Pos → Bool) (e : Expr) : Bool := dB fun h : e.ctorIdx = 21 => @Expr.Subscript.elim (fun _ => Bool) e h f
theorem of_rSubscript {f : Expr → Expr → Pos → Bool} {M : Expr → Prop} {e : Expr} (k : ∀ x0 x1 x2, f x0 x1 x2 = true → M (.Subscript x0 x1 x2)) (h : rSubscript f e = true) : M e :=
  of_dB h fun hc h => @Expr.Subscript.elim (fun e => ∀ hc : e.ctorIdx = 21, @Expr.Subscript.elim (fun _ => Bool) e hc f = true → M e) e hc (fun x0 x1 x2 _ h => k x0 x1 x2 h) hc h
noncomputable def rName (f : Str → Pos → Bool) (e : Expr) : Bool := dB fun h : e.ctorIdx = 23 => @Expr.Name.elim (fun _ => Bool) e h f
theorem of_rName {f : Str → Pos → Bool} {M : Expr → Prop} {e : Expr} (k : ∀ x0 x1, f x0 x1 = true → M (.Name x0 x1)) (h : rName f e = true) : M e :=
  of_dB h fun hc h => @Expr.Name.elim (fun e => ∀ hc : e.ctorIdx = 23, @Expr.Name.elim (fun _ => Bool) e hc f = true → M e) e hc (fun x0 x1 _ h => k x0 x1 h) hc h
noncomputable def rList (f : List Expr → Pos → Bool) (e : Expr) : Bool := dB fun h : e.ctorIdx = 24 => @Expr.List.elim (fun _ => Bool) e h f
theorem of_rList {f : List Expr → Pos → Bool} {M : Expr → Prop} {e : Expr} (k : ∀ x0 x1, f x0 x1 = true → M (.List x0 x1)) (h : rList f e = true) : M e :=
  of_dB h fun hc h => @Expr.List.elim (fun e => ∀ hc : e.ctorIdx = 24, @Expr.List.elim (fun _ => Bool) e hc f = true → M e) e hc (fun x0 x1 _ h => k x0 x1 h) hc h
noncomputable def rTuple (f : List Expr → Nat → Pos → Bool) (e : Expr) : Bool := dB fun h : e.ctorIdx = 25 => @Expr.Tuple.elim (fun _ => Bool) e h f
theorem of_rTuple {f : List Expr → Nat → Pos → Bool} {M : Expr → Prop} {e : Expr} (k : ∀ x0 x1 x2, f x0 x1 x2 = true → M (.Tuple x0 x1 x2)) (h : rTuple f e = true) : M e :=
  of_dB h fun hc h => @Expr.Tuple.elim (fun e => ∀ hc : e.ctorIdx = 25, @Expr.Tuple.elim (fun _ => Bool) e hc f = true → M e) e hc (fun x0 x1 x2 _ h => k x0 x1 x2 h) hc h
noncomputable def rSlice (f : Option Expr → Option Expr → Option Expr → Pos → Bool) (e : Expr) : Bool := dB fun h : e.ctorIdx = 26 => @Expr.Slice.elim (fun _ => Bool) e h f
theorem of_rSlice {f : Option Expr → Option Expr → Option Expr → Pos → Bool} {M : Expr → Prop} {e : Expr} (k : ∀ x0 x1 x2 x3, f x0 x1 x2 x3 = true → M (.Slice x0 x1 x2 x3)) (h : rSlice f e = true) : M e :=
  of_dB h fun hc h => @Expr.Slice.elim (fun e => ∀ hc : e.ctorIdx = 26, @Expr.Slice.elim (fun _ => Bool) e hc f = true → M e) e hc (fun x0 x1 x2 x3 _ h => k x0 x1 x2 x3 h) hc h
noncomputable def rReturn (f : Option Expr → Pos → Bool) (e : Stmt) : Bool := dB fun h : e.ctorIdx = 3 => @Stmt.Return.elim (fun _ => Bool) e h f
theorem of_rReturn {f : Option Expr → Pos → Bool} {M : Stmt → Prop} {e : Stmt} (k : ∀ x0 x1, f x0 x1 = true → M (.Return x0 x1)) (h : rReturn f e = true) : M e :=
  of_dB h fun hc h => @Stmt.Return.elim (fun e => ∀ hc : e.ctorIdx = 3, @Stmt.Return.elim (fun _ => Bool) e hc f = true → M e) e hc (fun x0 x1 _ h => k x0 x1 h) hc h
noncomputable def rAssign (f : List Expr → Expr → Pos → Bool) (e : Stmt) : Bool := dB fun h : e.ctorIdx = 5 => @Stmt.Assign.elim (fun _ => Bool) e h f
theorem of_rAssign {f : List Expr → Expr → Pos → Bool} {M : Stmt → Prop} {e : Stmt} (k : ∀ x0 x1 x2, f x0 x1 x2 = true → M (.Assign x0 x1 x2)) (h : rAssign f e = true) : M e :=
  of_dB h fun hc h => @Stmt.Assign.elim (fun e => ∀ hc : e.ctorIdx = 5, @Stmt.Assign.elim (fun _ => Bool) e hc f = true → M e) e hc (fun x0 x1 x2 _ h => k x0 x1 x2 h) hc h
noncomputable def rAugAssign (f : Expr → Operator → Expr → Pos → Bool) (e : Stmt) : Bool := dB fun h : e.ctorIdx = 7 => @Stmt.AugAssign.elim (fun _ => Bool) e h f
theorem of_rAugAssign {f : Expr → Operator → Expr → Pos → Bool} {M : Stmt → Prop} {e : Stmt} (k : ∀ x0 x1 x2 x3, f x0 x1 x2 x3 = true → M (.AugAssign x0 x1 x2 x3)) (h : rAugAssign f e = true) : M e :=
  of_dB h fun hc h => @Stmt.AugAssign.elim (fun e => ∀ hc : e.ctorIdx = 7, @Stmt.AugAssign.elim (fun _ => Bool) e hc f = true → M e) e hc (fun x0 x1 x2 x3 _ h => k x0 x1 x2 x3 h) hc h
noncomputable def rFor (f : Expr → Expr → List Stmt → List Stmt → Pos → Bool) (e : Stmt) : Bool := dB fun h : e.ctorIdx = 9 => @Stmt.For.elim (fun _ => Bool) e h f
theorem of_rFor {f : Expr → Expr → List Stmt → List Stmt → Pos → Bool} {M : Stmt → Prop} {e : Stmt} (k : ∀ x0 x1 x2 x3 x4, f x0 x1 x2 x3 x4 = true → M (.For x0 x1 x2 x3 x4)) (h : rFor f e = true) : M e :=
  of_dB h fun hc h => @Stmt.For.elim (fun e => ∀ hc : e.ctorIdx = 9, @Stmt.For.elim (fun _ => Bool) e hc f = true → M e) e hc (fun x0 x1 x2 x3 x4 _ h => k x0 x1 x2 x3 x4 h) hc h
noncomputable def rWhile (f : Expr → List Stmt → List Stmt → Pos → Bool) (e : Stmt) : Bool := dB fun h : e.ctorIdx = 11 => @Stmt.While.elim (fun _ => Bool) e h f
theorem of_rWhile {f : Expr → List Stmt → List Stmt → Pos → Bool} {M : Stmt → Prop} {e : Stmt} (k : ∀ x0 x1 x2 x3, f x0 x1 x2 x3 = true → M (.While x0 x1 x2 x3)) (h : rWhile f e = true) : M e :=
  of_dB h fun hc h => @Stmt.While.elim (fun e => ∀ hc : e.ctorIdx = 11, @Stmt.While.elim (fun _ => Bool) e hc f = true → M e) e hc (fun x0 x1 x2 x3 _ h => k x0 x1 x2 x3 h) hc h
noncomputable def rIf (f : Expr → List Stmt → List Stmt → Pos → Bool) (e : Stmt) : Bool := dB fun h : e.ctorIdx = 12 => @Stmt.If.elim (fun _ => Bool) e h f
theorem of_rIf {f : Expr → List Stmt → List Stmt → Pos → Bool} {M : Stmt → Prop} {e : Stmt} (k : ∀ x0 x1 x2 x3, f x0 x1 x2 x3 = true → M (.If x0 x1 x2 x3)) (h : rIf f e = true) : M e :=
  of_dB h fun hc h => @Stmt.If.elim (fun e => ∀ hc : e.ctorIdx = 12, @Stmt.If.elim (fun _ => Bool) e hc f = true → M e) e hc (fun x0 x1 x2 x3 _ h => k x0 x1 x2 x3 h) hc h
noncomputable def rSExpr (f : Expr → Pos → Bool) (e : Stmt) : Bool := dB fun h : e.ctorIdx = 24 => @Stmt.Expr.elim (fun _ => Bool) e h f
theorem of_rSExpr {f : Expr → Pos → Bool} {M : Stmt → Prop} {e : Stmt} (k : ∀ x0 x1, f x0 x1 = true → M (.Expr x0 x1)) (h : rSExpr f e = true) : M e :=
  of_dB h fun hc h => @Stmt.Expr.elim (fun e => ∀ hc : e.ctorIdx = 24, @Stmt.Expr.elim (fun _ => Bool) e hc f = true → M e) e hc (fun x0 x1 _ h => k x0 x1 h) hc h

theorem bOr {a b : Bool} {P : Prop} (h : (a || b) = true) (k : a = true → P) (l : b = true → P) : P := (Bool.or_eq_true_iff.mp h).elim k l
end Mine

namespace Mine
open PySem PySem.W PySem.Calls PyProof.Rows

noncomputable abbrev Led := List (Addr × Obj)
noncomputable abbrev tupO (vs : List Value) (n : Nat) : Obj := { cls := .type "tuple", data := .seq vs.toArray n }
noncomputable abbrev lstO (vs : List Value) (n : Nat) : Obj := W.listOf vs.toArray n
noncomputable abbrev rngO (a b c : Int) (t u v : Tok) : Obj := { cls := .type "range", data := .fields #[.int a t, .int b u, .int c v] }

/-- what the text says of classes and attributes -/
structure Names where
  an : Nat → Str
  ca : Nat → Addr
  fa : Nat → Addr
  fnm : Nat → Str

structure Wo where
  prog : Program
  w : World
  K : Frag
  p : Program
  loose : List Str
  mean : ExcName → Option Value
  mg : Str → Option Value
  mb : Str → Option Value
  nm : Names

section
variable (W : Wo)
mutual
inductive Rep (Z : Led) : Value → D → Prop
  | none : Rep Z .none .none
  | bool (b : Bool) : Rep Z (.bool b) (.bool b)
  | int (i : Int) (t : Tok) : Rep Z (.int i t) (.int i)
  | str (s : Str) (t : Tok) : Rep Z (.str s t) (.str s)
  | tup {a : Addr} {vs : List Value} {n : Nat} {ds : List D} : (a, tupO vs n) ∈ Z → Reps Z vs ds → Rep Z (.ref a) (.tup ds)
  | list {a : Addr} {vs : List Value} {n : Nat} {ds : List D} : (a, lstO vs n) ∈ Z → Reps Z vs ds → Rep Z (.ref a) (.list ds)
  | dict {a : Addr} {o : Obj} {es : List (Str × Value)} {l : List (Str × D)} : (a, o) ∈ Z → o.IsDictOf (strKind W.prog W.w) es → (a == sysModules) = false → RepEs Z es l → Rep Z (.ref a) (.dict l)
  | inst {x dx : Addr} {es : List DictEntry} {n c : Nat} {l : List (Nat × D)} : (x, instObj (W.nm.ca c) dx) ∈ Z → (dx, dictOf es n) ∈ Z → RepKs Z es l → Rep Z (.ref x) (.inst c l)
  | rng {r : Addr} {a b c : Int} {t u v : Tok} : (r, rngO a b c t u v) ∈ Z → Rep Z (.ref r) (.rng a b c)
inductive Reps (Z : Led) : List Value → List D → Prop
  | nil : Reps Z [] []
  | cons {v : Value} {vs : List Value} {d : D} {ds : List D} : Rep Z v d → Reps Z vs ds → Reps Z (v :: vs) (d :: ds)
inductive RepEs (Z : Led) : List (Str × Value) → List (Str × D) → Prop
  | nil : RepEs Z [] []
  | cons {k : Str} {v : Value} {es : List (Str × Value)} {d : D} {l : List (Str × D)} : Rep Z v d → RepEs Z es l → RepEs Z ((k, v) :: es) ((k, d) :: l)
inductive RepKs (Z : Led) : List DictEntry → List (Nat × D) → Prop
  | nil : RepKs Z [] []
  | cons {k : Nat} {h : Int} {t : Tok} {v : Value} {es : List DictEntry} {d : D} {l : List (Nat × D)} : Rep Z v d → RepKs Z es l → RepKs Z (⟨h, .str (W.nm.an k) t, v⟩ :: es) ((k, d) :: l)
end
end

section
variable {W : Wo} {Z Z' : Led}
theorem Rep.mono (hs : ∀ p ∈ Z, p ∈ Z') {v : Value} {d : D} (r : Rep W Z v d) : Rep W Z' v d := Rep.rec (motive_1 := fun v d _ => Rep W Z' v d) (motive_2 := fun vs ds _ => Reps W Z' vs ds) (motive_3 := fun es l _ => RepEs W Z' es l) (motive_4 := fun es l _ => RepKs W Z' es l) .none .bool .int .str (fun h _ r => .tup (hs _ h) r) (fun h _ r => .list (hs _ h) r) (fun h i k _ r => .dict (hs _ h) i k r) (fun h k _ r => .inst (hs _ h) (hs _ k) r) (fun h => .rng (hs _ h)) .nil (fun _ _ a b => .cons a b) .nil (fun _ _ a b => .cons a b) .nil (fun _ _ a b => .cons a b) r
theorem Reps.mono (hs : ∀ p ∈ Z, p ∈ Z') {vs : List Value} {ds : List D} (r : Reps W Z vs ds) : Reps W Z' vs ds := Reps.rec (motive_1 := fun v d _ => Rep W Z' v d) (motive_2 := fun vs ds _ => Reps W Z' vs ds) (motive_3 := fun es l _ => RepEs W Z' es l) (motive_4 := fun es l _ => RepKs W Z' es l) .none .bool .int .str (fun h _ r => .tup (hs _ h) r) (fun h _ r => .list (hs _ h) r) (fun h i k _ r => .dict (hs _ h) i k r) (fun h k _ r => .inst (hs _ h) (hs _ k) r) (fun h => .rng (hs _ h)) .nil (fun _ _ a b => .cons a b) .nil (fun _ _ a b => .cons a b) .nil (fun _ _ a b => .cons a b) r
theorem RepEs.mono (hs : ∀ p ∈ Z, p ∈ Z') {es : List (Str × Value)} {l : List (Str × D)} (r : RepEs W Z es l) : RepEs W Z' es l := RepEs.rec (motive_1 := fun v d _ => Rep W Z' v d) (motive_2 := fun vs ds _ => Reps W Z' vs ds) (motive_3 := fun es l _ => RepEs W Z' es l) (motive_4 := fun es l _ => RepKs W Z' es l) .none .bool .int .str (fun h _ r => .tup (hs _ h) r) (fun h _ r => .list (hs _ h) r) (fun h i k _ r => .dict (hs _ h) i k r) (fun h k _ r => .inst (hs _ h) (hs _ k) r) (fun h => .rng (hs _ h)) .nil (fun _ _ a b => .cons a b) .nil (fun _ _ a b => .cons a b) .nil (fun _ _ a b => .cons a b) r
theorem RepKs.mono (hs : ∀ p ∈ Z, p ∈ Z') {es : List DictEntry} {l : List (Nat × D)} (r : RepKs W Z es l) : RepKs W Z' es l := RepKs.rec (motive_1 := fun v d _ => Rep W Z' v d) (motive_2 := fun vs ds _ => Reps W Z' vs ds) (motive_3 := fun es l _ => RepEs W Z' es l) (motive_4 := fun es l _ => RepKs W Z' es l) .none .bool .int .str (fun h _ r => .tup (hs _ h) r) (fun h _ r => .list (hs _ h) r) (fun h i k _ r => .dict (hs _ h) i k r) (fun h k _ r => .inst (hs _ h) (hs _ k) r) (fun h => .rng (hs _ h)) .nil (fun _ _ a b => .cons a b) .nil (fun _ _ a b => .cons a b) .nil (fun _ _ a b => .cons a b) r
/-! what a value is that stands for a datum of a known form -/
noncomputable def RepK (W : Wo) (Z : Led) (M : Value → Prop) : D → Prop
  | .none => M .none
  | .bool b => M (.bool b)
  | .int i => ∀ t, M (.int i t)
  | .str s => ∀ t, M (.str s t)
  | .tup l => ∀ a vs n, (a, tupO vs n) ∈ Z → Reps W Z vs l → M (.ref a)
  | .list l => ∀ a vs n, (a, lstO vs n) ∈ Z → Reps W Z vs l → M (.ref a)
  | .dict l => ∀ a o es, (a, o) ∈ Z → o.IsDictOf (strKind W.prog W.w) es → (a == sysModules) = false → RepEs W Z es l → M (.ref a)
  | .inst c l => ∀ x dx es n, (x, instObj (W.nm.ca c) dx) ∈ Z → (dx, dictOf es n) ∈ Z → RepKs W Z es l → M (.ref x)
  | .rng a b c => ∀ r t u v, (r, rngO a b c t u v) ∈ Z → M (.ref r)
  | .odict _ => True
theorem Rep.cps {v : Value} {d : D} (r : Rep W Z v d) : ∀ M : Value → Prop, RepK W Z M d → M v :=
  Rep.casesOn (motive_1 := fun v d _ => ∀ M : Value → Prop, RepK W Z M d → M v) r (fun M k => k) (fun b M k => k) (fun i t M k => k t) (fun s t M k => k t) (fun h r M k => k _ _ _ h r) (fun h r M k => k _ _ _ h r) (fun h i s r M k => k _ _ _ h i s r) (fun h i r M k => k _ _ _ _ h i r) (fun h M k => k _ _ _ _ h)
noncomputable def RepsK (W : Wo) (Z : Led) (M : List Value → Prop) : List D → Prop
  | [] => M []
  | d :: ds => ∀ v vs, Rep W Z v d → Reps W Z vs ds → M (v :: vs)
theorem Reps.cps {vs : List Value} {ds : List D} (r : Reps W Z vs ds) : ∀ M : List Value → Prop, RepsK W Z M ds → M vs :=
  Reps.casesOn (motive_2 := fun vs ds _ => ∀ M : List Value → Prop, RepsK W Z M ds → M vs) r (fun M k => k) (fun a s M k => k _ _ a s)
noncomputable def RepEsK (W : Wo) (Z : Led) (M : List (Str × Value) → Prop) : List (Str × D) → Prop
  | [] => M []
  | p :: ds => ∀ v vs, Rep W Z v p.2 → RepEs W Z vs ds → M ((p.1, v) :: vs)
theorem RepEs.cps {vs : List (Str × Value)} {ds : List (Str × D)} (r : RepEs W Z vs ds) : ∀ M : List (Str × Value) → Prop, RepEsK W Z M ds → M vs :=
  RepEs.casesOn (motive_3 := fun vs ds _ => ∀ M : List (Str × Value) → Prop, RepEsK W Z M ds → M vs) r (fun M k => k) (fun a s M k => k _ _ a s)
theorem Reps.length {vs : List Value} {ds : List D} (r : Reps W Z vs ds) : vs.length = ds.length := by
  induction ds generalizing vs with
  | nil => exact r.cps (fun vs => vs.length = 0) rfl
  | cons d ds ih => exact r.cps (fun vs => vs.length = ds.length + 1) fun v vs _ s => congrArg (· + 1) (ih s)
theorem Reps.append {vs ws : List Value} {ds es : List D} (r : Reps W Z vs ds) (q : Reps W Z ws es) : Reps W Z (vs ++ ws) (ds ++ es) := by
  induction ds generalizing vs with
  | nil => exact r.cps (fun vs => Reps W Z (vs ++ ws) es) q
  | cons d ds ih => exact r.cps (fun vs => Reps W Z (vs ++ ws) (d :: (ds ++ es))) fun v vs x s => .cons x (ih s)
theorem Reps.at {vs : List Value} {ds : List D} (r : Reps W Z vs ds) {i : Nat} {d : D} (h : ds[i]? = some d) : ∃ v, vs[i]? = some v ∧ Rep W Z v d := by
  induction ds generalizing vs i with
  | nil => cases h
  | cons e ds ih =>
    refine r.cps (fun vs => ∃ v, vs[i]? = some v ∧ Rep W Z v d) fun v vs x s => ?_
    cases i with
    | zero => cases h; exact ⟨v, rfl, x⟩
    | succ i => exact ih s h
theorem Reps.of_get {vs : List Value} {ds : List D} (r : Reps W Z vs ds) (i : Nat) (v : Value) (h : vs[i]? = some v) : ∃ d, ds[i]? = some d ∧ Rep W Z v d := by
  induction ds generalizing vs i with
  | nil => exact r.cps (fun vs => vs[i]? = some v → ∃ d, ([] : List D)[i]? = some d ∧ Rep W Z v d) (fun h => nomatch h) h
  | cons e ds ih =>
    refine r.cps (fun vs => vs[i]? = some v → ∃ d, (e :: ds)[i]? = some d ∧ Rep W Z v d) (fun u vs x s h => ?_) h
    cases i with
    | zero => cases h; exact ⟨e, rfl, x⟩
    | succ i => exact ih s i h
theorem Reps.set {vs : List Value} {ds : List D} (r : Reps W Z vs ds) (i : Nat) {v : Value} {d : D} (h : Rep W Z v d) : Reps W Z (vs.set i v) (ds.set i d) := by
  induction ds generalizing vs i with
  | nil => exact r.cps (fun vs => Reps W Z (vs.set i v) []) .nil
  | cons e ds ih =>
    refine r.cps (fun vs => Reps W Z (vs.set i v) ((e :: ds).set i d)) fun u vs x s => ?_
    cases i with
    | zero => exact .cons h s
    | succ i => exact .cons x (ih s i)
theorem Reps.take {vs : List Value} {ds : List D} (r : Reps W Z vs ds) (n : Nat) : Reps W Z (vs.take n) (ds.take n) := by
  induction n generalizing vs ds with
  | zero => rw [List.take_zero, List.take_zero]; exact .nil
  | succ n ih =>
    cases ds with
    | nil => exact r.cps (fun vs => Reps W Z (vs.take (n + 1)) []) .nil
    | cons d ds => exact r.cps (fun vs => Reps W Z (vs.take (n + 1)) (d :: ds.take n)) fun v vs x s => .cons x (ih s)
theorem Reps.drop {vs : List Value} {ds : List D} (r : Reps W Z vs ds) (n : Nat) : Reps W Z (vs.drop n) (ds.drop n) := by
  induction n generalizing vs ds with
  | zero => exact r
  | succ n ih =>
    cases ds with
    | nil => exact r.cps (fun vs => Reps W Z (vs.drop (n + 1)) []) .nil
    | cons d ds => exact r.cps (fun vs => Reps W Z (vs.drop (n + 1)) (ds.drop n)) fun v vs x s => ih s
theorem Reps.reverse {vs : List Value} {ds : List D} (r : Reps W Z vs ds) : Reps W Z vs.reverse ds.reverse := by
  induction ds generalizing vs with
  | nil => exact r.cps (fun vs => Reps W Z vs.reverse []) .nil
  | cons d ds ih =>
    refine r.cps (fun vs => Reps W Z vs.reverse (d :: ds).reverse) fun v vs x s => ?_
    show Reps W Z (v :: vs).reverse (d :: ds).reverse
    rw [List.reverse_cons, List.reverse_cons]
    exact (ih s).append (.cons x .nil)
end

section
variable (W : Wo)
inductive RepA (inj : List Addr) (Z : Led) : Value → AV → Prop
  | val {v : Value} {d : D} : Rep W Z v d → RepA inj Z v (.val d)
  | loc {a : Addr} {i : Nat} : inj[i]? = some a → RepA inj Z (.ref a) (.loc i)
inductive RepAs (inj : List Addr) (Z : Led) : List Value → List AV → Prop
  | nil : RepAs inj Z [] []
  | cons {v : Value} {vs : List Value} {a : AV} {as : List AV} : RepA W inj Z v a → RepAs inj Z vs as → RepAs inj Z (v :: vs) (a :: as)
/-- an entry of a made object in a cell: a tree, or a dict of the cell's own -/
inductive RepO (Z O : Led) : Value → D → Prop
  | val {v : Value} {d : D} : Rep W Z v d → RepO Z O v d
  | own {a : Addr} {o : Obj} {es : List (Str × Value)} {l : List (Str × D)} : (a, o) ∈ O → o.IsDictOf (strKind W.prog W.w) es → (a == sysModules) = false → RepEs W Z es l → RepO Z O (.ref a) (.odict l)
inductive KsO (Z O : Led) : List DictEntry → List (Nat × D) → Prop
  | nil : KsO Z O [] []
  | cons {k : Nat} {h : Int} {t : Tok} {v : Value} {es : List DictEntry} {d : D} {l : List (Nat × D)} : RepO W Z O v d → KsO Z O es l → KsO Z O (⟨h, .str (W.nm.an k) t, v⟩ :: es) ((k, d) :: l)
inductive CellRep (Z : Led) : D → Addr → Led → Prop
  | list {a : Addr} {vs : List Value} {n : Nat} {ds : List D} : Reps W Z vs ds → CellRep Z (.list ds) a [(a, lstO vs n)]
  | inst {x dx : Addr} {es : List DictEntry} {n c : Nat} {l : List (Nat × D)} {O : Led} : KsO W Z O es l → CellRep Z (.inst c l) x ((x, instObj (W.nm.ca c) dx) :: (dx, dictOf es n) :: O)
  | dead {a : Addr} : CellRep Z .none a []
inductive Cells (Z : Led) : Store → List Addr → List Led → Prop
  | nil : Cells Z [] [] []
  | cons {c : D} {σ : Store} {a : Addr} {inj : List Addr} {e : Led} {C : List Led} : CellRep W Z c a e → Cells Z σ inj C → Cells Z (c :: σ) (a :: inj) (e :: C)
end

section
variable {W : Wo} {Z Z' : Led} {inj inj' : List Addr}
noncomputable def RepAK (W : Wo) (inj : List Addr) (Z : Led) (M : Value → Prop) : AV → Prop
  | .val d => ∀ v, Rep W Z v d → M v
  | .loc i => ∀ a, inj[i]? = some a → M (.ref a)
theorem RepA.cps {v : Value} {a : AV} (r : RepA W inj Z v a) : ∀ M : Value → Prop, RepAK W inj Z M a → M v :=
  RepA.casesOn (motive := fun v a _ => ∀ M : Value → Prop, RepAK W inj Z M a → M v) r (fun x M k => k _ x) (fun h M k => k _ h)
noncomputable def RepAsK (W : Wo) (inj : List Addr) (Z : Led) (M : List Value → Prop) : List AV → Prop
  | [] => M []
  | a :: as => ∀ v vs, RepA W inj Z v a → RepAs W inj Z vs as → M (v :: vs)
theorem RepAs.cps {vs : List Value} {as : List AV} (r : RepAs W inj Z vs as) : ∀ M : List Value → Prop, RepAsK W inj Z M as → M vs :=
  RepAs.casesOn (motive := fun vs as _ => ∀ M : List Value → Prop, RepAsK W inj Z M as → M vs) r (fun M k => k) (fun a s M k => k _ _ a s)
theorem RepA.of_val {v : Value} {d : D} (r : RepA W inj Z v (.val d)) : Rep W Z v d := r.cps (fun v => Rep W Z v d) fun _ x => x
theorem RepA.mono (hs : ∀ p ∈ Z, p ∈ Z') (hi : ∃ x, inj' = inj ++ x) {v : Value} {a : AV} (r : RepA W inj Z v a) : RepA W inj' Z' v a := by
  cases a with
  | val d => exact .val (r.of_val.mono hs)
  | loc i =>
    refine r.cps (fun v => RepA W inj' Z' v (.loc i)) fun a h => .loc ?_
    obtain ⟨x, rfl⟩ := hi
    rw [List.getElem?_append_left (List.getElem?_eq_some_iff.mp h).1]; exact h
theorem RepAs.mono (hs : ∀ p ∈ Z, p ∈ Z') (hi : ∃ x, inj' = inj ++ x) {vs : List Value} {as : List AV} (r : RepAs W inj Z vs as) : RepAs W inj' Z' vs as := by
  induction r with
  | nil => exact .nil
  | cons a _ ih => exact .cons (a.mono hs hi) ih
theorem RepAs.length {vs : List Value} {as : List AV} (r : RepAs W inj Z vs as) : vs.length = as.length := by
  induction r with
  | nil => rfl
  | cons _ _ ih => exact congrArg (· + 1) ih
theorem RepAs.vals {vs : List Value} {as : List AV} {ds : List D} (r : RepAs W inj Z vs as) (h : vals? as = some ds) : Reps W Z vs ds := by
  induction as generalizing vs ds with
  | nil => cases h; exact r.cps (fun vs => Reps W Z vs []) .nil
  | cons a as ih =>
    refine r.cps (fun vs => Reps W Z vs ds) fun v vs x s => ?_
    obtain ⟨d, hd, h⟩ := of_bind h
    obtain ⟨es, he, h⟩ := of_map h
    rw [← h]
    rw [AV.of_d hd] at x
    exact .cons x.of_val (ih s he)
noncomputable def RepOK (W : Wo) (Z O : Led) (M : Value → Prop) (d : D) : Prop := (∀ v, Rep W Z v d → M v) ∧ ∀ l, d = .odict l → ∀ a o es, (a, o) ∈ O → o.IsDictOf (strKind W.prog W.w) es → (a == sysModules) = false → RepEs W Z es l → M (.ref a)
theorem RepO.cps {O : Led} {v : Value} {d : D} (r : RepO W Z O v d) : ∀ M : Value → Prop, RepOK W Z O M d → M v :=
  RepO.casesOn (motive := fun v d _ => ∀ M : Value → Prop, RepOK W Z O M d → M v) r (fun r M k => k.1 _ r) (fun h i s r M k => k.2 _ rfl _ _ _ h i s r)
noncomputable def KsOK (W : Wo) (Z O : Led) (M : List DictEntry → Prop) : List (Nat × D) → Prop
  | [] => M []
  | p :: l => ∀ h t v es, RepO W Z O v p.2 → KsO W Z O es l → M (⟨h, .str (W.nm.an p.1) t, v⟩ :: es)
theorem KsO.cps {O : Led} {es : List DictEntry} {l : List (Nat × D)} (r : KsO W Z O es l) : ∀ M : List DictEntry → Prop, KsOK W Z O M l → M es :=
  KsO.casesOn (motive := fun es l _ => ∀ M : List DictEntry → Prop, KsOK W Z O M l → M es) r (fun M k => k) (fun a s M k => k _ _ _ _ a s)
theorem RepO.mono {O O' : Led} (hs : ∀ p ∈ Z, p ∈ Z') (ho : ∀ p ∈ O, p ∈ O') {v : Value} {d : D} (r : RepO W Z O v d) : RepO W Z' O' v d :=
  r.cps (fun v => RepO W Z' O' v d) ⟨fun v r => .val (r.mono hs), fun l e a o es m i k r => e ▸ .own (ho _ m) i k (r.mono hs)⟩
theorem KsO.mono {O O' : Led} (hs : ∀ p ∈ Z, p ∈ Z') (ho : ∀ p ∈ O, p ∈ O') {es : List DictEntry} {l : List (Nat × D)} (r : KsO W Z O es l) : KsO W Z' O' es l := by
  induction l generalizing es with
  | nil => exact r.cps (fun es => KsO W Z' O' es []) .nil
  | cons p l ih => exact r.cps (fun es => KsO W Z' O' es (p :: l)) fun h t v es a s => .cons (a.mono hs ho) (ih s)
theorem RepKs.toO {O : Led} {es : List DictEntry} {l : List (Nat × D)} (r : RepKs W Z es l) : KsO W Z O es l := RepKs.rec (motive_1 := fun _ _ _ => True) (motive_2 := fun _ _ _ => True) (motive_3 := fun _ _ _ => True) (motive_4 := fun es l _ => KsO W Z O es l) trivial (fun _ => trivial) (fun _ _ => trivial) (fun _ _ => trivial) (fun _ _ _ => trivial) (fun _ _ _ => trivial) (fun _ _ _ _ _ => trivial) (fun _ _ _ _ => trivial) (fun _ => trivial) trivial (fun _ _ _ _ => trivial) trivial (fun _ _ _ _ => trivial) .nil (fun r _ _ ih => .cons (.val r) ih) r
theorem Rep.thawD {v : Value} {d : D} (r : Rep W Z v d) : Mine.thawD d = d :=
  Rep.casesOn (motive_1 := fun v d _ => Mine.thawD d = d) r rfl (fun _ => rfl) (fun _ _ => rfl) (fun _ _ => rfl) (fun _ _ => rfl) (fun _ _ => rfl) (fun _ _ _ _ => rfl) (fun _ _ _ => rfl) (fun _ => rfl)
theorem CellRep.mono (hs : ∀ p ∈ Z, p ∈ Z') {d : D} {a : Addr} {e : Led} (r : CellRep W Z d a e) : CellRep W Z' d a e := by
  induction r with
  | list r => exact .list (r.mono hs)
  | inst r => exact .inst (r.mono hs fun _ h => h)
  | dead => exact .dead
theorem Cells.mono (hs : ∀ p ∈ Z, p ∈ Z') {σ : Store} {inj : List Addr} {C : List Led} (r : Cells W Z σ inj C) : Cells W Z' σ inj C := by
  induction r with
  | nil => exact .nil
  | cons a _ ih => exact .cons (a.mono hs) ih
theorem Cells.len {σ : Store} {inj : List Addr} {C : List Led} (r : Cells W Z σ inj C) : inj.length = σ.length ∧ C.length = σ.length := by
  induction r with
  | nil => exact ⟨rfl, rfl⟩
  | cons _ _ ih => exact ⟨congrArg (· + 1) ih.1, congrArg (· + 1) ih.2⟩
theorem Cells.append {σ : Store} {inj : List Addr} {C : List Led} {σ' : Store} {inj' : List Addr} {C' : List Led} (r : Cells W Z σ inj C) (q : Cells W Z σ' inj' C') : Cells W Z (σ ++ σ') (inj ++ inj') (C ++ C') := by
  induction r with
  | nil => exact q
  | cons a _ ih => exact .cons a ih
theorem Cells.take {σ : Store} {inj : List Addr} {C : List Led} (r : Cells W Z σ inj C) (n : Nat) : Cells W Z (σ.take n) (inj.take n) (C.take n) := by
  induction r generalizing n with
  | nil => rw [List.take_nil, List.take_nil, List.take_nil]; exact .nil
  | cons a _ ih =>
    cases n with
    | zero => exact .nil
    | succ n => exact .cons a (ih n)
/-- one cell apart from the others -/
theorem Cells.split {σ : Store} {inj : List Addr} {C : List Led} (r : Cells W Z σ inj C) (i : Nat) (c : D) (h : σ[i]? = some c) :
    X4 fun C₁ e C₂ a => A4 (C = C₁ ++ e :: C₂) (inj[i]? = some a) (CellRep W Z c a e) (∀ (c' : D) (e' : Led) (Z' : Led), (∀ p ∈ Z, p ∈ Z') → CellRep W Z' c' a e' → Cells W Z' (σ.set i c') inj (C₁ ++ e' :: C₂)) := by
  induction r generalizing i with
  | nil => cases h
  | cons x r ih =>
    cases i with
    | zero =>
      cases h
      exact ⟨[], _, _, _, rfl, rfl, x, fun c' e' Z' hz q => .cons q (r.mono hz)⟩
    | succ i =>
      obtain ⟨C₁, e, C₂, a, h1, ha, hr, k⟩ := ih i h
      exact ⟨_ :: C₁, e, C₂, a, congrArg (_ :: ·) h1, ha, hr, fun c' e' Z' hz q => .cons (x.mono hz) (k c' e' Z' hz q)⟩

theorem Rep.of_none {v : Value} (r : Rep W Z v .none) : v = .none := r.cps (fun v => v = .none) rfl
theorem Rep.of_bool {v : Value} {b : Bool} (r : Rep W Z v (.bool b)) : v = .bool b := r.cps (fun v => v = .bool b) rfl
theorem Rep.of_int {v : Value} {i : Int} (r : Rep W Z v (.int i)) : ∃ t, v = .int i t := r.cps (fun v => ∃ t, v = .int i t) fun t => ⟨t, rfl⟩
theorem Rep.of_str {v : Value} {x : Str} (r : Rep W Z v (.str x)) : ∃ t, v = .str x t := r.cps (fun v => ∃ t, v = .str x t) fun t => ⟨t, rfl⟩
theorem Rep.of_tup {v : Value} {l : List D} (r : Rep W Z v (.tup l)) : X3 fun a vs n => A3 (v = .ref a) ((a, tupO vs n) ∈ Z) (Reps W Z vs l) := r.cps (fun v => X3 fun a vs n => A3 (v = .ref a) ((a, tupO vs n) ∈ Z) (Reps W Z vs l)) fun a vs n h s => ⟨a, vs, n, rfl, h, s⟩
theorem Rep.of_list {v : Value} {l : List D} (r : Rep W Z v (.list l)) : X3 fun a vs n => A3 (v = .ref a) ((a, lstO vs n) ∈ Z) (Reps W Z vs l) := r.cps (fun v => X3 fun a vs n => A3 (v = .ref a) ((a, lstO vs n) ∈ Z) (Reps W Z vs l)) fun a vs n h s => ⟨a, vs, n, rfl, h, s⟩
theorem Rep.of_dict {v : Value} {l : List (Str × D)} (r : Rep W Z v (.dict l)) : X3 fun a o es => A5 (v = .ref a) ((a, o) ∈ Z) (o.IsDictOf (strKind W.prog W.w) es) ((a == sysModules) = false) (RepEs W Z es l) :=
  r.cps (fun v => X3 fun a o es => A5 (v = .ref a) ((a, o) ∈ Z) (o.IsDictOf (strKind W.prog W.w) es) ((a == sysModules) = false) (RepEs W Z es l)) fun a o es h i s q => ⟨a, o, es, rfl, h, i, s, q⟩
theorem Rep.of_inst {v : Value} {c : Nat} {l : List (Nat × D)} (r : Rep W Z v (.inst c l)) : X4 fun x dx es n => A4 (v = .ref x) ((x, instObj (W.nm.ca c) dx) ∈ Z) ((dx, dictOf es n) ∈ Z) (RepKs W Z es l) :=
  r.cps (fun v => X4 fun x dx es n => A4 (v = .ref x) ((x, instObj (W.nm.ca c) dx) ∈ Z) ((dx, dictOf es n) ∈ Z) (RepKs W Z es l)) fun x dx es n h i s => ⟨x, dx, es, n, rfl, h, i, s⟩
theorem Rep.of_rng {v : Value} {a b c : Int} (r : Rep W Z v (.rng a b c)) : X4 fun r t u w => v = .ref r ∧ (r, rngO a b c t u w) ∈ Z := r.cps (fun v => X4 fun r t u w => v = .ref r ∧ (r, rngO a b c t u w) ∈ Z) fun r t u w h => ⟨r, t, u, w, rfl, h⟩
theorem RepA.of_loc {v : Value} {i : Nat} (r : RepA W inj Z v (.loc i)) : ∃ a, v = .ref a ∧ inj[i]? = some a := r.cps (fun v => ∃ a, v = .ref a ∧ inj[i]? = some a) fun a h => ⟨a, rfl, h⟩
theorem Reps.of_cons {vs : List Value} {d : D} {ds : List D} (r : Reps W Z vs (d :: ds)) : X2 fun v ws => A3 (vs = v :: ws) (Rep W Z v d) (Reps W Z ws ds) := r.cps (fun vs => X2 fun v ws => A3 (vs = v :: ws) (Rep W Z v d) (Reps W Z ws ds)) fun v ws x s => ⟨v, ws, rfl, x, s⟩
theorem Reps.of_nil {vs : List Value} (r : Reps W Z vs []) : vs = [] := r.cps (fun vs => vs = []) rfl
theorem Reps.of_one {vs : List Value} {d : D} (r : Reps W Z vs [d]) : ∃ v, vs = [v] ∧ Rep W Z v d := r.cps (fun vs => ∃ v, vs = [v] ∧ Rep W Z v d) fun v ws x s => ⟨v, by rw [s.of_nil], x⟩
theorem Reps.of_two {vs : List Value} {d e : D} (r : Reps W Z vs [d, e]) : X2 fun v u => A3 (vs = [v, u]) (Rep W Z v d) (Rep W Z u e) := r.cps (fun vs => X2 fun v u => A3 (vs = [v, u]) (Rep W Z v d) (Rep W Z u e)) fun v ws x s => by
  obtain ⟨u, h, y⟩ := s.of_one
  exact ⟨v, u, by rw [h], x, y⟩
theorem Reps.of_three {vs : List Value} {d e f : D} (r : Reps W Z vs [d, e, f]) : X3 fun v u w => A4 (vs = [v, u, w]) (Rep W Z v d) (Rep W Z u e) (Rep W Z w f) := r.cps (fun vs => X3 fun v u w => A4 (vs = [v, u, w]) (Rep W Z v d) (Rep W Z u e) (Rep W Z w f)) fun v ws x s => by
  obtain ⟨u, w, h, y, z⟩ := s.of_two
  exact ⟨v, u, w, by rw [h], x, y, z⟩
theorem RepAs.of_cons {vs : List Value} {a : AV} {as : List AV} (r : RepAs W inj Z vs (a :: as)) : X2 fun v ws => A3 (vs = v :: ws) (RepA W inj Z v a) (RepAs W inj Z ws as) := r.cps (fun vs => X2 fun v ws => A3 (vs = v :: ws) (RepA W inj Z v a) (RepAs W inj Z ws as)) fun v ws x s => ⟨v, ws, rfl, x, s⟩
theorem RepAs.of_nil {vs : List Value} (r : RepAs W inj Z vs []) : vs = [] := r.cps (fun vs => vs = []) rfl
theorem RepAs.of_one {vs : List Value} {a : AV} (r : RepAs W inj Z vs [a]) : ∃ v, vs = [v] ∧ RepA W inj Z v a := r.cps (fun vs => ∃ v, vs = [v] ∧ RepA W inj Z v a) fun v ws x s => ⟨v, by rw [s.of_nil], x⟩
/-! by a reader of the datum -/
theorem RepA.at {v : Value} {a : AV} (r : RepA W inj Z v a) {d : D} (h : a.d? = some d) : Rep W Z v d := by
  rw [AV.of_d h] at r; exact r.of_val
theorem RepA.isBool {v : Value} {a : AV} {b : Bool} (r : RepA W inj Z v a) (h : boolAV a = some b) : v = .bool b := by
  rw [of_boolAV h] at r; exact r.of_val.of_bool
theorem RepA.eBool {v : Value} {a : AV} {M : Value → Prop} {b : Bool} (r : RepA W inj Z v a) (h : boolAV a = some b) (k : M (.bool b)) : M v := by
  rw [of_boolAV h] at r; exact r.of_val.cps M k
theorem RepA.eInt {v : Value} {a : AV} {M : Value → Prop} {i : Int} (r : RepA W inj Z v a) (h : intAV a = some i) (k : ∀ t, M (.int i t)) : M v := by
  rw [of_intAV h] at r; exact r.of_val.cps M k
theorem RepA.eStr {v : Value} {a : AV} {M : Value → Prop} {x : Str} (r : RepA W inj Z v a) (h : strAV a = some x) (k : ∀ t, M (.str x t)) : M v := by
  rw [of_strAV h] at r; exact r.of_val.cps M k
theorem RepA.eLoc {v : Value} {a : AV} {M : Value → Prop} {i : Nat} (r : RepA W inj Z v a) (h : a.loc? = some i) (k : ∀ x, inj[i]? = some x → M (.ref x)) : M v := by
  rw [of_loc? h] at r; exact r.cps M k
theorem Rep.eInt {M : Value → Prop} {v : Value} {d : D} {i : Int} (r : Rep W Z v d) (h : d.int? = some i) (k : ∀ t, M (.int i t)) : M v := by
  rw [D.of_int h] at r; exact r.cps M k
theorem Rep.eStr {M : Value → Prop} {v : Value} {d : D} {x : Str} (r : Rep W Z v d) (h : d.str? = some x) (k : ∀ t, M (.str x t)) : M v := by
  rw [D.of_str h] at r; exact r.cps M k
theorem Rep.eList {M : Value → Prop} {v : Value} {d : D} {l : List D} (r : Rep W Z v d) (h : d.list? = some l) (k : ∀ a vs n, (a, lstO vs n) ∈ Z → Reps W Z vs l → M (.ref a)) : M v := by
  rw [D.of_list h] at r; exact r.cps M k
theorem Rep.eTup {M : Value → Prop} {v : Value} {d : D} {l : List D} (r : Rep W Z v d) (h : d.tup? = some l) (k : ∀ a vs n, (a, tupO vs n) ∈ Z → Reps W Z vs l → M (.ref a)) : M v := by
  rw [D.of_tup h] at r; exact r.cps M k
end
end Mine

namespace Mine
open PySem PySem.W PySem.Calls PyProof.Rows

/-- a block: its scope, its slots' names, how many slots are the def's own; a comprehension's variable -/
structure SI where
  scope : Scope
  nm : List Str
  nf : Nat
  comp : Option Nat
noncomputable def SI.rd (si : SI) (i : Nat) : Bool := match si.comp with
  | none => true
  | some x => i == x || (match si.nm[i]? with
    | some y => si.scope.names.lookup y == some .free
    | none => false)

structure St (W : Wo) (inj : List Addr) (σ : Store) (C : List Led) (V Y Z : Led) (h₀ : Heap) (L : Addr) (m : Str → Option Value) (h : Heap) : Prop where
  fr : Fr h₀ L h m
  news : News h₀ L h (C.flatten ++ (V ++ (Y ++ Z)))
  nd : ((C.flatten ++ V).map (·.1)).Nodup
  ap : ∀ p ∈ C.flatten ++ V, ∀ q ∈ Y ++ Z, p.1 ≠ q.1
  ay : ∀ p ∈ Y, ∀ q ∈ Z, p.1 ≠ q.1
  cells : Cells W Z σ inj C

structure Grow (inj inj' : List Addr) (Z Z' : Led) : Prop where
  inj : ∃ x, inj' = inj ++ x
  z : ∀ p ∈ Z, p ∈ Z'
theorem Grow.rfl {inj : List Addr} {Z : Led} : Grow inj inj Z Z := ⟨⟨[], by simp⟩, fun _ h => h⟩
theorem Grow.trans {i j k : List Addr} {Z Z' Z'' : Led} (a : Grow i j Z Z') (b : Grow j k Z' Z'') : Grow i k Z Z'' := by
  obtain ⟨⟨x, rfl⟩, ha⟩ := a
  obtain ⟨⟨y, rfl⟩, hb⟩ := b
  exact ⟨⟨x ++ y, by simp⟩, fun p h => hb p (ha p h)⟩

structure Act (W : Wo) (n : Nat) (A : Around) (h₀ : Heap) (L : Addr) (fenv : Env) : Prop where
  below : X3 fun A₀ base outer => Below A₀ base outer h₀ ∧ A.frames = some (fenv :: outer)
  K : W.K.In h₀
  top : Top W.p W.loose W.mean W.mg W.mb h₀
  frame : fenv.frame = some L
  kind : fenv.scope.kind = .function
  dp : A.depth + 2 * n < recursionLimit
  un : A.units + 8 * n + 100 < cLine
  hd : A.handled = none

/-- a name that reads v wherever the frame and the ledger stand -/
noncomputable def NameAt (env : Env) (h₀ : Heap) (L : Addr) (m : Str → Option Value) (VY : Led) (x : Str) (v : Value) : Prop :=
  ∀ (M : Model) (A : Around) (E : Value → Shared → Prop) (Q : Value → Shared → Prop) (s : Shared), Fr h₀ L s.heap m → News h₀ L s.heap VY → Q v s → wpAny M A (loadName env x) Q E s

structure FRel (W : Wo) (si : SI) (env : Env) (L : Addr) (m cm : Str → Option Value) (V : Led) (inj : List Addr) (Z : Led) (ρ : Slots) : Prop where
  scope : env.scope = si.scope
  loc : env.locals = L
  cells : env.cells = cellsFrom (L + 1) si.scope.names []
  are : CellsAre cm env.cells V
  slots : ∀ i a x, slot ρ i = some a → si.nm[i]? = some x → ∃ v, RepA W inj Z v a ∧ ((env.kindOf x = some .local ∧ m x = some v) ∨ (env.kindOf x = some .cell ∧ cm x = some v))
  own : ∀ i, si.nf ≤ i → slot ρ i = none
  nodup : (si.nm.take si.nf).Nodup

structure EH (W : Wo) (si : SI) (env : Env) (h₀ : Heap) (L : Addr) (m : Str → Option Value) (V Y : Led) (inj : List Addr) (Z : Led) (ρ : Slots) : Prop where
  kinds : ∀ x, si.scope.names.lookup x = some .globalImplicit → env.kindOf x = some .globalImplicit
  kind : env.scope.kind = .function
  glob : env.globals = mainGlobals
  blt : env.builtins = builtinsNs
  read : ∀ i a x, si.rd i = true → slot ρ i = some a → si.nm[i]? = some x → ∃ v, NameAt env h₀ L m (V ++ Y) x v ∧ RepA W inj Z v a
  fn : si.comp = none → ∃ cm, FRel W si env L m cm V inj Z ρ

theorem NameAt.mono {env : Env} {h₀ : Heap} {L : Addr} {m : Str → Option Value} {VY VY' : Led} {x : Str} {v : Value} (h : NameAt env h₀ L m VY x v) (hs : ∀ p ∈ VY, p ∈ VY') : NameAt env h₀ L m VY' x v :=
  fun M A E Q s F N q => h M A E Q s F (fun p hp => N p (hs p hp)) q
theorem FRel.mono {W : Wo} {si : SI} {env : Env} {L : Addr} {m cm : Str → Option Value} {V : Led} {inj inj' : List Addr} {Z Z' : Led} {ρ : Slots} (x : FRel W si env L m cm V inj Z ρ) (g : Grow inj inj' Z Z') : FRel W si env L m cm V inj' Z' ρ :=
  ⟨x.scope, x.loc, x.cells, x.are, (fun i a y h1 h2 => let ⟨v, r, k⟩ := x.slots i a y h1 h2; ⟨v, r.mono g.z g.inj, k⟩), x.own, x.nodup⟩
theorem EH.mono {W : Wo} {si : SI} {env : Env} {h₀ : Heap} {L : Addr} {m : Str → Option Value} {V Y : Led} {inj inj' : List Addr} {Z Z' : Led} {ρ : Slots} (x : EH W si env h₀ L m V Y inj Z ρ) (g : Grow inj inj' Z Z') : EH W si env h₀ L m V Y inj' Z' ρ :=
  ⟨x.kinds, x.kind, x.glob, x.blt, fun i a y h0 h1 h2 => let ⟨v, r, k⟩ := x.read i a y h0 h1 h2; ⟨v, r, k.mono g.z g.inj⟩, fun h => let ⟨cm, f⟩ := x.fn h; ⟨cm, f.mono g⟩⟩

noncomputable def Post (W : Wo) (h₀ : Heap) (L : Addr) (m : Str → Option Value) (V Y : Led) (inj : List Addr) (Z : Led) (σ' : Store) (a : AV) (s : Shared) (Q : Value → Shared → Prop) : Prop :=
  ∀ v h' tk' inj' C' Z', St W inj' σ' C' V Y Z' h₀ L m h' → Grow inj inj' Z Z' → RepA W inj' Z' v a → Q v { s with heap := h', toks := tk' }
noncomputable def Posts (W : Wo) (h₀ : Heap) (L : Addr) (m : Str → Option Value) (V Y : Led) (inj : List Addr) (Z : Led) (σ' : Store) (as : List AV) (s : Shared) (Q : List Value → Shared → Prop) : Prop :=
  ∀ vs h' tk' inj' C' Z', St W inj' σ' C' V Y Z' h₀ L m h' → Grow inj inj' Z Z' → RepAs W inj' Z' vs as → Q vs { s with heap := h', toks := tk' }

noncomputable def SE (W : Wo) (n : Nat) (F : Fns) (si : SI) (e : Expr) (t : T) : Prop :=
  ∀ ⦃A : Around⦄ ⦃h₀ : Heap⦄ ⦃L : Addr⦄ ⦃fenv env : Env⦄ ⦃m : Str → Option Value⦄ ⦃s : Shared⦄ ⦃Q E : Value → Shared → Prop⦄ ⦃inj : List Addr⦄ ⦃σ : Store⦄ ⦃C : List Led⦄ ⦃V Y Z : Led⦄ ⦃ρ : Slots⦄ ⦃a : AV⦄ ⦃σ' : Store⦄,
    Act W n A h₀ L fenv → EH W si env h₀ L m V Y inj Z ρ → St W inj σ C V Y Z h₀ L m s.heap → ev F t ρ σ = some (a, σ') →
    Post W h₀ L m V Y inj Z σ' a s Q → wpAny (model W.prog W.w) A (eval e env) Q E s
/-- a test -/
noncomputable def BPost (W : Wo) (h₀ : Heap) (L : Addr) (m : Str → Option Value) (V Y : Led) (inj : List Addr) (Z : Led) (σ' : Store) (a : AV) (b : Bool) (s : Shared) (Q : Bool → Shared → Prop) : Prop :=
  boolAV a = some b ∧ ∀ h' tk' inj' C' Z', St W inj' σ' C' V Y Z' h₀ L m h' → Grow inj inj' Z Z' → Q b { s with heap := h', toks := tk' }
noncomputable def SB (W : Wo) (n : Nat) (F : Fns) (si : SI) (e : Expr) (t : T) : Prop :=
  ∀ ⦃A : Around⦄ ⦃h₀ : Heap⦄ ⦃L : Addr⦄ ⦃fenv env : Env⦄ ⦃m : Str → Option Value⦄ ⦃s : Shared⦄ ⦃Q : Bool → Shared → Prop⦄ ⦃E : Value → Shared → Prop⦄ ⦃inj : List Addr⦄ ⦃σ : Store⦄ ⦃C : List Led⦄ ⦃V Y Z : Led⦄ ⦃ρ : Slots⦄ ⦃a : AV⦄ ⦃b : Bool⦄ ⦃σ' : Store⦄,
    Act W n A h₀ L fenv → EH W si env h₀ L m V Y inj Z ρ → St W inj σ C V Y Z h₀ L m s.heap → ev F t ρ σ = some (a, σ') →
    BPost W h₀ L m V Y inj Z σ' a b s Q → wpAny (model W.prog W.w) A (PySem.isTrue e env (eval e env)) Q E s
noncomputable def SEs (W : Wo) (n : Nat) (F : Fns) (si : SI) : List Expr → List T → Prop
  | [], [] => True
  | e :: es, t :: ts => SE W n F si e t ∧ SEs W n F si es ts
  | _, _ => False

section
variable {W : Wo} {n : Nat} {F : Fns} {si : SI} {inj : List Addr} {σ : Store} {C : List Led} {V Y Z : Led} {h₀ h h' : Heap} {L : Addr} {m m' : Str → Option Value}

theorem St.keep (S : St W inj σ C V Y Z h₀ L m h) (F' : Fr h₀ L h' m') (N' : News h₀ L h' (C.flatten ++ (V ++ (Y ++ Z)))) : St W inj σ C V Y Z h₀ L m' h' := ⟨F', N', S.nd, S.ap, S.ay, S.cells⟩
theorem St.more (S : St W inj σ C V Y Z h₀ L m h) {X : Led} (F' : Fr h₀ L h' m') (N' : News h₀ L h' (X ++ (C.flatten ++ (V ++ (Y ++ Z))))) (ap : ∀ x ∈ X, ∀ p ∈ C.flatten ++ (V ++ (Y ++ Z)), p.1 ≠ x.1) : St W inj σ C V Y (X ++ Z) h₀ L m' h' where
  fr := F'
  news := fun p hp => N' p (by simp only [List.mem_append] at hp ⊢; rcases hp with h | h | h | h | h <;> simp [h])
  nd := S.nd
  ap := fun p hp q hq => by
    simp only [List.mem_append] at hq
    rcases hq with h | h | h
    · exact S.ap p hp q (by simp [h])
    · exact ap q h p (by simp only [List.mem_append] at hp ⊢; rcases hp with h | h <;> simp [h])
    · exact S.ap p hp q (by simp [h])
  ay := fun p hp q hq => by
    rcases List.mem_append.mp hq with h | h
    · exact ap q h p (by simp [hp])
    · exact S.ay p hp q h
  cells := S.cells.mono fun p hp => List.mem_append.mpr (.inr hp)
theorem St.alloc (S : St W inj σ C V Y Z h₀ L m h) {a : Addr} {o : Obj} (F' : Fr h₀ L h' m') (N' : News h₀ L h' ((a, o) :: (C.flatten ++ (V ++ (Y ++ Z))))) (lt : ∀ p ∈ C.flatten ++ (V ++ (Y ++ Z)), p.1 < a) : St W inj σ C V Y ((a, o) :: Z) h₀ L m' h' :=
  S.more (X := [(a, o)]) F' N' fun x hx p hp => by rw [List.mem_singleton.mp hx]; exact Nat.ne_of_lt (lt p hp)
theorem Grow.cons {q : Addr × Obj} : Grow inj inj Z (q :: Z) := ⟨⟨[], by simp⟩, fun _ h => List.mem_cons_of_mem _ h⟩
theorem Grow.app {X : Led} : Grow inj inj Z (X ++ Z) := ⟨⟨[], by simp⟩, fun _ h => List.mem_append.mpr (.inr h)⟩
theorem St.zmem (S : St W inj σ C V Y Z h₀ L m h) {q : Addr × Obj} (hq : q ∈ Z) : h.get? q.1 = some q.2 := (S.news q (by simp [hq])).1
theorem St.vy (S : St W inj σ C V Y Z h₀ L m h) : News h₀ L h (V ++ Y) := fun p hp => S.news p (by simp only [List.mem_append] at hp ⊢; rcases hp with h | h <;> simp [h])
theorem St.isList (S : St W inj σ C V Y Z h₀ L m h) {a : Addr} {vs : List Value} {k : Nat} (hq : (a, lstO vs k) ∈ Z) : h.IsList a vs.toArray := ⟨_, S.zmem hq, rfl, _, rfl⟩
theorem St.isTup (S : St W inj σ C V Y Z h₀ L m h) {a : Addr} {vs : List Value} {k : Nat} (hq : (a, tupO vs k) ∈ Z) : IsTup h a vs.toArray := ⟨_, S.zmem hq, rfl, _, rfl⟩
/-- a list cell or a list tree -/
theorem CellRep.of_list {l : List D} {a : Addr} {e : Led} (r : CellRep W Z (.list l) a e) : X2 fun vs k => e = [(a, lstO vs k)] ∧ Reps W Z vs l :=
  CellRep.casesOn (motive := fun d a e _ => ∀ l, d = .list l → X2 fun vs k => e = [(a, lstO vs k)] ∧ Reps W Z vs l) r (fun q l h => ⟨_, _, rfl, D.list.inj h ▸ q⟩) (fun _ _ h => nomatch h) (fun _ h => nomatch h) l rfl
theorem CellRep.of_inst {c : Nat} {l : List (Nat × D)} {a : Addr} {e : Led} (r : CellRep W Z (.inst c l) a e) : X4 fun dx es k O => e = (a, instObj (W.nm.ca c) dx) :: (dx, dictOf es k) :: O ∧ KsO W Z O es l :=
  CellRep.casesOn (motive := fun d a e _ => d = .inst c l → X4 fun dx es k O => e = (a, instObj (W.nm.ca c) dx) :: (dx, dictOf es k) :: O ∧ KsO W Z O es l) r (fun _ h => nomatch h) (fun q h => by cases h; exact ⟨_, _, _, _, rfl, q⟩) (fun h => nomatch h) rfl
/-- a list's entry in the ledger -/
theorem St.listIn (S : St W inj σ C V Y Z h₀ L m h) {v : Value} {a : AV} {l : List D} (r : RepA W inj Z v a) (hc : cellOf σ a = some (.list l)) : X3 fun x vs k => A3 (v = .ref x) ((x, lstO vs k) ∈ C.flatten ++ (V ++ (Y ++ Z))) (Reps W Z vs l) := by
  cases a with
  | val d =>
    cases hc
    obtain ⟨x, vs, k, hv, hm, q⟩ := r.of_val.of_list
    exact ⟨x, vs, k, hv, List.mem_append_right _ (List.mem_append_right _ (List.mem_append_right _ hm)), q⟩
  | loc i =>
    obtain ⟨x, hv, hi⟩ := r.of_loc
    obtain ⟨C₁, e, C₂, a', hC, ha, hr, _⟩ := S.cells.split _ _ hc
    obtain ⟨vs, k, he, q⟩ := hr.of_list
    refine ⟨x, vs, k, hv, List.mem_append_left _ (List.mem_flatten.mpr ⟨e, ?_, ?_⟩), q⟩
    · rw [hC]; exact List.mem_append_right _ (.head _)
    · rw [he, ← Option.some.inj (hi.symm.trans ha)]; exact .head _
/-- a list cell or a list tree -/
theorem St.listAt (S : St W inj σ C V Y Z h₀ L m h) {v : Value} {a : AV} {l : List D} (r : RepA W inj Z v a) (hc : cellOf σ a = some (.list l)) : X3 fun x vs k => A3 (v = .ref x) (h.get? x = some (lstO vs k)) (Reps W Z vs l) := by
  obtain ⟨x, vs, k, hv, hm, q⟩ := S.listIn r hc
  exact ⟨x, vs, k, hv, (S.news _ hm).1, q⟩
theorem Rep.notNone {v : Value} {d : D} (r : Rep W Z v d) : (v == Value.none) = noneAV (.val d) :=
  Rep.casesOn (motive_1 := fun v d _ => (v == Value.none) = noneAV (.val d)) r rfl (fun _ => rfl) (fun _ _ => rfl) (fun _ _ => rfl) (fun _ _ => rfl) (fun _ _ => rfl) (fun _ _ _ _ => rfl) (fun _ _ _ => rfl) (fun _ => rfl)
theorem RepA.notNone {v : Value} {a : AV} (r : RepA W inj Z v a) : (v == Value.none) = noneAV a := by
  cases a with
  | val d => exact r.of_val.notNone
  | loc i => exact r.cps (fun v => (v == Value.none) = noneAV (.loc i)) fun _ _ => rfl

theorem Post.val {s : Shared} {Q : Value → Shared → Prop} {a : AV} (hp : Post W h₀ L m V Y inj Z σ a s Q) (S : St W inj σ C V Y Z h₀ L m h') {v : Value} {tk : Nat} (r : RepA W inj Z v a) : Q v { s with heap := h', toks := tk } := hp v h' tk inj C Z S Grow.rfl r

theorem BPost.at {s : Shared} {Q : Bool → Shared → Prop} {z b : Bool} (hp : BPost W h₀ L m V Y inj Z σ (.val (.bool z)) b s Q) {inj' : List Addr} {Z' : Led} (S : St W inj' σ C V Y Z' h₀ L m h') {tk : Nat} (g : Grow inj inj' Z Z') : Q z { s with heap := h', toks := tk } :=
  (Option.some.inj hp.1 : z = b) ▸ hp.2 h' tk inj' C Z' S g
theorem SE.bot {e : Expr} : SE W n F si e .bot := by
  intro A h₀ L fenv env m s Q E inj σ C V Y Z ρ a σ' _ _ _ h
  cases h
noncomputable def kOf : D → Option Const
  | .none => some .none
  | .bool b => some (.bool b)
  | .int i => some (.int i)
  | .str x => some (.str x)
  | _ => none
theorem const_any {c : Const} {k : Nat} {pos : Pos} {d : D} {A : Around} {env : Env} {s : Shared} {Q E : Value → Shared → Prop} (hc : kOf d = some c) (h : ∀ v tk, (∀ Z, Rep W Z v d) → Q v { s with toks := tk }) : wpAny (model W.prog W.w) A (eval (.Constant c k pos) env) Q E s := by
  cases d with
  | none => cases hc; exact wpAny_Constant_none (h _ _ fun _ => .none)
  | bool b => cases hc; exact wpAny_Constant_bool (h _ _ fun _ => .bool _)
  | int i => cases hc; exact wpAny_Constant_int (h _ _ fun _ => .int _ _)
  | str x => cases hc; exact wpAny_Constant_str (h _ _ fun _ => .str _ _)
  | _ => cases hc
theorem SE.const {c : Const} {k : Nat} {pos : Pos} {d : D} (hc : kOf d = some c) : SE W n F si (.Constant c k pos) (.c d) := by
  intro A h₀ L fenv env m s Q E inj σ C V Y Z ρ a σ' _ _ S he hp
  cases he
  exact const_any hc fun v tk r => hp.val S (.val (r Z))
theorem SE.var {x : Str} {pos : Pos} {i : Nat} (hx : si.nm[i]? = some x) (hr : si.rd i = true) (hd : (x == ("__debug__" : Str)) = false) : SE W n F si (.Name x pos) (.v i) := by
  intro A h₀ L fenv env m s Q E inj σ C V Y Z ρ a σ' _ H S he hp
  refine of_mapP (K := fun a σ' => Post W h₀ L m V Y inj Z σ' a s Q) he hp fun b hb hp => ?_
  obtain ⟨v, hn, r⟩ := H.read i b x hr hb hx
  exact wpAny_Name (hn _ _ _ _ _ S.fr S.vy (hp.val S r)) hd

/-- two operands -/
theorem SE.two {A : Around} {fenv env : Env} {s : Shared} {Q E : Value → Shared → Prop} {ρ : Slots} {e₁ e₂ : Expr} {t₁ t₂ : T} {x y : AV} {σ₁ σ₂ : Store} {K : Value → Value → Sem Value}
    (h₁ : SE W n F si e₁ t₁) (h₂ : SE W n F si e₂ t₂) (a : Act W n A h₀ L fenv) (H : EH W si env h₀ L m V Y inj Z ρ) (S : St W inj σ C V Y Z h₀ L m s.heap)
    (v₁ : ev F t₁ ρ σ = some (x, σ₁)) (v₂ : ev F t₂ ρ σ₁ = some (y, σ₂))
    (k : ∀ v u h' tk' inj' C' Z', St W inj' σ₂ C' V Y Z' h₀ L m h' → Grow inj inj' Z Z' → RepA W inj' Z' v x → RepA W inj' Z' u y → wpAny (model W.prog W.w) A (K v u) Q E { s with heap := h', toks := tk' }) :
    wpAny (model W.prog W.w) A (eval e₁ env) (fun v s₁ => wpAny (model W.prog W.w) A (eval e₂ env) (fun u s₂ => wpAny (model W.prog W.w) A (K v u) Q E s₂) E s₁) E s := by
  refine h₁ a H S v₁ fun v h' tk' inj' C' Z' S' g r => ?_
  refine h₂ a (H.mono g) S' v₂ fun u h'' tk'' inj'' C'' Z'' S'' g' r' => ?_
  exact k v u h'' tk'' inj'' C'' Z'' S'' (g.trans g') (r.mono g'.z g'.inj) r'

noncomputable def opOf : Bop → Operator
  | .add => .Add | .sub => .Sub | .mul => .Mult | .fdiv => .FloorDiv | .md => .Mod | .pow => .Pow
theorem sm_bits {a : Int} (h : sm a = true) : Builtin.Int.intBits a ≤ 100 := by
  unfold sm at h
  simp only [Bool.and_eq_true, decide_eq_true_eq] at h
  unfold Builtin.Int.intBits
  split
  · omega
  · rename_i ha
    have ha' : a.natAbs ≠ 0 := by simp at ha; omega
    have : a.natAbs < 2 ^ 99 := by omega
    have h2 : a.natAbs.log2 < 99 := (Nat.log2_lt ha').mpr this
    omega
theorem sm_div {a b : Int} (h : sm b = true) : Builtin.divisionGoesByPylong a b = false := by
  unfold sm at h
  simp only [Bool.and_eq_true, decide_eq_true_eq] at h
  unfold Builtin.divisionGoesByPylong
  by_cases hb : (b == 0) = true
  · simp only [hb, if_true]; rfl
  · simp only [hb]
    have : b.natAbs < 2 ^ 99 := by omega
    have hb' : b.natAbs ≠ 0 := by simp at hb; omega
    have h2 : b.natAbs.log2 < 99 := (Nat.log2_lt hb').mpr this
    have : ¬ (b.natAbs.log2 / 30 + 1 > 300) := by omega
    simp [this]
end
section
variable {W : Wo} {n : Nat} {F : Fns} {si : SI} {inj : List Addr} {σ : Store} {C : List Led} {V Y Z : Led} {h₀ h h' : Heap} {L : Addr} {m m' : Str → Option Value}
theorem mulOk_small {x : Str} {n : Int} (hx : x.length ≤ 1000) (hl : n.natAbs ≤ 1000) : MulOk x n := by
  have hn : n ≤ 1000 := by omega
  refine ⟨by simp; omega, fun h1 _ h3 => ?_, fun _ _ => ?_⟩
  · have h0 : (0 : Int) < n := by omega
    have : (x.length : Int) * n ≤ 1000 * 1000 := Int.mul_le_mul (by omega) hn (by omega) (by omega)
    have h4 : (x.length : Int) ≤ (2 ^ 63 - 1) / n := (Int.le_ediv_iff_mul_le h0).mpr (by omega)
    omega
  · unfold Builtin.Str.tooLong
    have : x.length * n.toNat ≤ 1000 * 1000 := Nat.mul_le_mul hx (by omega)
    rw [sizeLine_eq]
    simp; omega

theorem pow_fit {a b : Int} (h : Builtin.Int.intBits a ≤ 100) (h0 : 0 ≤ b) (h1 : b ≤ 100) : (Builtin.Int.intBits a : Int) * b ≤ 2 ^ 27 := by
  have : (Builtin.Int.intBits a : Int) * b ≤ 100 * 100 := Int.mul_le_mul (by omega) h1 h0 (by omega)
  omega
theorem sm_mulOk {a b : Int} (ha : sm a = true) (hb : sm b = true) : IntMulOk a b := IntMulOk.of_le (sm_bits ha) (sm_bits hb) (by omega)
/-- what an operator's value must do -/
noncomputable def BinPost (W : Wo) (S : Shared) (inj : List Addr) (σ : Store) (C : List Led) (V Y Z : Led) (h₀ : Heap) (L : Addr) (m : Str → Option Value) (c : D) (Q : Value → Shared → Prop) : Prop :=
  ∀ v h' tk' Z', St W inj σ C V Y Z' h₀ L m h' → Grow inj inj Z Z' → Rep W Z' v c → Q v { S with heap := h', toks := tk' }
section
variable {A : Around} {s : Shared} {Q E : Value → Shared → Prop} {v u : Value} {x y c : D}
theorem BinPost.now (hp : BinPost W s inj σ C V Y Z h₀ L m c Q) (S : St W inj σ C V Y Z h₀ L m s.heap) {v : Value} (tk : Tok) (r : Rep W Z v c) : Q v { s with toks := tk } := hp v s.heap tk Z S Grow.rfl r
/-- two ints at an operator -/
theorem intsE {f : Int → Int → Option D} {P : Value → Value → Prop} (r : Rep W Z v x) (q : Rep W Z u y) (h : intD x y f = some c) (k : ∀ a b t t', f a b = some c → P (.int a t) (.int b t')) : P v u :=
  of_bindC h fun a ha h => of_bindC h fun b hb h => r.eInt (M := fun v => P v u) ha fun t => q.eInt (M := fun u => P (.int a t) u) hb fun t' => k a b t t' h
theorem add_ok (S : St W inj σ C V Y Z h₀ L m s.heap) (r : Rep W Z v x) (q : Rep W Z u y) (he : addD x y = some c) (hp : BinPost W s inj σ C V Y Z h₀ L m c Q) : wpAny (model W.prog W.w) A (binaryOp .Add v u) Q E s := by
  cases x with
  | int a =>
    obtain ⟨b, hb, rfl⟩ := of_map he
    exact r.cps (fun v => wpAny (model W.prog W.w) A (binaryOp .Add v u) Q E s) fun t => q.eInt (M := fun u => wpAny (model W.prog W.w) A (binaryOp .Add (.int a t) u) Q E s) hb fun t' => add_int (hp.now S _ (.int _ _))
  | str a =>
    obtain ⟨b, hb, he⟩ := of_bind he
    obtain ⟨hl, rfl⟩ := of_if he
    exact r.cps (fun v => wpAny (model W.prog W.w) A (binaryOp .Add v u) Q E s) fun t => q.eStr (M := fun u => wpAny (model W.prog W.w) A (binaryOp .Add (.str a t) u) Q E s) hb fun t' => add_str (fun t tk => hp.now S tk (.str _ t)) (by rw [sizeLine_eq]; exact Nat.le_trans hl (by decide))
  | list a =>
    obtain ⟨b, hb, he⟩ := of_bind he
    obtain ⟨hl, rfl⟩ := of_if he
    refine r.cps (fun v => wpAny (model W.prog W.w) A (binaryOp .Add v u) Q E s) fun x vs k h1 r => q.eList (M := fun u => wpAny (model W.prog W.w) A (binaryOp .Add (.ref x) u) Q E s) hb fun y ws k' h2 q => ?_
    refine add_lists S.fr S.news (S.isList h1) (S.isList h2) (fun h' F' N' => ?_) (by rw [sizeLine_eq, r.length, q.length]; exact Nat.le_trans hl (by decide))
    exact hp _ h' s.toks _ (S.alloc (o := lstO _ 0) F' N' fun p hp => Heap.lt_size (S.news p hp).1) Grow.cons (.list (List.mem_cons_self) ((r.append q).mono fun _ h => List.mem_cons_of_mem _ h))
  | _ => cases he
theorem mul_ok (S : St W inj σ C V Y Z h₀ L m s.heap) (r : Rep W Z v x) (q : Rep W Z u y) (he : mulD x y = some c) (hp : BinPost W s inj σ C V Y Z h₀ L m c Q) : wpAny (model W.prog W.w) A (binaryOp .Mult v u) Q E s := by
  cases x with
  | int a =>
    obtain ⟨b, hb, he⟩ := of_bind he
    obtain ⟨hl, rfl⟩ := of_if he
    have hl := Bool.and_eq_true_iff.mp hl
    exact r.cps (fun v => wpAny (model W.prog W.w) A (binaryOp .Mult v u) Q E s) fun t => q.eInt (M := fun u => wpAny (model W.prog W.w) A (binaryOp .Mult (.int a t) u) Q E s) hb fun t' => mul_int (hp.now S _ (.int _ _)) (sm_mulOk hl.1 hl.2)
  | str a =>
    obtain ⟨b, hb, he⟩ := of_bind he
    obtain ⟨hl, rfl⟩ := of_if he
    exact r.cps (fun v => wpAny (model W.prog W.w) A (binaryOp .Mult v u) Q E s) fun t => q.eInt (M := fun u => wpAny (model W.prog W.w) A (binaryOp .Mult (.str a t) u) Q E s) hb fun t' => SB.mul (mulOk_small hl.1 hl.2) fun t tk => hp.now S tk (.str _ t)
  | _ => cases he
theorem bin_ok {op : Bop} (S : St W inj σ C V Y Z h₀ L m s.heap) (r : Rep W Z v x) (q : Rep W Z u y) (he : binD op x y = some c) (hp : BinPost W s inj σ C V Y Z h₀ L m c Q) : wpAny (model W.prog W.w) A (binaryOp (opOf op) v u) Q E s := by
  cases op with
  | add => exact add_ok S r q he hp
  | sub => exact intsE (P := fun v u => wpAny (model W.prog W.w) A (binaryOp .Sub v u) Q E s) r q he fun a b t t' h => sub_int (hp.now S _ (Option.some.inj h ▸ .int _ _))
  | mul => exact mul_ok S r q he hp
  | fdiv => exact intsE (P := fun v u => wpAny (model W.prog W.w) A (binaryOp .FloorDiv v u) Q E s) r q he fun a b t t' h => floordiv_int (of_if h).1.1 (hp.now S _ ((of_if h).2 ▸ .int _ _)) (.inl (sm_div (of_if h).1.2))
  | md => exact intsE (P := fun v u => wpAny (model W.prog W.w) A (binaryOp .Mod v u) Q E s) r q he fun a b t t' h => mod_int (of_if h).1 (hp.now S _ ((of_if h).2 ▸ .int _ _))
  | pow => exact intsE (P := fun v u => wpAny (model W.prog W.w) A (binaryOp .Pow v u) Q E s) r q he fun a b t t' h => pow_int (of_if h).1.1 (pow_fit (sm_bits (of_if h).1.2.2) (of_if h).1.1 (of_if h).1.2.1) (hp.now S _ ((of_if h).2 ▸ .int _ _))
end
theorem SE.bin {op : Bop} {e₁ e₂ : Expr} {t₁ t₂ : T} {pos : Pos} (h₁ : SE W n F si e₁ t₁) (h₂ : SE W n F si e₂ t₂) : SE W n F si (.BinOp e₁ (opOf op) e₂ pos) (.bin op t₁ t₂) := by
  intro A h₀ L fenv env m s Q E inj σ C V Y Z ρ a σ' act H S he hp
  refine of_bindC he fun p v₁ he => of_bindC he fun q v₂ he => of_mapP (K := fun a σ' => Post W h₀ L m V Y inj Z σ' a s Q) he hp fun z hz hp => ?_
  refine wpAny_BinOp (SE.two h₁ h₂ act H S v₁ v₂ fun v u h' tk' inj' C' Z' S' g r q' => ?_)
  refine of_bindC hz fun d hd hz => of_bindC hz fun e he hz => ?_
  obtain ⟨c, hc, hz⟩ := of_map hz
  exact bin_ok S' (r.at hd) (q'.at he) hc fun v h'' tk'' Z'' S'' g' r' => hp v h'' tk'' inj' C' Z'' S'' (g.trans g') (hz ▸ .val r')
theorem SE.neg {e : Expr} {t : T} {pos : Pos} (h : SE W n F si e t) : SE W n F si (.UnaryOp .USub e pos) (.neg t) := by
  intro A h₀ L fenv env m s Q E inj σ C V Y Z ρ a σ' act H S he hp
  refine of_bindC he fun p v₁ he => of_mapP (K := fun a σ' => Post W h₀ L m V Y inj Z σ' a s Q) he hp fun i hi hp => ?_
  exact wpAny_UnaryOp (h act H S v₁ fun v h' tk' inj' C' Z' S' g r => r.eInt (M := fun v => wpAny (model W.prog W.w) A (PySem.unaryOp .USub v) Q E _) hi fun t => neg_int (hp _ _ _ _ _ _ S' g (.val (.int _ _))))
end
end Mine

namespace Mine
open PySem PySem.W PySem.Calls PyProof.Rows

section
variable {W : Wo} {Z : Led}
theorem Reps.strs {vs : List Value} {ds : List D} {ss : List Str} (r : Reps W Z vs ds) (h : strs? ds = some ss) : StrsAre vs ss := by
  induction ds generalizing vs ss with
  | nil => cases h; exact r.cps (fun vs => StrsAre vs []) .nil
  | cons d ds ih =>
    obtain ⟨a, ha, h⟩ := of_bind h
    obtain ⟨es, he, h⟩ := of_map h
    rw [← h]
    exact r.cps (fun vs => StrsAre vs (a :: es)) fun v vs x s => x.eStr (M := fun v => StrsAre (v :: vs) (a :: es)) ha fun t => .cons _ _ (ih s he)
theorem Reps.ints {vs : List Value} {ds : List D} {ss : List Int} (r : Reps W Z vs ds) (h : ints? ds = some ss) : IntsAre vs ss := by
  induction ds generalizing vs ss with
  | nil => cases h; exact r.cps (fun vs => IntsAre vs []) .nil
  | cons d ds ih =>
    obtain ⟨a, ha, h⟩ := of_bind h
    obtain ⟨es, he, h⟩ := of_map h
    rw [← h]
    exact r.cps (fun vs => IntsAre vs (a :: es)) fun v vs x s => x.eInt (M := fun v => IntsAre (v :: vs) (a :: es)) ha fun t => .cons _ _ (ih s he)
theorem mapM_nil_some {α β : Type} {f : α → Option β} {ys : List β} (h : ([] : List α).mapM f = some ys) : ys = [] := (Option.some.inj h).symm
theorem mapM_cons_some {α β : Type} {f : α → Option β} {x : α} {xs : List α} {ys : List β} (h : (x :: xs).mapM f = some ys) : X2 fun y zs => A3 (f x = some y) (xs.mapM f = some zs) (ys = y :: zs) := by
  rw [List.mapM_cons] at h
  obtain ⟨y, hy, h⟩ := of_bind h
  obtain ⟨zs, hz, h⟩ := of_bind h
  exact ⟨y, zs, hy, hz, (Option.some.inj h).symm⟩
theorem dats_of (f : D → Option Dat) (n : Nat) (hf : ∀ v d x, Rep W Z v d → f d = some x → DatIn Z v x ∧ kqdOk n x = true) {vs : List Value} {ds : List D} {xs : List Dat} (r : Reps W Z vs ds) (h : ds.mapM f = some xs) : DatAll Z vs xs ∧ xs.all (kqdOk n) = true := by
  induction ds generalizing vs xs with
  | nil => cases mapM_nil_some h; exact r.cps (fun vs => DatAll Z vs [] ∧ _) ⟨.nil, rfl⟩
  | cons d ds ih =>
    obtain ⟨y, zs, h1, h2, h⟩ := mapM_cons_some h
    rw [h]
    refine r.cps (fun vs => DatAll Z vs (y :: zs) ∧ _) fun v vs x s => ⟨.cons (hf v d y x h1).1 (ih s h2).1, ?_⟩
    rw [List.all_cons, (hf v d y x h1).2, (ih s h2).2]; rfl
theorem atom_of {n : Nat} {v : Value} {d : D} {x : Dat} (r : Rep W Z v d) (h : atomD d = some x) : DatIn Z v x ∧ kqdOk n x = true := by
  refine of_condC h (fun hn h => ?_) fun _ h => ?_
  · rw [D.of_isNone hn] at r
    rw [← Option.some.inj h]
    exact r.cps (fun v => DatIn Z v .none ∧ _) ⟨.none, by cases n <;> rfl⟩
  · rcases of_or h with h | h
    · obtain ⟨i, hi, h⟩ := of_map h
      rw [← h]
      exact r.eInt (M := fun v => DatIn Z v (.int i) ∧ _) hi fun t => ⟨.int _ _, by cases n <;> rfl⟩
    · obtain ⟨y, hy, h⟩ := of_bind h
      obtain ⟨k, h⟩ := of_if h
      rw [← h]
      exact r.eStr (M := fun v => DatIn Z v (.str y) ∧ _) hy fun t => ⟨.str _ _, by cases n <;> exact k⟩
theorem dat_of (n : Nat) : ∀ (v : Value) (d : D) (x : Dat), Rep W Z v d → toDat n d = some x → DatIn Z v x ∧ kqdOk n x = true := by
  induction n with
  | zero => intro v d x r h; exact atom_of r h
  | succ n ih =>
    intro v d x r h
    rcases of_or h with h | h
    · obtain ⟨l, hl, h⟩ := of_bind h
      obtain ⟨xs, hx, h⟩ := of_map h
      rw [← h]
      exact r.eList (M := fun v => DatIn Z v (.list xs) ∧ _) hl fun a vs k hm q => ⟨.list hm (dats_of (toDat n) n ih q hx).1, (dats_of (toDat n) n ih q hx).2⟩
    · rcases of_or h with h | h
      · obtain ⟨l, hl, h⟩ := of_bind h
        obtain ⟨xs, hx, h⟩ := of_map h
        rw [← h]
        exact r.eTup (M := fun v => DatIn Z v (.tuple xs) ∧ _) hl fun a vs k hm q => ⟨.tuple hm (dats_of (toDat n) n ih q hx).1, (dats_of (toDat n) n ih q hx).2⟩
      · exact atom_of r h
theorem kqdOk_up : ∀ (n : Nat) (x : Dat), kqdOk n x = true → kqdOk (n + 1) x = true := by
  intro n
  induction n with
  | zero => intro x h; cases x <;> simp_all [kqdOk]
  | succ n ih =>
    intro x h
    cases x <;> simp only [kqdOk, List.all_eq_true] at h ⊢ <;> first | exact h | exact fun y hy => ih y (h y hy) | simp_all
end
theorem dec_eq {p : Prop} (i j : Decidable p) : @decide p i = @decide p j := by cases Subsingleton.elim i j; rfl
section
variable {W : Wo} {n : Nat} {F : Fns} {si : SI} {inj : List Addr} {σ : Store} {C : List Led} {V Y Z : Led} {h₀ h h' : Heap} {L : Addr} {m m' : Str → Option Value}
noncomputable def copOf : Cop → CmpOp
  | .eq => .Eq | .ne => .NotEq | .lt => .Lt | .le => .LtE | .gt => .Gt | .ge => .GtE | .is => .Is | .isnot => .IsNot | .isin => .In | .notin => .NotIn

theorem eqL_ok {A : Around} {s : Shared} {Q E : Value → Shared → Prop} {v u : Value} {x y : AV} {l k : List D} {b : Bool} (hu : A.units + 64 < cLine) (S : St W inj σ C V Y Z h₀ L m s.heap) (r : RepA W inj Z v x) (q : RepA W inj Z u y)
    (hx : cellOf σ x = some (.list l)) (hy : cellOf σ y = some (.list k)) (he : eqL l k = some b) :
    (Q (.bool b) s → wpAny (model W.prog W.w) A (compareOp .Eq v u) Q E s) ∧ (Q (.bool (!b)) s → wpAny (model W.prog W.w) A (compareOp .NotEq v u) Q E s) := by
  obtain ⟨a, vs, i, rfl, ma, ra⟩ := S.listIn r hx
  obtain ⟨a', vs', i', rfl, ma', ra'⟩ := S.listIn q hy
  obtain ⟨xs, h1, he⟩ := of_bind he
  obtain ⟨ys, h2, rfl⟩ := of_map he
  obtain ⟨d1, k1⟩ := dats_of (toDat 6) 6 (dat_of 6) ra h1
  obtain ⟨d2, k2⟩ := dats_of (toDat 6) 6 (dat_of 6) ra' h2
  have k1' : ∀ x ∈ xs, kqdOk 8 x = true := fun x hx => kqdOk_up _ _ (kqdOk_up _ _ (List.all_eq_true.mp k1 x hx))
  have k2' : ∀ x ∈ ys, kqdOk 8 x = true := fun x hx => kqdOk_up _ _ (kqdOk_up _ _ (List.all_eq_true.mp k2 x hx))
  have sub : ∀ p ∈ Z, p ∈ C.flatten ++ (V ++ (Y ++ Z)) := fun p hp => List.mem_append_right _ (List.mem_append_right _ (List.mem_append_right _ hp))
  exact ⟨fun hq => kqd_eq S.news ma rfl rfl d1 sub ma' rfl rfl d2 sub k1' k2' hu (by rw [dec_eq _ _]; exact hq),
    fun hq => kqd_ne S.news ma rfl rfl d1 sub ma' rfl rfl d2 sub k1' k2' hu (by rw [dec_eq _ _]; exact hq)⟩
theorem plainIs_none {v : Value} {a : AV} (r : RepA W inj Z v a) : PySem.plainIs v .none = true := by
  cases a with
  | loc _ => exact r.cps (fun v => PySem.plainIs v .none = true) fun _ _ => rfl
  | val d => exact Rep.casesOn (motive_1 := fun v _ _ => PySem.plainIs v .none = true) r.of_val rfl (fun _ => rfl) (fun _ _ => rfl) (fun _ _ => rfl) (fun _ _ => rfl) (fun _ _ => rfl) (fun _ _ _ _ => rfl) (fun _ _ _ => rfl) (fun _ => rfl)
theorem contains_any (ss : List Str) (x : Str) : (ss.any (· == x)) = ss.contains x := by
  induction ss with
  | nil => rfl
  | cons a r ih => simp only [List.any_cons, List.contains_cons, ih]; rw [Bool.beq_comm]
theorem of_eqLs {x y : AV} {b : Bool} (h : eqLs σ x y = some b) : X2 fun l k => A3 (cellOf σ x = some (.list l)) (cellOf σ y = some (.list k)) (eqL l k = some b) := by
  obtain ⟨l, hl, h⟩ := of_bind h
  obtain ⟨k, hk, h⟩ := of_bind h
  exact ⟨l, k, of_listOf hl, of_listOf hk, h⟩
theorem of_eqAV {x y : AV} {b : Bool} (h : eqAV σ x y = some b) : (X2 fun a c => A3 (intAV x = some a) (intAV y = some c) ((a == c) = b)) ∨ (X2 fun a c => A3 (strAV x = some a) (strAV y = some c) ((a == c) = b)) ∨ eqLs σ x y = some b := by
  unfold eqAV at h
  cases hx : intAV x with
  | some a => rw [hx] at h; obtain ⟨c, hc, h⟩ := of_map h; exact .inl ⟨a, c, rfl, hc, h⟩
  | none =>
    rw [hx] at h
    cases hs : strAV x with
    | some a => rw [hs] at h; obtain ⟨c, hc, h⟩ := of_map h; exact .inr (.inl ⟨a, c, rfl, hc, h⟩)
    | none => rw [hs] at h; exact .inr (.inr h)
theorem of_neAV {x y : AV} {b : Bool} (h : neAV σ x y = some b) : (X2 fun a c => A3 (intAV x = some a) (intAV y = some c) ((a != c) = b)) ∨ ∃ r, eqLs σ x y = some r ∧ (!r) = b := by
  unfold neAV at h
  cases hx : intAV x with
  | some a => rw [hx] at h; obtain ⟨c, hc, h⟩ := of_map h; exact .inl ⟨a, c, rfl, hc, h⟩
  | none => rw [hx] at h; exact .inr (of_map h)
theorem intE {v u : Value} {x y : AV} {a c : Int} {M : Value → Value → Prop} (r : RepA W inj Z v x) (q : RepA W inj Z u y) (hx : intAV x = some a) (hy : intAV y = some c) (k : ∀ t t', M (.int a t) (.int c t')) : M v u :=
  r.eInt (M := fun v => M v u) hx fun t => q.eInt (M := fun u => M (.int a t) u) hy fun t' => k t t'
theorem strE {v u : Value} {x y : AV} {a c : Str} {M : Value → Value → Prop} (r : RepA W inj Z v x) (q : RepA W inj Z u y) (hx : strAV x = some a) (hy : strAV y = some c) (k : ∀ t t', M (.str a t) (.str c t')) : M v u :=
  r.eStr (M := fun v => M v u) hx fun t => q.eStr (M := fun u => M (.str a t) u) hy fun t' => k t t'
theorem intsA {v u : Value} {x y : AV} {f : Int → Int → Bool} {b : Bool} {M : Value → Value → Prop} (r : RepA W inj Z v x) (q : RepA W inj Z u y) (h : ordAV x y f = some b) (k : ∀ a c t t', f a c = b → M (.int a t) (.int c t')) : M v u :=
  of_bindC h fun a ha h => (of_map h).elim fun c h => intE r q ha h.1 fun t t' => k a c t t' h.2
theorem inA {h : Heap} {v u : Value} {x y : AV} {b : Bool} (S : St W inj σ C V Y Z h₀ L m h) (r : RepA W inj Z v x) (q : RepA W inj Z u y) (he : inAV x y = some b) : X5 fun a t e vs ss => A5 (v = .str a t) (u = .ref e) (IsTup h e vs) (StrsAre vs.toList ss) ((ss.any (· == a)) = b) := by
  obtain ⟨a, ha, h1⟩ := of_bind he
  obtain ⟨l, hl, h2⟩ := of_bind h1
  obtain ⟨ss, hs, h3⟩ := of_map h2
  obtain ⟨d, hd, hl⟩ := of_bind hl
  clear he h1 h2
  cases of_strAV ha
  cases AV.of_d hd
  cases D.of_tup hl
  obtain ⟨t, rfl⟩ := r.of_val.of_str
  obtain ⟨e, vs, k, rfl, hm, q2⟩ := q.of_val.of_tup
  exact ⟨a, t, e, vs.toArray, ss, rfl, rfl, S.isTup hm, q2.strs hs, (contains_any ss a).trans h3⟩
theorem cmp_ok {op : Cop} {A : Around} {fenv : Env} {s : Shared} {Q E : Value → Shared → Prop} {v u : Value} {x y : AV} {b : Bool}
    (a : Act W n A h₀ L fenv) (S : St W inj σ C V Y Z h₀ L m s.heap) (r : RepA W inj Z v x) (q : RepA W inj Z u y) (he : cmpAV σ op x y = some b)
    (hp : Q (.bool b) s) :
    wpAny (model W.prog W.w) A (compareOp (copOf op) v u) Q E s := by
  have hu : A.units + 64 < cLine := by have := a.un; omega
  clear a
  cases op with
  | is => obtain ⟨hn, rfl⟩ := of_if he; cases of_noneAV hn; cases q.of_val.of_none; exact wpAny_is_plain (plainIs_none r) (by rw [r.notNone]; exact hp)
  | isnot => obtain ⟨hn, rfl⟩ := of_if he; cases of_noneAV hn; cases q.of_val.of_none; exact wpAny_isNot_plain (plainIs_none r) (by rw [r.notNone]; exact hp)
  | lt => exact intsA (M := fun v u => wpAny (model W.prog W.w) A (compareOp .Lt v u) Q E s) r q he fun a c t t' h => lt_int (h ▸ hp)
  | le => exact intsA (M := fun v u => wpAny (model W.prog W.w) A (compareOp .LtE v u) Q E s) r q he fun a c t t' h => le_int (h ▸ hp)
  | gt => exact intsA (M := fun v u => wpAny (model W.prog W.w) A (compareOp .Gt v u) Q E s) r q he fun a c t t' h => gt_int (h ▸ hp)
  | ge => exact intsA (M := fun v u => wpAny (model W.prog W.w) A (compareOp .GtE v u) Q E s) r q he fun a c t t' h => ge_int (h ▸ hp)
  | isin => obtain ⟨a, t, e, vs, ss, rfl, rfl, h1, h2, rfl⟩ := inA S r q he; exact in_tuple_strs h1 h2 hp
  | notin =>
    obtain ⟨c, hc, rfl⟩ := of_map he
    obtain ⟨a, t, e, vs, ss, rfl, rfl, h1, h2, rfl⟩ := inA S r q hc; exact notin_tuple_strs h1 h2 hp
  | eq =>
    rcases of_eqAV he with ⟨a, c, h1, h2, h3⟩ | ⟨a, c, h1, h2, h3⟩ | he
    · exact intE (M := fun v u => wpAny (model W.prog W.w) A (compareOp .Eq v u) Q E s) r q h1 h2 fun _ _ => eq_int (h3 ▸ hp)
    · exact strE (M := fun v u => wpAny (model W.prog W.w) A (compareOp .Eq v u) Q E s) r q h1 h2 fun _ _ => eq_str (h3 ▸ hp)
    · obtain ⟨l, k, h1, h2, h3⟩ := of_eqLs he; exact (eqL_ok hu S r q h1 h2 h3).1 hp
  | ne =>
    rcases of_neAV he with ⟨a, c, h1, h2, h3⟩ | ⟨c, hc, h3⟩
    · exact intE (M := fun v u => wpAny (model W.prog W.w) A (compareOp .NotEq v u) Q E s) r q h1 h2 fun _ _ => ne_int (h3 ▸ hp)
    · obtain ⟨l, k, h1, h2, h4⟩ := of_eqLs hc; exact (eqL_ok hu S r q h1 h2 h4).2 (h3 ▸ hp)

theorem SE.cmp {op : Cop} {e₁ e₂ : Expr} {t₁ t₂ : T} {pos : Pos} (h₁ : SE W n F si e₁ t₁) (h₂ : SE W n F si e₂ t₂) (hb : behindInMarks (copOf op) e₂ = false) : SE W n F si (.Compare e₁ [copOf op] [e₂] pos) (.cmp op t₁ t₂) := by
  intro A h₀ L fenv env m s Q E inj σ C V Y Z ρ a σ' act H S he hp
  refine of_bindC he fun p v₁ he => of_bindC he fun q v₂ he => of_mapP (K := fun a σ' => Post W h₀ L m V Y inj Z σ' a s Q) he hp fun z hz hp => ?_
  refine wpAny_Compare1 (SE.two h₁ h₂ act H S v₁ v₂ fun v u h' tk' inj' C' Z' S' g r q => ?_) hb
  exact cmp_ok act S' r q hz (hp _ h' tk' inj' C' Z' S' g (.val (.bool _)))
theorem SB.cmp {op : Cop} {e₁ e₂ : Expr} {t₁ t₂ : T} {pos : Pos} (h₁ : SE W n F si e₁ t₁) (h₂ : SE W n F si e₂ t₂) (hb : behindInMarks (copOf op) e₂ = false) : SB W n F si (.Compare e₁ [copOf op] [e₂] pos) (.cmp op t₁ t₂) := by
  intro A h₀ L fenv env m s Q E inj σ C V Y Z ρ a b σ' act H S he hp
  refine of_bindC he fun p v₁ he => of_bindC he fun q v₂ he => of_mapP (K := fun a σ' => BPost W h₀ L m V Y inj Z σ' a b s Q) he hp fun z hz hp => ?_
  refine wpAny_isTrue_Compare1 (SE.two h₁ h₂ act H S v₁ v₂ fun v u h' tk' inj' C' Z' S' g r q => ?_) hb
  exact cmp_ok act S' r q hz (wpAny_truthy_bool (hp.at S' g))
/-- a test whose truth is its value's -/
noncomputable def plainTest (e : Expr) : Bool := rName (fun _ _ => true) e || (rAttribute (fun _ _ _ => true) e || (rCall (fun _ _ _ _ => true) e || (rSubscript (fun _ _ _ => true) e || rConstant (fun _ _ _ => true) e)))
theorem SB.plain {e : Expr} {t : T} (h : SE W n F si e t) (hp : plainTest e = true) : SB W n F si e t := by
  intro A h₀ L fenv env m s Q E inj σ C V Y Z ρ a b σ' act H S he hq
  have k : wpAny (model W.prog W.w) A (eval e env) (fun v s₁ => wpAny (model W.prog W.w) A (truthy v) Q E s₁) E s :=
    h act H S he fun v h' tk' inj' C' Z' S' g r => r.eBool (M := fun v => wpAny (model W.prog W.w) A (truthy v) Q E _) hq.1 (wpAny_truthy_bool (hq.2 h' tk' inj' C' Z' S' g))
  clear h he hq act H S
  revert k
  generalize eval e env = whole
  let M : Expr → Prop := fun e => wpAny (model W.prog W.w) A whole (fun v s₁ => wpAny (model W.prog W.w) A (truthy v) Q E s₁) E s → wpAny (model W.prog W.w) A (PySem.isTrue e env whole) Q E s
  exact bOr hp (of_rName (M := M) fun _ _ _ k => wpAny_isTrue_value k rfl) fun hp => bOr hp (of_rAttribute (M := M) fun _ _ _ _ k => wpAny_isTrue_value k rfl) fun hp => bOr hp (of_rCall (M := M) fun _ _ _ _ _ k => wpAny_isTrue_value k rfl) fun hp =>
    bOr hp (of_rSubscript (M := M) fun _ _ _ _ k => wpAny_isTrue_value k rfl) (of_rConstant (M := M) fun _ _ _ _ k => wpAny_isTrue_value k rfl)
theorem SB.not {e : Expr} {t : T} {pos : Pos} (h : SB W n F si e t) : SB W n F si (.UnaryOp .Not e pos) (.not t) := by
  intro A h₀ L fenv env m s Q E inj σ C V Y Z ρ a b σ' act H S he hq
  refine of_bindC he fun p v₁ he => of_mapP (K := fun a σ' => BPost W h₀ L m V Y inj Z σ' a b s Q) he hq fun z hz hq => ?_
  exact wpAny_isTrue_Not (h act H S v₁ ⟨hz, fun h' tk' inj' C' Z' S' g => hq.at S' g⟩)
theorem SE.not {e : Expr} {t : T} {pos : Pos} (h : SE W n F si e t) : SE W n F si (.UnaryOp .Not e pos) (.not t) := by
  intro A h₀ L fenv env m s Q E inj σ C V Y Z ρ b σ' act H S he hp
  refine of_bindC he fun p v₁ he => of_mapP (K := fun a σ' => Post W h₀ L m V Y inj Z σ' a s Q) he hp fun z hz hp => ?_
  exact wpAny_UnaryOp (h act H S v₁ fun v h' tk' inj' C' Z' S' g r => r.eBool (M := fun v => wpAny (model W.prog W.w) A (PySem.unaryOp .Not v) Q E _) hz (not_of (wpAny_truthy_bool (hp _ h' tk' inj' C' Z' S' g (.val (.bool _))))))
theorem SB.and {e₁ e₂ : Expr} {t₁ t₂ : T} {pos : Pos} (h₁ : SB W n F si e₁ t₁) (h₂ : SB W n F si e₂ t₂) : SB W n F si (.BoolOp .And [e₁, e₂] pos) (.and t₁ t₂) := by
  intro A h₀ L fenv env m s Q E inj σ C V Y Z ρ a b σ' act H S he hq
  refine wpAny_isTrue_BoolOp (wpAny_allTrue_And_cons ?_)
  refine of_bindC he fun p v₁ he => of_bindC he fun c hc he => h₁ act H S v₁ ⟨hc, fun h' tk' inj' C' Z' S' g => ?_⟩
  refine of_condC he (fun ec he => ?_) fun ec he => ?_
  · refine ite_t ec ?_
    refine of_bindC he fun q v₂ he => of_mapP (K := fun a σ' => BPost W h₀ L m V Y inj Z σ' a b s Q) he hq fun z hz hq => ?_
    refine wpAny_allTrue_And_cons (h₂ act (H.mono g) S' v₂ ⟨hz, fun h'' tk'' inj'' C'' Z'' S'' g' => ?_⟩)
    have q := hq.at S'' (tk := tk'') (g.trans g')
    cases z
    · exact q
    · exact wpAny_allTrue_And_nil q
  · refine ite_f ec ?_
    exact BPost.at (of_someP (K := fun a σ' => BPost W h₀ L m V Y inj Z σ' a b s Q) he hq) S' g
theorem SB.or {e₁ e₂ : Expr} {t₁ t₂ : T} {pos : Pos} (h₁ : SB W n F si e₁ t₁) (h₂ : SB W n F si e₂ t₂) : SB W n F si (.BoolOp .Or [e₁, e₂] pos) (.or t₁ t₂) := by
  intro A h₀ L fenv env m s Q E inj σ C V Y Z ρ a b σ' act H S he hq
  refine wpAny_isTrue_BoolOp (wpAny_allTrue_Or_cons ?_)
  refine of_bindC he fun p v₁ he => of_bindC he fun c hc he => h₁ act H S v₁ ⟨hc, fun h' tk' inj' C' Z' S' g => ?_⟩
  refine of_condC he (fun ec he => ?_) fun ec he => ?_
  · refine ite_t ec ?_
    exact BPost.at (of_someP (K := fun a σ' => BPost W h₀ L m V Y inj Z σ' a b s Q) he hq) S' g
  · refine ite_f ec ?_
    refine of_bindC he fun q v₂ he => of_mapP (K := fun a σ' => BPost W h₀ L m V Y inj Z σ' a b s Q) he hq fun z hz hq => ?_
    refine wpAny_allTrue_Or_cons (h₂ act (H.mono g) S' v₂ ⟨hz, fun h'' tk'' inj'' C'' Z'' S'' g' => ?_⟩)
    have q := hq.at S'' (tk := tk'') (g.trans g')
    cases z
    · exact wpAny_allTrue_Or_nil q
    · exact q
theorem SE.and {e₁ e₂ : Expr} {t₁ t₂ : T} {pos : Pos} (h₁ : SE W n F si e₁ t₁) (h₂ : SE W n F si e₂ t₂) : SE W n F si (.BoolOp .And [e₁, e₂] pos) (.and t₁ t₂) := by
  intro A h₀ L fenv env m s Q E inj σ C V Y Z ρ b σ' act H S he hq
  refine of_bindC he fun p v₁ he => of_bindC he fun c hc he => wpAny_And2 (h₁ act H S v₁ fun v h' tk' inj' C' Z' S' g r => ?_)
  rw [r.isBool hc]
  refine wpAny_truthy_bool (of_condC he (fun ec he => ?_) fun ec he => ?_)
  · refine ite_t ec ?_
    refine of_bindC he fun q v₂ he => of_mapP (K := fun a σ' => Post W h₀ L m V Y inj Z σ' a s Q) he hq fun z hz hq => ?_
    exact h₂ act (H.mono g) S' v₂ fun v h'' tk'' inj'' C'' Z'' S'' g' r' => hq v h'' tk'' inj'' C'' Z'' S'' (g.trans g') (of_boolAV hz ▸ r')
  · refine ite_f ec ?_
    exact of_someP (K := fun a σ' => Post W h₀ L m V Y inj Z σ' a s Q) he hq (.bool c) h' tk' inj' C' Z' S' g (.val (ec ▸ .bool _))
theorem SE.or {e₁ e₂ : Expr} {t₁ t₂ : T} {pos : Pos} (h₁ : SE W n F si e₁ t₁) (h₂ : SE W n F si e₂ t₂) : SE W n F si (.BoolOp .Or [e₁, e₂] pos) (.or t₁ t₂) := by
  intro A h₀ L fenv env m s Q E inj σ C V Y Z ρ b σ' act H S he hq
  refine of_bindC he fun p v₁ he => of_bindC he fun c hc he => wpAny_Or2 (h₁ act H S v₁ fun v h' tk' inj' C' Z' S' g r => ?_)
  rw [r.isBool hc]
  refine wpAny_truthy_bool (of_condC he (fun ec he => ?_) fun ec he => ?_)
  · refine ite_t ec ?_
    exact of_someP (K := fun a σ' => Post W h₀ L m V Y inj Z σ' a s Q) he hq (.bool c) h' tk' inj' C' Z' S' g (.val (ec ▸ .bool _))
  · refine ite_f ec ?_
    refine of_bindC he fun q v₂ he => of_mapP (K := fun a σ' => Post W h₀ L m V Y inj Z σ' a s Q) he hq fun z hz hq => ?_
    exact h₂ act (H.mono g) S' v₂ fun v h'' tk'' inj'' C'' Z'' S'' g' r' => hq v h'' tk'' inj'' C'' Z'' S'' (g.trans g') (of_boolAV hz ▸ r')
theorem SE.ite {c a b : Expr} {tc ta tb : T} {pos : Pos} (hc : SB W n F si c tc) (ha : SE W n F si a ta) (hb : SE W n F si b tb) : SE W n F si (.IfExp c a b pos) (.ite tc ta tb) := by
  intro A h₀ L fenv env m s Q E inj σ C V Y Z ρ z σ' act H S he hq
  refine of_bindC he fun p v₁ he => of_bindC he fun t ht he => wpAny_IfExp (hc act H S v₁ ⟨ht, fun h' tk' inj' C' Z' S' g => ?_⟩)
  refine of_condC he (fun ec he => ?_) fun ec he => ?_
  · refine ite_t ec ?_
    exact ha act (H.mono g) S' he fun v h'' tk'' inj'' C'' Z'' S'' g' r' => hq v h'' tk'' inj'' C'' Z'' S'' (g.trans g') r'
  · refine ite_f ec ?_
    exact hb act (H.mono g) S' he fun v h'' tk'' inj'' C'' Z'' S'' g' r' => hq v h'' tk'' inj'' C'' Z'' S'' (g.trans g') r'
end
end Mine

namespace Mine
open PySem PySem.W PySem.Calls PyProof.Rows

/-- no starred argument -/
noncomputable def starless (es : List Expr) : Bool := es.all fun e => e.ctorIdx != (Expr.Starred default default).ctorIdx

/-- what is known of the text's top -/
structure WOk (W : Wo) (known : Nat → Bool) : Prop where
  fns : ∀ f, known f = true → nsIn W.K mainGlobals (W.nm.fnm f) = some (some (.ref (W.nm.fa f))) ∧ keepIn W.K (.ref (W.nm.fa f)) = true

noncomputable def CallOk (W : Wo) (n : Nat) (F : Fns) : Prop :=
  ∀ (f : Nat) {A : Around} {h₀ : Heap} {L : Addr} {fenv : Env} {m : Str → Option Value} {s : Shared} {Q E : Value → Shared → Prop} {inj : List Addr} {σ : Store} {C : List Led} {V Y Z : Led} {vs : List Value} {as : List AV} {a : AV} {σ' : Store},
    Act W n A h₀ L fenv → St W inj σ C V Y Z h₀ L m s.heap → RepAs W inj Z vs as → F f as σ = some (a, σ') →
    Post W h₀ L m V Y inj Z σ' a s Q → wpAny (model W.prog W.w) A (call (.ref (W.nm.fa f)) vs) Q E s

section
variable {W : Wo} {n : Nat} {F : Fns} {si : SI} {inj : List Addr} {σ : Store} {C : List Led} {V Y Z : Led} {h₀ h h' : Heap} {L : Addr} {m m' : Str → Option Value}

theorem starEach_cons {e : Expr} {r : List Expr} {env : Env} (h : starless (e :: r) = true) : starEach (e :: r) env = (false, eval e env) :: starEach r env ∧ starless r = true := by
  have k := Bool.and_eq_true_iff.mp h
  refine ⟨?_, k.2⟩
  clear h
  cases e <;> first | rfl | exact nomatch k.1
theorem starless_any {pos : Pos} {env : Env} {es : List Expr} (h : starless es = true) : (backTo pos (starEach es env)).any (·.1) = false := by
  induction es with
  | nil => rfl
  | cons e r ih =>
    obtain ⟨h1, h2⟩ := starEach_cons (env := env) h
    rw [h1]
    show (false || (backTo pos (starEach r env)).any (·.1)) = false
    rw [ih h2]; rfl
theorem SEs.run {A : Around} {fenv env : Env} {E : Value → Shared → Prop} {ρ : Slots} {pos : Pos} (es : List Expr) : ∀ {ts : List T} {s : Shared} {Q : List Value → Shared → Prop} {inj : List Addr} {σ : Store} {C : List Led} {Z : Led} {as : List AV} {σ' : Store},
    SEs W n F si es ts → starless es = true → Act W n A h₀ L fenv → EH W si env h₀ L m V Y inj Z ρ → St W inj σ C V Y Z h₀ L m s.heap → evs F ts ρ σ = some (as, σ') → Posts W h₀ L m V Y inj Z σ' as s Q →
    wpAny (model W.prog W.w) A (spliced (backTo pos (starEach es env))) Q E s := by
  induction es with
  | nil =>
    intro ts s Q inj σ C Z as σ' h _ _ _ S he hp
    cases ts with
    | cons _ _ => exact h.elim
    | nil => exact spliced_none (of_someP (K := fun as σ' => Posts W h₀ L m V Y inj Z σ' as s Q) he hp [] s.heap s.toks inj C Z S Grow.rfl .nil)
  | cons e es ih =>
    intro ts s Q inj σ C Z as σ' h hs a H S he hp
    cases ts with
    | nil => exact h.elim
    | cons t ts =>
      obtain ⟨h1, h2⟩ := starEach_cons (env := env) hs
      refine of_bindC he fun p v₁ he => of_mapP (K := fun as σ' => Posts W h₀ L m V Y inj Z σ' as s Q) he hp fun q v₂ hp => ?_
      refine spliced_more (h.1 a H S v₁ fun v h' tk' inj' C' Z' S' g r => ?_) h1
      refine ih (s := { s with heap := h', toks := tk' }) h.2 h2 a (H.mono g) S' v₂ fun vs h'' tk'' inj'' C'' Z'' S'' g' rs => ?_
      exact hp (v :: vs) h'' tk'' inj'' C'' Z'' S'' (g.trans g') (.cons (r.mono g'.z g'.inj) rs)

theorem SEs_len {es : List Expr} : ∀ {ts : List T}, SEs W n F si es ts → es.length = ts.length := by
  induction es with
  | nil => intro ts h; cases ts with | nil => rfl | cons _ _ => exact h.elim
  | cons e es ih => intro ts h; cases ts with | nil => exact h.elim | cons t ts => exact congrArg (· + 1) (ih h.2)
theorem evs_len {ts : List T} {ρ : Slots} {σ' : Store} : ∀ {σ : Store} {as : List AV}, evs F ts ρ σ = some (as, σ') → ts.length = as.length := by
  induction ts with
  | nil => intro σ as h; exact (congrArg (fun x => x.1.length) (Option.some.inj h) :)
  | cons t r ih =>
    intro σ as h
    obtain ⟨p, _, h⟩ := of_bind h
    obtain ⟨q, hq, h⟩ := of_map h
    have h1 : p.1 :: q.1 = as := congrArg Prod.fst h
    have h2 : q.2 = σ' := congrArg Prod.snd h
    rw [← h1]
    rw [← h2] at ih
    exact congrArg (· + 1) (ih hq)
theorem vals_len {as : List AV} : ∀ {ds : List D}, vals? as = some ds → as.length = ds.length := by
  induction as with
  | nil => intro ds h; rw [← Option.some.inj h]; rfl
  | cons a r ih =>
    intro ds h
    obtain ⟨d, _, h⟩ := of_bind h
    obtain ⟨es, he, h⟩ := of_map h
    rw [← h]
    exact congrArg (· + 1) (ih he)
theorem seq_len {es : List Expr} {ts : List T} {ρ : Slots} {as : List AV} {ds : List D} {vs : List Value} {σ' : Store} (h : SEs W n F si es ts) (v₁ : evs F ts ρ σ = some (as, σ')) (hd : vals? as = some ds) (rr : Reps W Z vs ds) (hl : es.length ≤ 1000) : vs.length ≤ sizeLine := by
  rw [rr.length, ← vals_len hd, ← evs_len v₁, ← SEs_len h, sizeLine_eq]
  exact Nat.le_trans hl (by decide)
theorem SE.tup {es : List Expr} {ts : List T} {k : Nat} {pos : Pos} (h : SEs W n F si es ts) (hs : starless es = true) (hl : es.length ≤ 1000) : SE W n F si (.Tuple es k pos) (.tup ts) := by
  intro A h₀ L fenv env m s Q E inj σ C V Y Z ρ a σ' act H S he hp
  refine of_bindC he fun p v₁ he => of_mapP (K := fun a σ' => Post W h₀ L m V Y inj Z σ' a s Q) he hp fun ds hd hp => ?_
  refine Tuple_ (SEs.run es h hs act H S v₁ fun vs h' tk' inj' C' Z' S' g rs => ?_)
  have rr := rs.vals hd
  refine newTuple_N S'.fr S'.news (fun h'' F' N' => ?_) (seq_len h v₁ hd rr hl)
  have S'' := S'.alloc (o := tupO vs 0) F' N' fun p hp => Heap.lt_size (S'.news p hp).1
  exact hp _ h'' tk' inj' C' _ S'' (g.trans Grow.cons) (.val (.tup List.mem_cons_self (rr.mono fun _ h => List.mem_cons_of_mem _ h)))
theorem SE.list {es : List Expr} {ts : List T} {pos : Pos} (h : SEs W n F si es ts) (hs : starless es = true) (hl : es.length ≤ 1000) : SE W n F si (.List es pos) (.list ts) := by
  intro A h₀ L fenv env m s Q E inj σ C V Y Z ρ a σ' act H S he hp
  refine of_bindC he fun p v₁ he => of_mapP (K := fun a σ' => Post W h₀ L m V Y inj Z σ' a s Q) he hp fun ds hd hp => ?_
  refine List_ (SEs.run es h hs act H S v₁ fun vs h' tk' inj' C' Z' S' g rs => ?_)
  have rr := rs.vals hd
  refine newList_K S'.fr S'.news (fun l h'' F' N' lt => ?_) (seq_len h v₁ hd rr hl)
  have S'' := S'.alloc (o := lstO vs 0) F' N' lt
  exact hp _ h'' tk' inj' C' _ S'' (g.trans Grow.cons) (.val (.list List.mem_cons_self (rr.mono fun _ h => List.mem_cons_of_mem _ h)))

/-- a global name -/
theorem name_g {A : Around} {fenv env : Env} {s : Shared} {Q E : Value → Shared → Prop} {ρ : Slots} {x : Str} {pos : Pos} {v : Value} (a : Act W n A h₀ L fenv) (H : EH W si env h₀ L m V Y inj Z ρ) (S : St W inj σ C V Y Z h₀ L m s.heap)
    (hk : si.scope.names.lookup x = some .globalImplicit) (hd : (x == ("__debug__" : Str)) = false) (hv : nsIn W.K mainGlobals x = some (some v)) (hq : Q v s) : wpAny (model W.prog W.w) A (eval (.Name x pos) env) Q E s :=
  Name_function_global H.kind (H.kinds x hk) (loadGlobal_global (show s.heap.Ns env.globals W.mg from H.glob ▸ (a.top.keeps S.fr.keep).g) (mg_of a.K a.top.g hv) hq) hd
theorem name_b {A : Around} {fenv env : Env} {s : Shared} {Q E : Value → Shared → Prop} {ρ : Slots} {x : Str} {pos : Pos} {v : Value} (a : Act W n A h₀ L fenv) (H : EH W si env h₀ L m V Y inj Z ρ) (S : St W inj σ C V Y Z h₀ L m s.heap)
    (hk : si.scope.names.lookup x = some .globalImplicit) (hd : (x == ("__debug__" : Str)) = false) (hv : nsIn W.K mainGlobals x = some none) (hb : bootBuiltins x = some v) (hn : x ≠ "__name__") (hq : Q v s) : wpAny (model W.prog W.w) A (eval (.Name x pos) env) Q E s :=
  Name_function_global H.kind (H.kinds x hk) (loadGlobal_builtin (show s.heap.Ns env.globals W.mg from H.glob ▸ (a.top.keeps S.fr.keep).g) (mg_none_of a.K a.top.g hv) (show s.heap.Ns env.builtins W.mb from H.blt ▸ (a.top.keeps S.fr.keep).b) ((a.top.builtins x hn).trans hb) hq) hd
theorem SE.gv {x : Str} {pos : Pos} {d : D} {v : Value} (hk : si.scope.names.lookup x = some .globalImplicit) (hd : (x == ("__debug__" : Str)) = false) (hv : nsIn W.K mainGlobals x = some (some v)) (hr : ∀ Z, Rep W Z v d) : SE W n F si (.Name x pos) (.gv x d) := by
  intro A h₀ L fenv env m s Q E inj σ C V Y Z ρ a σ' act H S he hp
  exact name_g act H S hk hd hv (Post.val (of_someP (K := fun a σ' => Post W h₀ L m V Y inj Z σ' a s Q) he hp) S (.val (hr Z)))

/-- a call of a def or a class of the text, its value handed on -/
theorem call_gen {A : Around} {fenv env : Env} {s : Shared} {Q E : Value → Shared → Prop} {ρ : Slots} {x : Str} {np pos : Pos} {es : List Expr} {ts : List T} {f : Nat} {as : List AV} {σ₁ : Store}
    (h : SEs W n F si es ts) (hs : starless es = true) (act : Act W n A h₀ L fenv) (H : EH W si env h₀ L m V Y inj Z ρ) (S : St W inj σ C V Y Z h₀ L m s.heap)
    (hk : si.scope.names.lookup x = some .globalImplicit) (hd : (x == ("__debug__" : Str)) = false) (hv : nsIn W.K mainGlobals x = some (some (.ref (W.nm.fa f)))) (hkeep : keepIn W.K (.ref (W.nm.fa f)) = true)
    (v₁ : evs F ts ρ σ = some (as, σ₁)) (fin : ∀ vs h' tk' inj' C' Z', St W inj' σ₁ C' V Y Z' h₀ L m h' → Grow inj inj' Z Z' → RepAs W inj' Z' vs as → wpAny (model W.prog W.w) A (call (.ref (W.nm.fa f)) vs) Q E { s with heap := h', toks := tk' }) :
    wpAny (model W.prog W.w) A (eval (.Call (.Name x np) es [] pos) env) Q E s := by
  refine wpAny_Call_ofName (name_g act H S hk hd hv ?_)
  cases es with
  | nil =>
    cases ts with
    | cons _ _ => exact h.elim
    | nil =>
      cases v₁
      exact callWith_K0 (act.K.keeps S.fr.keep) hkeep (fin [] s.heap s.toks inj C Z S Grow.rfl .nil)
  | cons e es =>
    obtain ⟨h1, h2⟩ := starEach_cons (env := env) hs
    refine callWith_K act.K hkeep (SEs.run _ h hs act H S v₁ fun vs h' tk' inj' C' Z' S' g rs => ?_) h1 (starless_any h2)
    exact ⟨act.K.keeps S'.fr.keep, fin vs h' tk' inj' C' Z' S' g rs⟩
theorem call_ref {A : Around} {fenv env : Env} {s : Shared} {Q E : Value → Shared → Prop} {ρ : Slots} {x : Str} {np pos : Pos} {es : List Expr} {ts : List T} {f : Nat} {as : List AV} {a : AV} {σ₁ σ' : Store}
    (ok : CallOk W n F) (h : SEs W n F si es ts) (hs : starless es = true) (act : Act W n A h₀ L fenv) (H : EH W si env h₀ L m V Y inj Z ρ) (S : St W inj σ C V Y Z h₀ L m s.heap)
    (hk : si.scope.names.lookup x = some .globalImplicit) (hd : (x == ("__debug__" : Str)) = false) (hv : nsIn W.K mainGlobals x = some (some (.ref (W.nm.fa f)))) (hkeep : keepIn W.K (.ref (W.nm.fa f)) = true)
    (v₁ : evs F ts ρ σ = some (as, σ₁)) (v₂ : F f as σ₁ = some (a, σ')) (hp : Post W h₀ L m V Y inj Z σ' a s Q) :
    wpAny (model W.prog W.w) A (eval (.Call (.Name x np) es [] pos) env) Q E s :=
  call_gen h hs act H S hk hd hv hkeep v₁ fun vs h' tk' inj' C' Z' S' g rs =>
    ok f (s := { s with heap := h', toks := tk' }) act S' rs v₂ fun v h'' tk'' inj'' C'' Z'' S'' g' r => hp v h'' tk'' inj'' C'' Z'' S'' (g.trans g') r
theorem SE.call {x : Str} {np pos : Pos} {es : List Expr} {ts : List T} {f : Nat} (ok : CallOk W n F) (h : SEs W n F si es ts) (hs : starless es = true)
    (hk : si.scope.names.lookup x = some .globalImplicit) (hd : (x == ("__debug__" : Str)) = false) (hv : nsIn W.K mainGlobals x = some (some (.ref (W.nm.fa f)))) (hkeep : keepIn W.K (.ref (W.nm.fa f)) = true) :
    SE W n F si (.Call (.Name x np) es [] pos) (.call f ts) := by
  intro A h₀ L fenv env m s Q E inj σ C V Y Z ρ a σ' act H S he hp
  exact of_bindC he fun p v₁ he => call_ref ok h hs act H S hk hd hv hkeep v₁ he hp
end
end Mine

namespace Mine
open PySem PySem.W PySem.Calls PyProof.Rows

section
variable {W : Wo} {n : Nat} {F : Fns} {si : SI} {inj : List Addr} {σ : Store} {C : List Led} {V Y Z : Led} {h₀ h h' : Heap} {L : Addr} {m m' : Str → Option Value}

theorem maxL_spec : ∀ (r : List Int) (a : Int), maxL a r ∈ a :: r ∧ ∀ b ∈ a :: r, b ≤ maxL a r
  | [], a => ⟨.head _, fun b hb => by rw [List.mem_singleton.mp hb]; exact Int.le_refl _⟩
  | c :: r, a => by
    simp only [maxL]
    split
    · rename_i hc
      obtain ⟨h1, h2⟩ := maxL_spec r c
      refine ⟨List.mem_cons_of_mem _ h1, fun b hb => ?_⟩
      rcases List.mem_cons.mp hb with rfl | hb
      · exact Int.le_trans (Int.le_of_lt hc) (h2 c (.head _))
      · exact h2 b hb
    · rename_i hc
      obtain ⟨h1, h2⟩ := maxL_spec r a
      refine ⟨by rcases List.mem_cons.mp h1 with e | e; rw [e]; exact .head _; exact .tail _ (.tail _ e), fun b hb => ?_⟩
      rcases List.mem_cons.mp hb with rfl | hb
      · exact h2 b (.head _)
      rcases List.mem_cons.mp hb with rfl | hb
      · have := h2 a (.head _); omega
      · exact h2 b (.tail _ hb)
theorem sm_log {a : Int} (h : sm a = true) : a.natAbs.log2 < 1920 := by
  unfold sm at h
  simp only [Bool.and_eq_true, decide_eq_true_eq] at h
  by_cases h0 : a.natAbs = 0
  · rw [h0]; decide
  · exact Nat.lt_of_lt_of_le ((Nat.log2_lt h0).mpr (show a.natAbs < 2 ^ 99 by omega)) (by decide)

noncomputable def biName : Bi → Str
  | .len => "len" | .str => "str" | .abs => "abs" | .max2 => "max" | .max1 => "max" | .ord => "ord" | .range1 => "range" | .range2 => "range" | .range3 => "range" | .list1 => "list" | .sum1 => "sum"
noncomputable def biVal : Bi → Value
  | .len => .builtin "len" | .str => .type "str" | .abs => .builtin "abs" | .max2 => .builtin "max" | .max1 => .builtin "max" | .ord => .builtin "ord" | .range1 => .type "range" | .range2 => .type "range" | .range3 => .type "range" | .list1 => .type "list" | .sum1 => .builtin "sum"
theorem bi_boot (b : Bi) : bootBuiltins (biName b) = some (biVal b) := by cases b <;> decide +kernel
theorem bi_name (b : Bi) : biName b ≠ "__name__" ∧ (biName b == ("__debug__" : Str)) = false := by cases b <;> decide +kernel

/-- the state goes on, one object more -/
theorem Post.one {A : Around} {s : Shared} {Q : Value → Shared → Prop} {σ' : Store} {b : AV} (hp : Post W h₀ L m V Y inj Z σ b s Q) (S : St W inj σ C V Y Z h₀ L m h') (tk : Nat) {o : Obj} {h'' : Heap} {a : Addr} (F' : Fr h₀ L h'' m)
    (N' : News h₀ L h'' ((a, o) :: (C.flatten ++ (V ++ (Y ++ Z))))) (lt : ∀ p ∈ C.flatten ++ (V ++ (Y ++ Z)), p.1 < a) {v : Value} (r : RepA W inj ((a, o) :: Z) v b) : Q v { s with heap := h'', toks := tk } :=
  hp v h'' tk inj C _ (S.alloc F' N' lt) Grow.cons r

theorem of_maxD {l : List Int} {c : D} (h : maxD l = some c) : X2 fun a r => l = a :: r ∧ c = .int (maxL a r) := by
  cases l with
  | nil => cases h
  | cons a r => exact ⟨a, r, rfl, (of_if h).2.symm⟩
theorem len_at {A : Around} {s : Shared} {Q E : Value → Shared → Prop} {x : Addr} {ws : List Value} {k : Nat} {l : List D} (hx : s.heap.get? x = some (lstO ws k)) (rr : Reps W Z ws l) (hl : l.length ≤ lim) (hp : ∀ t tk, Q (.int (l.length : Int) t) { s with toks := tk }) :
    wpAny (model W.prog W.w) A (call (.builtin "len") [.ref x]) Q E s := by
  refine len_list (items := ws.toArray) ⟨_, hx, rfl, _, rfl⟩ (by have := rr.length; unfold lim at hl; simp; omega) ?_
  have e : (ws.toArray.size : Int) = (l.length : Int) := by rw [List.size_toArray, rr.length]
  rw [e]
  exact hp _ _
theorem list_at {v : Value} {d : D} {l : List D} (S : St W inj σ C V Y Z h₀ L m h) (r : Rep W Z v d) (hl : d.list? = some l) : X2 fun x ws => A3 (v = .ref x) (h.IsList x ws.toArray) (Reps W Z ws l) := by
  cases D.of_list hl
  obtain ⟨x, ws, k, rfl, hm, rr⟩ := r.of_list
  exact ⟨x, ws, rfl, S.isList hm, rr⟩
theorem int_at {v : Value} {d : D} {i : Int} (r : Rep W Z v d) (hl : d.int? = some i) : ∃ t, v = .int i t := by
  cases D.of_int hl
  exact r.of_int
theorem str_at {v : Value} {d : D} {i : Str} (r : Rep W Z v d) (hl : d.str? = some i) : ∃ t, v = .str i t := by
  cases D.of_str hl
  exact r.of_str
theorem max_at {A : Around} {s : Shared} {Q E : Value → Shared → Prop} {v : Value} {d c : D} {l : List D} {ns : List Int} (ha : A.handled = none) (S : St W inj σ C V Y Z h₀ L m s.heap) (r : Rep W Z v d) (hl : d.list? = some l) (hi : ints? l = some ns) (hc : maxD ns = some c)
    (hp : Post W h₀ L m V Y inj Z σ (.val c) s Q) : wpAny (model W.prog W.w) A (call (.builtin "max") [v]) Q E s := by
  obtain ⟨a, x, rfl, I, q⟩ := list_at S r hl
  obtain ⟨x, r, rfl, rfl⟩ := of_maxD hc
  refine max_list_N ha S.fr S.news I (q.ints hi) (by simp) fun h' M t tk F' N' h1 h2 => ?_
  obtain ⟨h3, h4⟩ := maxL_spec r x
  have e : M = maxL x r := Int.le_antisymm (h4 M h1) (h2 _ h3)
  rw [e]
  exact hp.val (S.keep F' N') (.val (.int _ _))
theorem sm_lim {i : Int} (h : i.natAbs ≤ lim) : sm i = true := by
  unfold sm
  unfold lim at h
  rw [decide_eq_true_eq]
  omega
theorem lim_lt {k : Nat} (h : k ≤ lim) : ¬ (k : Int) ≥ 2 ^ 63 := Int.not_le.mpr (Int.ofNat_lt.mpr (Nat.lt_of_le_of_lt h (by decide : lim < 2 ^ 63)))
theorem oneE {P : List Value → Prop} {vs : List Value} {ds : List D} {f : D → Option D} {c : D} (rs : Reps W Z vs ds) (h : one ds f = some c) (k : ∀ v d, Rep W Z v d → f d = some c → P [v]) : P vs := by
  obtain ⟨d, e, h⟩ := of_one h
  rw [e] at rs
  exact rs.cps P fun v ws x q => q.cps (fun ws => P (v :: ws)) (k v d x h)
theorem twoE {P : List Value → Prop} {vs : List Value} {ds : List D} {f : D → D → Option D} {c : D} (rs : Reps W Z vs ds) (h : two ds f = some c) (k : ∀ v u d e, Rep W Z v d → Rep W Z u e → f d e = some c → P [v, u]) : P vs := by
  obtain ⟨d, d', e, h⟩ := of_two h
  rw [e] at rs
  exact rs.cps P fun v ws x q => q.cps (fun ws => P (v :: ws)) fun u ws y q => q.cps (fun ws => P (v :: u :: ws)) (k v u d d' x y h)
theorem threeE {P : List Value → Prop} {vs : List Value} {ds : List D} {f : D → D → D → Option D} {c : D} (rs : Reps W Z vs ds) (h : three ds f = some c) (k : ∀ v u w d e i, Rep W Z v d → Rep W Z u e → Rep W Z w i → f d e i = some c → P [v, u, w]) : P vs := by
  obtain ⟨d, d', d'', e, h⟩ := of_three h
  rw [e] at rs
  exact rs.cps P fun v ws x q => q.cps (fun ws => P (v :: ws)) fun u ws y q => q.cps (fun ws => P (v :: u :: ws)) fun w ws z q => q.cps (fun ws => P (v :: u :: w :: ws)) (k v u w d d' d'' x y z h)
theorem biD_ok {b : Bi} {A : Around} {s : Shared} {Q E : Value → Shared → Prop} {vs : List Value} {ds : List D} {c : D}
    (ha : A.handled = none) (S : St W inj σ C V Y Z h₀ L m s.heap) (rs : Reps W Z vs ds) (hc : biD b ds = some c)
    (hp : Post W h₀ L m V Y inj Z σ (.val c) s Q) : wpAny (model W.prog W.w) A (call (biVal b) vs) Q E s := by
  have lt : ∀ p ∈ C.flatten ++ (V ++ (Y ++ Z)), p.1 < s.heap.objs.size := fun p hp => Heap.lt_size (S.news p hp).1
  cases b with
  | len =>
    refine oneE (P := fun vs => wpAny (model W.prog W.w) A (PySem.call (biVal .len) vs) Q E s) rs hc fun v d r hc => ?_
    rcases of_or hc with hc | hc
    · refine of_bindC hc fun x hx hc => r.eStr (M := fun v => wpAny (model W.prog W.w) A (PySem.call (biVal .len) [v]) Q E s) hx fun t => ?_
      obtain ⟨hl, e⟩ := of_if hc
      exact P.len_str (lim_lt hl) (hp.val S (.val (e ▸ (Rep.int _ _ : Rep W Z (.int _ _) _))))
    · refine of_bindC hc fun l hx hc => r.eList (M := fun v => wpAny (model W.prog W.w) A (PySem.call (biVal .len) [v]) Q E s) hx fun x ws k hm rr => ?_
      obtain ⟨hl, e⟩ := of_if hc
      exact len_at (S.zmem hm) rr hl fun t tk => hp.val S (.val (e ▸ (Rep.int _ _ : Rep W Z (.int _ _) _)))
  | str =>
    refine oneE (P := fun vs => wpAny (model W.prog W.w) A (PySem.call (biVal .str) vs) Q E s) rs hc fun v d r hc => of_bindC hc fun i hi hc => ?_
    obtain ⟨hl, rfl⟩ := of_if hc
    exact r.eInt (M := fun v => wpAny (model W.prog W.w) A (PySem.call (biVal .str) [v]) Q E s) hi fun t => P.str_of_int (sm_log hl) (hp.val S (.val (.str _ _)))
  | abs =>
    refine oneE (P := fun vs => wpAny (model W.prog W.w) A (PySem.call (biVal .abs) vs) Q E s) rs hc fun v d r hc => ?_
    obtain ⟨i, hi, rfl⟩ := of_map hc
    exact r.eInt (M := fun v => wpAny (model W.prog W.w) A (PySem.call (biVal .abs) [v]) Q E s) hi fun t => call_abs_int fun u tk => hp.val S (.val (.int _ _))
  | max2 =>
    refine twoE (P := fun vs => wpAny (model W.prog W.w) A (PySem.call (biVal .max2) vs) Q E s) rs hc fun v u d e r q hc => intsE (P := fun v u => wpAny (model W.prog W.w) A (PySem.call (biVal .max2) [v, u]) Q E s) r q hc fun a b t t' hc => ?_
    exact max_two_N ha S.fr S.news fun h' tk F' N' => hp.val (S.keep F' N') (.val (Option.some.inj hc ▸ .int _ _))
  | max1 => exact oneE (P := fun vs => wpAny (model W.prog W.w) A (PySem.call (biVal .max1) vs) Q E s) rs hc fun v d r hc => of_bindC hc fun l hl hc => of_bindC hc fun ns hi hc => max_at ha S r hl hi hc hp
  | ord =>
    refine oneE (P := fun vs => wpAny (model W.prog W.w) A (PySem.call (biVal .ord) vs) Q E s) rs hc fun v d r hc => of_bindC hc fun x hx hc => ?_
    obtain ⟨k, hk, hc⟩ := of_one hc
    cases hc
    obtain ⟨⟨l⟩⟩ := x
    cases (hk : l = [k])
    exact r.eStr (M := fun v => wpAny (model W.prog W.w) A (PySem.call (biVal .ord) [v]) Q E s) hx fun t => P.ord_of_char (hp.val S (.val (.int _ _)))
  | range1 =>
    refine oneE (P := fun vs => wpAny (model W.prog W.w) A (PySem.call (biVal .range1) vs) Q E s) rs hc fun v d r hc => of_bindC hc fun i hi hc => ?_
    obtain ⟨hl, rfl⟩ := of_if hc
    exact r.eInt (M := fun v => wpAny (model W.prog W.w) A (PySem.call (biVal .range1) [v]) Q E s) hi fun t => range1_rows S.fr S.news fun h' tk t₁ u₁ v₁ R F' N' k => hp.one (A := A) (σ' := σ) S tk (o := rngO _ _ _ t₁ u₁ v₁) F' (news_pushed S.fr S.news k R rfl) lt (.val (.rng List.mem_cons_self))
  | range2 =>
    refine twoE (P := fun vs => wpAny (model W.prog W.w) A (PySem.call (biVal .range2) vs) Q E s) rs hc fun v u d e r q hc => intsE (P := fun v u => wpAny (model W.prog W.w) A (PySem.call (biVal .range2) [v, u]) Q E s) r q hc fun a b t t' hc => ?_
    obtain ⟨hl, rfl⟩ := of_if hc
    exact range2_rows S.fr S.news fun h' tk t₁ u₁ v₁ R F' N' k => hp.one (A := A) (σ' := σ) S tk (o := rngO _ _ _ t₁ u₁ v₁) F' (news_pushed S.fr S.news k R rfl) lt (.val (.rng List.mem_cons_self))
  | range3 =>
    refine threeE (P := fun vs => wpAny (model W.prog W.w) A (PySem.call (biVal .range3) vs) Q E s) rs hc fun v u w d e f r q z hc => intsE (P := fun v u => wpAny (model W.prog W.w) A (PySem.call (biVal .range3) [v, u, w]) Q E s) r q hc fun a b t t' hc => of_bindC hc fun i hi hc => ?_
    obtain ⟨hl, rfl⟩ := of_if hc
    exact z.eInt (M := fun w => wpAny (model W.prog W.w) A (PySem.call (biVal .range3) [.int a t, .int b t', w]) Q E s) hi fun t3 => range3_rows S.fr S.news (Int.ne_of_gt hl.2.2.2.1) (fun h' tk t₁ u₁ v₁ R F' N' k => hp.one (A := A) (σ' := σ) S tk (o := rngO _ _ _ t₁ u₁ v₁) F' (news_pushed S.fr S.news k R rfl) lt (.val (.rng List.mem_cons_self))) (.inl (sm_div (sm_lim hl.2.2.2.2)))
  | list1 =>
    refine oneE (P := fun vs => wpAny (model W.prog W.w) A (PySem.call (biVal .list1) vs) Q E s) rs hc fun v d r hc => of_bindC hc fun l hl hc => ?_
    obtain ⟨hn, rfl⟩ := of_if hc
    refine r.eList (M := fun v => wpAny (model W.prog W.w) A (PySem.call (biVal .list1) [v]) Q E s) hl fun x ws k hm rr => list_copyK S.fr S.news (S.isList hm) (fun D c h' F' N' lt' => ?_) (by rw [List.size_toArray, rr.length, sizeLine_eq]; exact Nat.le_trans hn (by decide))
    exact hp.one (A := A) (σ' := σ) S _ (o := lstO _ c) F' N' lt' (.val (.list List.mem_cons_self (rr.mono fun _ h => List.mem_cons_of_mem _ h)))
  | sum1 =>
    refine oneE (P := fun vs => wpAny (model W.prog W.w) A (PySem.call (biVal .sum1) vs) Q E s) rs hc fun v d r hc => of_bindC hc fun l hl hc => ?_
    obtain ⟨ns, hi, rfl⟩ := of_map hc
    exact r.eList (M := fun v => wpAny (model W.prog W.w) A (PySem.call (biVal .sum1) [v]) Q E s) hl fun x ws k hm rr => sumK ha S.fr S.news (S.isList hm) (rr.ints hi) fun h' tk t' F' N' => hp.val (S.keep F' N') (.val (.int _ _))
theorem Bi.of_isLen {b : Bi} (h : b.isLen = true) : b = .len := by cases b <;> first | rfl | cases h
theorem bi_ok {b : Bi} {A : Around} {fenv : Env} {s : Shared} {Q E : Value → Shared → Prop} {vs : List Value} {as : List AV} {a : AV}
    (act : Act W n A h₀ L fenv) (S : St W inj σ C V Y Z h₀ L m s.heap) (rs : RepAs W inj Z vs as) (he : biAV σ b as = some a)
    (hp : Post W h₀ L m V Y inj Z σ a s Q) : wpAny (model W.prog W.w) A (call (biVal b) vs) Q E s := by
  obtain ⟨ds, hd, he⟩ := of_bind he
  obtain ⟨c, hc, rfl⟩ := of_map he
  rcases of_seenAs hd with hv | ⟨i, l, rfl, hb, hi, rfl⟩
  · exact biD_ok act.hd S (rs.vals hv) hc hp
  · obtain ⟨v, rfl, r⟩ := rs.of_one
    obtain ⟨x, ws, k, rfl, hx, rr⟩ := S.listAt r hi
    rw [Bi.of_isLen hb] at hc ⊢
    obtain ⟨hl, rfl⟩ := of_if (show (if l.length ≤ lim then some (D.int l.length) else none) = some c from hc)
    exact len_at hx rr hl fun t tk => hp.val S (.val (.int _ _))

theorem bi_call {b : Bi} {A : Around} {env : Env} {s : Shared} {Q E : Value → Shared → Prop} {pos : Pos} {e : Expr} {es : List Expr} (hs : starless (e :: es) = true)
    (run : wpAny (model W.prog W.w) A (spliced (backTo pos (starEach (e :: es) env))) (fun vs s₁ => wpAny (model W.prog W.w) A (PySem.call (biVal b) vs) Q E s₁) E s) :
    wpAny (model W.prog W.w) A (callWith pos (biVal b) [] (backTo pos (starEach (e :: es) env)) []) Q E s := by
  have any := starless_any (pos := pos) (env := env) hs
  rw [(starEach_cons (env := env) hs).1] at run any ⊢
  generalize starEach es env = l at run any ⊢
  clear hs
  cases b <;> first
    | exact Calls.callWith_builtin any (Calls.evalArgs_plain run)
    | exact PyProof.Rows.callWith_type any (Calls.evalArgs_plain run)
theorem SE.bi {b : Bi} {x : Str} {np pos : Pos} {e : Expr} {es : List Expr} {ts : List T} (h : SEs W n F si (e :: es) ts) (hs : starless (e :: es) = true)
    (hx : x = biName b) (hk : si.scope.names.lookup x = some .globalImplicit) (hv : nsIn W.K mainGlobals x = some none) :
    SE W n F si (.Call (.Name x np) (e :: es) [] pos) (.bi b ts) := by
  subst hx
  intro A h₀ L fenv env m s Q E inj σ C V Y Z ρ a σ' act H S he hp
  refine of_bindC he fun p v₁ he => of_mapP (K := fun a σ' => Post W h₀ L m V Y inj Z σ' a s Q) he hp fun z hz hp => ?_
  refine wpAny_Call_ofName (name_b act H S hk (bi_name b).2 hv (bi_boot b) (bi_name b).1 ?_)
  refine bi_call hs (SEs.run _ h hs act H S v₁ fun vs h' tk' inj' C' Z' S' g rs => bi_ok (s := { s with heap := h', toks := tk' }) act S' rs hz fun v h'' tk'' inj'' C'' Z'' S'' g' r => hp v h'' tk'' inj'' C'' Z'' S'' (g.trans g') r)
end
end Mine

namespace Mine
open PySem PySem.W PySem.Calls PyProof.Rows

/-- an object's own text, not a call of super -/
noncomputable def plainBase (e : Expr) : Bool := rName (fun _ _ => true) e || (rAttribute (fun _ _ _ => true) e || (rConstant (fun _ _ _ => true) e || (rSubscript (fun _ _ _ => true) e || (rJoinedStr (fun _ _ => true) e || rCall (fun _ as _ _ => l1 (fun _ _ => true) as) e))))
theorem plainBase_eq {o : Expr} {name : Str} {env : Env} {whole : Sem Value} (h : plainBase o = true) : attributeBase o name env whole = whole := by
  let M : Expr → Prop := fun o => attributeBase o name env whole = whole
  refine bOr h (of_rName (M := M) fun _ _ _ => rfl) fun h => bOr h (of_rAttribute (M := M) fun _ _ _ _ => rfl) fun h => bOr h (of_rConstant (M := M) fun _ _ _ _ => rfl) fun h =>
    bOr h (of_rSubscript (M := M) fun _ _ _ _ => rfl) fun h => bOr h (of_rJoinedStr (M := M) fun _ _ _ => rfl) (of_rCall (M := M) fun f as ks p h => ?_)
  refine of_l1 (M := fun as => attributeBase (.Call f as ks p) name env whole = whole) (fun a r _ => ?_) h
  clear M
  cases f <;> rfl

noncomputable def meT : Me → String
  | .get => "dict"
  | _ => "str"
noncomputable def meName : Me → Str
  | .ljust => "ljust" | .rjust => "rjust" | .rjustc => "rjust" | .join => "join" | .get => "get"
noncomputable def meId : Me → String
  | .ljust => "str.ljust" | .rjust => "str.rjust" | .rjustc => "str.rjust" | .join => "str.join" | .get => "dict.get"

section
variable {W : Wo} {n : Nat} {F : Fns} {si : SI} {inj : List Addr} {σ : Store} {C : List Led} {V Y Z : Led} {h₀ h h' : Heap} {L : Addr} {m m' : Str → Option Value}

theorem RepEs.look {l : List (Str × D)} (k : Str) : ∀ {es : List (Str × Value)}, RepEs W Z es l → (∀ d, lookS k l = some d → ∃ v, valueAt es k = some v ∧ Rep W Z v d) ∧ (lookS k l = none → valueAt es k = none) := by
  induction l with
  | nil => intro es r; exact r.cps (fun es => (∀ d, lookS k [] = some d → ∃ v, valueAt es k = some v ∧ Rep W Z v d) ∧ (lookS k [] = none → valueAt es k = none)) ⟨fun d h => (nomatch h), fun _ => rfl⟩
  | cons p l ih =>
    intro es r
    refine r.cps (fun es => (∀ d, lookS k (p :: l) = some d → ∃ v, valueAt es k = some v ∧ Rep W Z v d) ∧ (lookS k (p :: l) = none → valueAt es k = none)) fun v es x q => ?_
    have e1 : lookS k (p :: l) = if p.1 == k then some p.2 else lookS k l := rfl
    have e2 : valueAt ((p.1, v) :: es) k = if p.1 = k then some v else valueAt es k := by
      unfold valueAt
      rw [List.find?_cons]
      by_cases hk : p.1 = k
      · rw [if_pos hk]; simp [hk]
      · rw [if_neg hk]; simp [hk]
    dsimp only
    rw [e1, e2]
    by_cases hk : p.1 = k
    · rw [if_pos hk, if_pos (by rw [hk]; exact beq_self_eq_true k)]
      exact ⟨fun d h => ⟨v, rfl, Option.some.inj h ▸ x⟩, fun h => nomatch h⟩
    · rw [if_neg hk, if_neg fun h => hk (eq_of_beq h)]
      exact ih q
theorem meStr_slot (m : Me) (hm : m ≠ .get) : Slot "str" (meName m) (meId m) ∧ typeOf (.builtin (meId m)) = pure (.type "method_descriptor") := by
  cases m <;> first | exact (hm rfl).elim | exact ⟨PySem.F.slot_str_ljust, PySem.F.type_str_ljust⟩ | exact ⟨PySem.F.slot_str_rjust, PySem.F.type_str_rjust⟩ | exact ⟨PySem.F.slot_str_join, PySem.F.type_str_join⟩
theorem strValues_of {vs : List Value} {ss : List Str} (h : StrsAre vs ss) : ∃ l : List (Str × Tok), vs = strValues l ∧ l.map (·.1) = ss :=
  StrsAre.rec (motive := fun vs ss _ => ∃ l : List (Str × Tok), vs = strValues l ∧ l.map (·.1) = ss) ⟨[], rfl, rfl⟩ (fun y t _ _ _ ih => ih.elim fun l h => ⟨(y, t) :: l, congrArg (Value.str y t :: ·) h.1, congrArg (y :: ·) h.2⟩) h
theorem padOk_lim {i : Int} (h1 : i.natAbs ≤ lim) (h2 : -10 ≤ i) : PadOk i = true := by
  unfold PadOk fitsSsize Builtin.Str.tooLong
  rw [sizeLine_eq]
  unfold lim at h1
  simp
  omega
theorem meD_ok {k : Me} {A : Around} {s : Shared} {Q E : Value → Shared → Prop} {v : Value} {d c : D} {vs : List Value} {ds : List D} (hm : k ≠ .get) (hj : k ≠ .join)
    (S : St W inj σ C V Y Z h₀ L m s.heap) (r : Rep W Z v d) (rs : Reps W Z vs ds) (hc : meD k d ds = some c)
    (hp : Post W h₀ L m V Y inj Z σ (.val c) s Q) : wpAny (model W.prog W.w) A (PySem.call (.builtin (meId k)) (v :: vs)) Q E s := by
  cases k with
  | ljust =>
    refine of_bindC hc fun x hx hc => r.eStr (M := fun v => wpAny (model W.prog W.w) A (PySem.call (.builtin (meId .ljust)) (v :: vs)) Q E s) hx fun t => oneE (P := fun vs => wpAny (model W.prog W.w) A (PySem.call (.builtin (meId .ljust)) (.str x t :: vs)) Q E s) rs hc fun u e q hc => of_bindC hc fun i hi hc => ?_
    obtain ⟨hl, rfl⟩ := of_if hc
    exact q.eInt (M := fun u => wpAny (model W.prog W.w) A (PySem.call (.builtin (meId .ljust)) [.str x t, u]) Q E s) hi fun t' => SC.ljust (padOk_lim hl.1 hl.2) fun t tk => hp.val S (.val (.str _ _))
  | rjust =>
    refine of_bindC hc fun x hx hc => r.eStr (M := fun v => wpAny (model W.prog W.w) A (PySem.call (.builtin (meId .rjust)) (v :: vs)) Q E s) hx fun t => oneE (P := fun vs => wpAny (model W.prog W.w) A (PySem.call (.builtin (meId .rjust)) (.str x t :: vs)) Q E s) rs hc fun u e q hc => of_bindC hc fun i hi hc => ?_
    obtain ⟨hl, rfl⟩ := of_if hc
    exact q.eInt (M := fun u => wpAny (model W.prog W.w) A (PySem.call (.builtin (meId .rjust)) [.str x t, u]) Q E s) hi fun t' => SC.rjust (padOk_lim hl.1 hl.2) fun t tk => hp.val S (.val (.str _ _))
  | rjustc =>
    refine of_bindC hc fun x hx hc => r.eStr (M := fun v => wpAny (model W.prog W.w) A (PySem.call (.builtin (meId .rjustc)) (v :: vs)) Q E s) hx fun t => twoE (P := fun vs => wpAny (model W.prog W.w) A (PySem.call (.builtin (meId .rjustc)) (.str x t :: vs)) Q E s) rs hc fun u w e f q z hc => of_bindC hc fun i hi hc => of_bindC hc fun y hy hc => ?_
    obtain ⟨hl, rfl⟩ := of_if hc
    exact q.eInt (M := fun u => wpAny (model W.prog W.w) A (PySem.call (.builtin (meId .rjustc)) [.str x t, u, w]) Q E s) hi fun t' => z.eStr (M := fun w => wpAny (model W.prog W.w) A (PySem.call (.builtin (meId .rjustc)) [.str x t, .int i t', w]) Q E s) hy fun t3 => rjust_fill (padOk_lim hl.1 hl.2.1) hl.2.2 fun t tk => hp.val S (.val (.str _ _))
  | join => exact (hj rfl).elim
  | get => exact (hm rfl).elim
theorem join_at {A : Around} {s : Shared} {Q E : Value → Shared → Prop} {v : Value} {d c : D} {x : Addr} {ws : List Value} {k : Nat} {l : List D}
    (S : St W inj σ C V Y Z h₀ L m s.heap) (r : Rep W Z v d) (hx : s.heap.get? x = some (lstO ws k)) (rr : Reps W Z ws l) (hc : meD .join d [.list l] = some c)
    (hp : Post W h₀ L m V Y inj Z σ (.val c) s Q) : wpAny (model W.prog W.w) A (PySem.call (.builtin "str.join") [v, .ref x]) Q E s := by
  obtain ⟨y, hy, hc⟩ := of_bind hc
  obtain ⟨ss, hs, hc⟩ := of_bind hc
  obtain ⟨hl, rfl⟩ := of_if hc
  obtain ⟨t, rfl⟩ := str_at r hy
  obtain ⟨l', e1, e2⟩ := strValues_of (rr.strs hs)
  refine SC.join (l := l') ⟨_, hx, rfl, _, by rw [e1]⟩ e2 (joinOk_of (by unfold lim at hl; omega)) fun t tk => hp.val S (.val (.str _ _))
theorem me_ok {k : Me} {A : Around} {s : Shared} {Q E : Value → Shared → Prop} {v : Value} {d c : D} {vs : List Value} {as : List AV} {ds : List D} (hm : k ≠ .get)
    (S : St W inj σ C V Y Z h₀ L m s.heap) (r : Rep W Z v d) (rs : RepAs W inj Z vs as) (hd : seenAs σ k.isJoin as = some ds) (hc : meD k d ds = some c)
    (hp : Post W h₀ L m V Y inj Z σ (.val c) s Q) : wpAny (model W.prog W.w) A (PySem.call (.builtin (meId k)) (v :: vs)) Q E s := by
  by_cases hj : k = .join
  · subst hj
    rcases of_seenAs hd with hv | ⟨i, l, rfl, hb, hi, rfl⟩
    · obtain ⟨x, hx, h1⟩ := of_bind hc
      obtain ⟨e, rfl, h2⟩ := of_one h1
      obtain ⟨l, hl, h3⟩ := of_bind h2
      cases D.of_list hl
      obtain ⟨u, rfl, q⟩ := (rs.vals hv).of_one
      obtain ⟨y, ws, n, rfl, hm, rr⟩ := q.of_list
      exact join_at S r (S.zmem hm) rr hc hp
    · obtain ⟨u, rfl, q⟩ := rs.of_one
      obtain ⟨x, ws, n, rfl, hx, rr⟩ := S.listAt q hi
      exact join_at S r hx rr hc hp
  · rcases of_seenAs hd with hv | ⟨i, l, rfl, hb, hi, rfl⟩
    · exact meD_ok hm hj S r (rs.vals hv) hc hp
    · cases k <;> first | exact (hj rfl).elim | cases hb
theorem me_str {k : Me} {d c : D} {ds : List D} (hm : k ≠ .get) (hc : meD k d ds = some c) : ∃ x, d.str? = some x := by
  cases k with
  | get => exact (hm rfl).elim
  | _ => exact of_bindC hc fun x hx _ => ⟨x, hx⟩
/-- a method's call up to the built-in's -/
theorem method_at {A : Around} {env : Env} {s : Shared} {Q E : Value → Shared → Prop} {o : Expr} {name : Str} {apos pos : Pos} {es : List Expr} {T id : String} (hb : plainBase o = true) (hs : starless es = true) (hlen : es.length < 29) (hpos : (apos.endLine == pos.line) = true)
    (pa : PlainAttrs T) (sl : Slot T name id) (ty : typeOf (.builtin id) = pure (.type "method_descriptor"))
    (hk : wpAny (model W.prog W.w) A (eval o env) (fun ov s₁ => s₁.TypeIs ov T ∧ (∀ a, ov = .ref a → ∃ ob, s₁.heap.get? a = some ob ∧ ob.dict = none) ∧ wpAny (model W.prog W.w) A (callWith pos (.builtin id) [ov] (backTo pos (starEach es env)) []) Q E s₁) E s) :
    wpAny (model W.prog W.w) A (eval (.Call (.Attribute o name apos) es [] pos) env) Q E s := by
  refine wpAny_Call_method (plainBase_eq hb) ?_ hpos pa sl ty hk
  have h1 := starless_any (pos := pos) (env := env) hs
  have h2 : ((backTo pos (starEach es env)).all fun x => !x.1) = true := by
    rw [List.all_eq_not_any_not]
    simp only [Bool.not_not]
    rw [h1]; rfl
  rw [h2]
  exact decide_eq_true (show es.length + 0 + 0 < 30 from Nat.lt_succ_of_lt hlen)
theorem me_call (id : String) {A : Around} {env : Env} {s : Shared} {Q E : Value → Shared → Prop} {v : Value} {pos : Pos} {e : Expr} {es : List Expr} (hs : starless (e :: es) = true)
    (run : wpAny (model W.prog W.w) A (spliced (backTo pos (starEach (e :: es) env))) (fun vs s₁ => wpAny (model W.prog W.w) A (PySem.call (.builtin id) (v :: vs)) Q E s₁) E s) :
    wpAny (model W.prog W.w) A (callWith pos (.builtin id) [v] (backTo pos (starEach (e :: es) env)) []) Q E s := by
  have any := starless_any (pos := pos) (env := env) hs
  rw [(starEach_cons (env := env) hs).1] at run any ⊢
  exact Calls.callWith_builtin any (Calls.evalArgs_plain run)
theorem of_evs_one {P : Prop} {t : T} {ρ : Slots} {p : List AV × Store} (h : evs F [t] ρ σ = some p) (k : ∀ y, ev F t ρ σ = some (y, p.2) → p.1 = [y] → P) : P :=
  of_bindC h fun q v₁ h => k q.1 (by rw [v₁]; exact congrArg some (congrArg (q.1, ·) (congrArg Prod.snd (Option.some.inj h)))) (congrArg Prod.fst (Option.some.inj h)).symm
theorem SE.meth {k : Me} {o : Expr} {name : Str} {apos pos : Pos} {e : Expr} {es : List Expr} {t : T} {ts : List T} (hm : k ≠ .get) (ho : SE W n F si o t) (h : SEs W n F si (e :: es) ts) (hs : starless (e :: es) = true)
    (hn : name = meName k) (hb : plainBase o = true) (hlen : (e :: es).length < 29) (hpos : (apos.endLine == pos.line) = true) :
    SE W n F si (.Call (.Attribute o name apos) (e :: es) [] pos) (.meth k t ts) := by
  intro A h₀ L fenv env m s Q E inj σ C V Y Z ρ a σ' act H S he hp
  rw [hn]
  refine of_bindC he fun p v₁ he => of_bindC he fun q v₂ he => of_mapP (K := fun a σ' => Post W h₀ L m V Y inj Z σ' a s Q) he hp fun z hz hp => ?_
  refine of_bindC hz fun d hd hz => of_bindC hz fun ds hds hz => ?_
  obtain ⟨c, hc, hz⟩ := of_map hz
  obtain ⟨y, hy⟩ := me_str hm hc
  refine method_at hb hs hlen hpos PySem.F.plainAttrs_str (meStr_slot k hm).1 (meStr_slot k hm).2 (ho act H S v₁ fun v h' tk' inj' C' Z' S' g r => ?_)
  obtain ⟨t', e⟩ := str_at (r.at hd) hy
  have tv : Shared.TypeIs { s with heap := h', toks := tk' } v "str" := by rw [e]; exact typeIs_str _ _ _
  refine ⟨tv, (fun a e' => nomatch e.symm.trans e'), ?_⟩
  refine me_call (meId k) hs (SEs.run _ h hs act (H.mono g) S' v₂ fun vs h'' tk'' inj'' C'' Z'' S'' g' rs => me_ok (s := { s with heap := h'', toks := tk'' }) hm S'' ((r.at hd).mono g'.z) rs hds hc fun v h3 tk3 inj3 C3 Z3 S3 g3 r3 => hp v h3 tk3 inj3 C3 Z3 S3 ((g.trans g').trans g3) (hz ▸ r3))
theorem of_get {d z : D} {ds : List D} (h : meD .get d ds = some z) : X2 fun l k => A3 (d = .dict l) (ds = [.str k]) ((lookS k l).getD .none = z) := by
  obtain ⟨l, hl, h1⟩ := of_bind h
  obtain ⟨e, rfl, h2⟩ := of_one h1
  obtain ⟨k, hk, h3⟩ := of_map h2
  exact ⟨l, k, D.of_dict hl, by rw [D.of_str hk], h3⟩
theorem seen_str {k : Bool} {y : AV} {x : Str} (h : seenAs σ k [y] = some [.str x]) : y = .val (.str x) := by
  cases y with
  | val d => cases h; rfl
  | loc i =>
    cases k with
    | false => cases h
    | true =>
      obtain ⟨d, hd, h1⟩ := of_bind h
      obtain ⟨l, hl, h2⟩ := of_map h1
      cases h2
theorem get_run {A : Around} {s : Shared} {env : Env} {Q E : Value → Shared → Prop} {v : Value} {l : List (Str × D)} {k : Str} {pos : Pos} {e : Expr}
    (S : St W inj σ C V Y Z h₀ L m s.heap) (r : Rep W Z v (.dict l)) (hs : starless [e] = true)
    (he : ∀ Q' : Value → Shared → Prop, (∀ t h' tk' Z', (∀ p ∈ Z, p ∈ Z' ∧ h'.get? p.1 = some p.2) → (∀ u tk'', Rep W Z' u ((lookS k l).getD .none) → Q u { s with heap := h', toks := tk'' }) → Q' (.str k t) { s with heap := h', toks := tk' }) → wpAny (model W.prog W.w) A (eval e env) Q' E s) :
    s.TypeIs v "dict" ∧ (∀ a, v = .ref a → ∃ ob, s.heap.get? a = some ob ∧ ob.dict = none) ∧ wpAny (model W.prog W.w) A (callWith pos (.builtin "dict.get") [v] (backTo pos (starEach [e] env)) []) Q E s := by
  obtain ⟨a, o, es, rfl, hm, hd, hsys, rr⟩ := r.of_dict
  have D : s.heap.DictOf (strKind W.prog W.w) a es := Heap.dictOf_iff.mpr ⟨_, S.zmem hm, hd⟩
  refine ⟨D.typeIs, D.mapOf.noDict, ?_⟩
  obtain ⟨h1, h2⟩ := starEach_cons (env := env) hs
  rw [h1]
  refine wpAny_dict_get1 (knd := strKind W.prog W.w) hsys ?_
  refine he (fun u s₁ => ∃ k f, (strKind W.prog W.w).is k u = true ∧ s₁.heap.MapOf (strKind W.prog W.w) _ f ∧ Q ((f k).getD .none) { s₁ with toks := s₁.toks + 1 }) fun t h' tk' Z' hz q => ?_
  have D2 : Heap.DictOf (strKind W.prog W.w) h' a es := Heap.dictOf_iff.mpr ⟨_, (hz _ hm).2, hd⟩
  refine ⟨k, _, strKind_is _ _ _ _, D2.mapOf, ?_⟩
  obtain ⟨k1, k2⟩ := RepEs.look k rr
  cases hk : lookS k l with
  | none => rw [k2 hk]; exact q _ _ (by rw [hk]; exact .none)
  | some d =>
    obtain ⟨w, e1, e2⟩ := k1 d hk
    rw [e1]
    exact q _ _ (by rw [hk]; exact e2.mono fun p hp => (hz p hp).1)
theorem SE.get {o : Expr} {apos pos : Pos} {e : Expr} {t t' : T} (ho : SE W n F si o t) (h : SE W n F si e t') (hs : starless [e] = true)
    (hb : plainBase o = true) (hpos : (apos.endLine == pos.line) = true) :
    SE W n F si (.Call (.Attribute o "get" apos) [e] [] pos) (.meth .get t [t']) := by
  intro A h₀ L fenv env m s Q E inj σ C V Y Z ρ a σ' act H S he hp
  refine of_bindC he fun p v₁ he => of_bindC he fun q v₂ he => of_mapP (K := fun a σ' => Post W h₀ L m V Y inj Z σ' a s Q) he hp fun z hz hp => of_evs_one v₂ fun y v₃ e => ?_
  rw [e] at hz
  refine of_bindC hz fun d hd hz => of_bindC hz fun ds hds hz => ?_
  obtain ⟨c, hc, hz⟩ := of_map hz
  obtain ⟨l, k, e1, e2, e3⟩ := of_get hc
  rw [e2] at hds
  rw [seen_str hds] at v₃
  refine method_at hb hs (by simp) hpos PySem.F.plainAttrs_dict PySem.F.slot_dict_get PySem.F.type_dict_get (ho act H S v₁ fun v h' tk' inj' C' Z' S' g r => ?_)
  refine get_run (k := k) (s := { s with heap := h', toks := tk' }) S' (e1 ▸ r.at hd) hs fun Q' q => ?_
  refine h (s := { s with heap := h', toks := tk' }) act (H.mono g) S' v₃ fun u h'' tk'' inj'' C'' Z'' S'' g' r' => ?_
  exact r'.of_val.cps (fun u => Q' u _) fun t => q t h'' tk'' Z'' (fun p hp => ⟨g'.z p hp, S''.zmem (g'.z p hp)⟩) fun u tk3 ru => hp u h'' tk3 inj'' C'' Z'' S'' (g.trans g') (hz ▸ .val (e3 ▸ ru))
end
end Mine

namespace Mine
open PySem PySem.W PySem.Calls PyProof.Rows

/-- what is known of classes -/
structure ClsOk (W : Wo) : Prop where
  inj : ∀ a b, W.nm.an a = W.nm.an b → a = b
  get : ∀ c n, c < 3 → n < 12 → plainGet W.K (W.nm.ca c) (W.nm.an n) = true ∧ hasDictIn W.K (W.nm.ca c) = true ∧ ∃ attr, findIn W.K (.ref (W.nm.ca c)) (W.nm.an n) = some attr ∧ noGet W.K attr = true
  set : ∀ c n, c < 3 → n < 12 → findIn W.K (.ref (W.nm.ca c)) (PySem.Str.ofString "__setattr__") = some (some (.builtin "object.__setattr__")) ∧ plainOver W.K (W.nm.ca c) = true ∧ takerIn W.K (W.nm.ca c) (W.nm.an n) = some none

section
variable {W : Wo} {n : Nat} {F : Fns} {si : SI} {inj : List Addr} {σ : Store} {C : List Led} {V Y Z O : Led} {h₀ h h' : Heap} {L : Addr} {m m' : Str → Option Value}

theorem isStr_an (ci : ∀ a b, W.nm.an a = W.nm.an b → a = b) {k i : Nat} {t : Tok} : (Value.str (W.nm.an k) t).isStr (W.nm.an i) = (k == i) := by
  show (W.nm.an k == W.nm.an i) = (k == i)
  by_cases h : k = i
  · subst h; simp
  · have h2 : W.nm.an k ≠ W.nm.an i := fun e => h (ci _ _ e)
    rw [beq_eq_false_iff_ne.mpr h2, beq_eq_false_iff_ne.mpr h]
theorem KsO.look (ci : ∀ a b, W.nm.an a = W.nm.an b → a = b) {i : Nat} {l : List (Nat × D)} : ∀ {es : List DictEntry}, KsO W Z O es l → (∀ d, lookN i l = some d → ∃ v, getL (W.nm.an i) es = some (some v) ∧ RepO W Z O v d) ∧ (getL (W.nm.an i) es).isSome = true := by
  induction l with
  | nil => intro es r; exact r.cps (fun es => (∀ d, lookN i [] = some d → ∃ v, getL (W.nm.an i) es = some (some v) ∧ RepO W Z O v d) ∧ (getL (W.nm.an i) es).isSome = true) ⟨fun d h => (nomatch h), rfl⟩
  | cons p l ih =>
    intro es r
    refine r.cps (fun es => (∀ d, lookN i (p :: l) = some d → ∃ v, getL (W.nm.an i) es = some (some v) ∧ RepO W Z O v d) ∧ (getL (W.nm.an i) es).isSome = true) fun hsh t v es x q => ?_
    have hk := isStr_an ci (k := p.1) (i := i) (t := t)
    have e1 : lookN i (p :: l) = if p.1 == i then some p.2 else lookN i l := rfl
    dsimp only
    rw [e1]
    cases hki : (p.1 == i) with
    | true =>
      rw [hki] at hk
      have e : getL (W.nm.an i) (⟨hsh, .str (W.nm.an p.1) t, v⟩ :: es) = some (some v) := by
        unfold getL; rw [List.find?_cons]; simp only [hk]
      rw [e, if_pos rfl]
      exact ⟨fun d h => ⟨v, rfl, Option.some.inj h ▸ x⟩, rfl⟩
    | false =>
      rw [hki] at hk
      have e : getL (W.nm.an i) (⟨hsh, .str (W.nm.an p.1) t, v⟩ :: es) = getL (W.nm.an i) es := by
        unfold getL; rw [List.find?_cons, List.any_cons]; simp only [hk, show DictEntry.refKey ⟨hsh, .str (W.nm.an p.1) t, v⟩ = false from rfl, Bool.false_or]
      rw [e, if_neg Bool.false_ne_true]
      exact ih q
theorem KsO.put (ci : ∀ a b, W.nm.an a = W.nm.an b → a = b) {i : Nat} {hsh : Int} {t : Tok} {v : Value} {d : D} (hv : RepO W Z O v d) {l : List (Nat × D)} : ∀ {es : List DictEntry}, KsO W Z O es l → KsO W Z O (putL (W.nm.an i) hsh (.str (W.nm.an i) t) v es) (setN i d l) := by
  induction l with
  | nil => intro es r; exact r.cps (fun es => KsO W Z O (putL (W.nm.an i) hsh (.str (W.nm.an i) t) v es) (setN i d [])) (.cons hv .nil)
  | cons p l ih =>
    intro es r
    refine r.cps (fun es => KsO W Z O (putL (W.nm.an i) hsh (.str (W.nm.an i) t) v es) (setN i d (p :: l))) fun hs t' v' es x q => ?_
    have e1 : setN i d (p :: l) = if p.1 == i then (p.1, d) :: l else p :: setN i d l := rfl
    have e2 : putL (W.nm.an i) hsh (.str (W.nm.an i) t) v (⟨hs, .str (W.nm.an p.1) t', v'⟩ :: es) = if p.1 == i then ⟨hs, .str (W.nm.an p.1) t', v⟩ :: es else ⟨hs, .str (W.nm.an p.1) t', v'⟩ :: putL (W.nm.an i) hsh (.str (W.nm.an i) t) v es := by
      rw [← isStr_an ci (k := p.1) (i := i) (t := t')]; rfl
    dsimp only
    rw [e1, e2]
    cases (p.1 == i) with
    | true => rw [if_pos rfl, if_pos rfl]; exact .cons hv q
    | false => rw [if_neg Bool.false_ne_true, if_neg Bool.false_ne_true]; exact .cons x (ih q)
theorem KsO.len {l : List (Nat × D)} : ∀ {es : List DictEntry}, KsO W Z O es l → es.length = l.length := by
  induction l with
  | nil => intro es r; exact r.cps (fun es => es.length = 0) rfl
  | cons p l ih => intro es r; exact r.cps (fun es => es.length = l.length + 1) fun _ _ _ _ _ q => congrArg (· + 1) (ih q)
theorem putL_len (name : Str) (hsh : Int) (k v : Value) : ∀ es : List DictEntry, (putL name hsh k v es).length ≤ es.length + 1
  | [] => Nat.le_refl _
  | e :: r => by
    simp only [putL]
    split
    · simp
    · have := putL_len name hsh k v r; simp; omega

theorem mem_cell {q : Addr × Obj} {C₁ C₂ : List Led} {e R : Led} (h : q ∈ e) : q ∈ (C₁ ++ e :: C₂).flatten ++ R := by
  simp only [List.flatten_append, List.flatten_cons, List.mem_append]
  exact .inl (.inr (.inl h))
/-- a made object, its dict's entries -/
theorem St.instAt (S : St W inj σ C V Y Z h₀ L m h) {v : Value} {a : AV} {c : Nat} {l : List (Nat × D)} (r : RepA W inj Z v a) (hc : cellOf σ a = some (.inst c l)) :
    X5 fun x dx es k O => A3 (v = .ref x) (PySem.W.InstAt h x (instObj (W.nm.ca c) dx) (W.nm.ca c) (some (dictOf es k))) (KsO W Z O es l) := by
  cases a with
  | val d =>
    cases hc
    obtain ⟨x, dx, es, k, hv, hm, hd, q⟩ := r.of_val.of_inst
    exact ⟨x, dx, es, k, [], hv, ⟨S.zmem hm, rfl, rfl, S.zmem hd⟩, q.toO⟩
  | loc i =>
    obtain ⟨x, hv, hi⟩ := r.of_loc
    obtain ⟨C₁, e, C₂, a', hC, ha, hr, _⟩ := S.cells.split _ _ hc
    obtain ⟨dx, es, k, O, he, q⟩ := hr.of_inst
    rw [← Option.some.inj (hi.symm.trans ha)] at he
    have m := fun q (hq : q ∈ e) => (S.news q (hC ▸ mem_cell hq)).1
    rw [he] at m
    exact ⟨x, dx, es, k, O, hv, ⟨m _ (.head _), rfl, rfl, m _ (.tail _ (.head _))⟩, q⟩
theorem handed_rep {v : Value} {d : D} (r : Rep W Z v d) : handedIn v = true :=
  Rep.casesOn (motive_1 := fun v d _ => handedIn v = true) r rfl (fun _ => rfl) (fun _ _ => rfl) (fun _ _ => rfl) (fun _ _ => rfl) (fun _ _ => rfl) (fun _ _ _ _ => rfl) (fun _ _ _ => rfl) (fun _ => rfl)
theorem RepO.not_odict {v : Value} {d : D} (r : RepO W Z O v d) (h : ¬ isO d = true) : Rep W Z v d := r.cps (fun v => Rep W Z v d) ⟨fun _ r => r, fun l e => (h (by rw [e]; rfl)).elim⟩

theorem of_attr {i : Nat} {d : D} {z : AV} (hz : attrOf i d = some z) : X3 fun c l e => A5 (d = .inst c l) (¬ (3 ≤ c ∨ 12 ≤ i)) (¬ isO e = true) (lookN i l = some e) (z = .val e) := by
  obtain ⟨p, hp, hz⟩ := of_bind hz
  obtain ⟨h1, hz⟩ := of_ifnT hz
  obtain ⟨e, he, hz⟩ := of_bind hz
  obtain ⟨h2, hz⟩ := of_ifn hz
  exact ⟨p.1, p.2, e, D.of_inst hp, h1, h2, he, hz.symm⟩
theorem attr_eq {o : Expr} {nm : Str} {pos : Pos} {env : Env} (hb : plainBase o = true) : eval (.Attribute o nm pos) env = (do
    let ov ← eval o env
    standAt pos.atName
    let r ← holding [ov] (getAttr ov nm true)
    letTemporaryGo o ov r
    pure r) := by
  show (do
    let ov ← attributeBase o nm env (eval o env)
    standAt pos.atName
    let r ← holding [ov] (getAttr ov nm true)
    letTemporaryGo o ov r
    pure r) = _
  rw [plainBase_eq hb]
theorem SE.attr {o : Expr} {t : T} {name : Str} {pos : Pos} {i : Nat} (ck : ClsOk W) (ho : SE W n F si o t) (hn : name = W.nm.an i) (hb : plainBase o = true) : SE W n F si (.Attribute o name pos) (.attr t i) := by
  intro A h₀ L fenv env m s Q E inj σ C V Y Z ρ a σ' act H S he hp
  rw [hn]
  refine of_bindC he fun p v₁ he => of_bindC he fun d hc he => of_mapP (K := fun a σ' => Post W h₀ L m V Y inj Z σ' a s Q) he hp fun z hz hp => ?_
  refine Attribute_any_ (ho act H S v₁ fun v h' tk' inj' C' Z' S' g r => ?_) (attr_eq hb)
  obtain ⟨c, l, e, e1, hcn, hno, hl, e2⟩ := of_attr hz
  rw [e1] at hc
  obtain ⟨y, dx, es, k, O, e3, I, ks⟩ := S'.instAt r hc
  obtain ⟨u, h1, h2⟩ := (ks.look ck.inj).1 e hl
  obtain ⟨g1, g2, attr, g3, g4⟩ := ck.get c i (Nat.lt_of_not_le fun h => hcn (.inl h)) (Nat.lt_of_not_le fun h => hcn (.inr h))
  have h3 := h2.not_odict hno
  rw [e3]
  exact get_own (s := { s with heap := h', toks := tk' }) S'.fr act.K I g1 g2 g3 g4 h1 (handed_rep h3) (hp _ h' _ inj' C' Z' S' g (e2 ▸ .val h3))

/-- a subscript by an item -/
noncomputable def itemExpr (e : Expr) : Bool := e.ctorIdx != (Expr.Slice default default default default).ctorIdx
theorem sub_item {e : Expr} {o i : Value} (h : itemExpr e = true) : subscripted e false o i = operate [o, i] (getItem o i) := by
  cases e <;> first | rfl | exact nomatch h
theorem seqIndex_nat {k : Int} {len : Nat} (h0 : 0 ≤ k) (h1 : k.toNat < len) : seqIndex? k len = some k.toNat := by
  unfold seqIndex?
  simp only [show ¬ k < 0 by omega, if_false]
  rw [if_pos (by simp; omega)]
theorem of_ite {α : Type} {c : Prop} [Decidable c] {o : Option α} {z : α} (h : (if c then o else none) = some z) : c ∧ o = some z := by
  by_cases hc : c
  · rw [if_pos hc] at h; exact ⟨hc, h⟩
  · rw [if_neg hc] at h; cases h
theorem of_idxOf {i : Int} {l : List D} {d : D} (h : idxOf i l = some d) : 0 ≤ i ∧ i.natAbs < 1000000 ∧ l[i.toNat]? = some d := by
  obtain ⟨hk, h⟩ := of_ite h
  exact ⟨hk.1, hk.2, h⟩
theorem item_list {e i : Expr} {A : Around} {s : Shared} {Q E : Value → Shared → Prop} {x : Addr} {ws : List Value} {l : List D} {k : Int} {t : Tok} {d : D} (hi : itemExpr i = true)
    (hl : s.heap.IsList x ws.toArray) (rr : Reps W Z ws l) (hd : idxOf k l = some d) (hp : ∀ w, Rep W Z w d → Q w s) : wpAny (model W.prog W.w) A (subscriptTail e i (.ref x) (.int k t)) Q E s := by
  obtain ⟨h1, h2, h3⟩ := of_idxOf hd
  obtain ⟨w, hw, rw'⟩ := rr.at h3
  exact tail_any hl.typeIs slot_list_getitem.lookup (getItem_listL hl h1 (by omega) hw (hp w rw')) (sub_item hi)
theorem idx_val {e i : Expr} {A : Around} {s : Shared} {Q E : Value → Shared → Prop} {v : Value} {d c : D} {k : Int} {t : Tok} (hi : itemExpr i = true) (S : St W inj σ C V Y Z h₀ L m s.heap) (r : Rep W Z v d) (hd : idxD σ (.val d) k = some c)
    (fin : ∀ w tk, Rep W Z w c → Q w { s with toks := tk }) : wpAny (model W.prog W.w) A (subscriptTail e i v (.int k t)) Q E s := by
  rcases of_or hd with hd | hd
  · refine of_bindC hd fun st hs hd => r.eStr (M := fun v => wpAny (model W.prog W.w) A (subscriptTail e i v (.int k t)) Q E s) hs fun t' => ?_
    obtain ⟨hk, hd⟩ := of_ite hd
    obtain ⟨x, hx, hd⟩ := of_map hd
    have hlt : k.toNat < st.length := (Array.getElem?_eq_some_iff.mp hx).1
    refine tail_any (typeIs_str _ _ _) PySem.F.slot_str_getitem.lookup (PySem.P.getItem_str ?_ ?_ (fin _ _ (hd ▸ (Rep.str _ _ : Rep W Z (.str ⟨#[x]⟩ _) _)))) (sub_item hi)
    · clear fin S r hd; unfold lim at hk; simp; omega
    · rw [seqIndex_nat hk.1 hlt]; exact hx
  · rcases of_or hd with hd | hd
    · refine of_bindC hd fun l hl hd => r.eTup (M := fun v => wpAny (model W.prog W.w) A (subscriptTail e i v (.int k t)) Q E s) hl fun a ws j hm rr => ?_
      obtain ⟨h1, h2, h3⟩ := of_idxOf hd
      obtain ⟨w, hw, rw'⟩ := rr.at h3
      have hlt : k.toNat < l.length := (List.getElem?_eq_some_iff.mp h3).1
      have h4 : -(2 ^ 63 : Int) ≤ k ∧ k < 2 ^ 63 := by clear fin S r hd; omega
      exact item_tupleT (S.isTup hm) (by omega) (by omega) (by rw [rr.length]; exact seqIndex_nat h1 hlt) hw (fin w _ rw') (sub_item hi)
    · refine of_bindC hd fun l hl hd => r.eList (M := fun v => wpAny (model W.prog W.w) A (subscriptTail e i v (.int k t)) Q E s) hl fun a ws j hm rr => ?_
      exact item_list hi (S.isList hm) rr hd fun w rw' => fin w _ rw'
theorem idx_ok {e i : Expr} {A : Around} {fenv : Env} {s : Shared} {Q E : Value → Shared → Prop} {v u : Value} {x y z : AV} (hi : itemExpr i = true)
    (act : Act W n A h₀ L fenv) (S : St W inj σ C V Y Z h₀ L m s.heap) (r : RepA W inj Z v x) (q : RepA W inj Z u y) (he : idxAV σ x y = some z)
    (hp : Post W h₀ L m V Y inj Z σ z s Q) : wpAny (model W.prog W.w) A (subscriptTail e i v u) Q E s := by
  refine of_bindC he fun k hk he => q.eInt (M := fun u => wpAny (model W.prog W.w) A (subscriptTail e i v u) Q E s) hk fun t => ?_
  obtain ⟨c, hc, hz⟩ := of_map he
  have fin : ∀ w tk, Rep W Z w c → Q w { s with toks := tk } := fun w tk rw' => hp.val S (hz ▸ .val rw')
  cases x with
  | val d => exact idx_val hi S r.of_val hc fin
  | loc j =>
    obtain ⟨l, hl, hd⟩ := of_bind hc
    obtain ⟨a, ws, j, hv, ha, rr⟩ := S.listAt r (of_listOf hl)
    rw [hv]
    exact item_list hi ⟨_, ha, rfl, _, rfl⟩ rr hd fun w rw' => fin w _ rw'
theorem SE.idx {o i : Expr} {t t' : T} {pos : Pos} (ho : SE W n F si o t) (hi : SE W n F si i t') (hx : itemExpr i = true) : SE W n F si (.Subscript o i pos) (.idx t t') := by
  intro A h₀ L fenv env m s Q E inj σ C V Y Z ρ a σ' act H S he hp
  refine of_bindC he fun p v₁ he => of_bindC he fun q v₂ he => of_mapP (K := fun a σ' => Post W h₀ L m V Y inj Z σ' a s Q) he hp fun z hz hp => ?_
  refine Subscript_ (SE.two ho hi act H S v₁ v₂ fun v u h' tk' inj' C' Z' S' g r q => ?_)
  exact idx_ok (s := { s with heap := h', toks := tk' }) hx act S' r q hz fun v h'' tk'' inj'' C'' Z'' S'' g' r' => hp v h'' tk'' inj'' C'' Z'' S'' (g.trans g') r'
end
end Mine

namespace Mine
open PySem PySem.W PySem.Calls PyProof.Rows

/-- a bound that may be left out -/
noncomputable def SEo (W : Wo) (n : Nat) (F : Fns) (si : SI) : Option Expr → T → Prop
  | none, t => t = .c .none
  | some e, t => SE W n F si e t

section
variable {W : Wo} {n : Nat} {F : Fns} {si : SI} {inj : List Addr} {σ : Store} {C : List Led} {V Y Z O : Led} {h₀ h h' : Heap} {L : Addr} {m m' : Str → Option Value}

theorem SEo.run {A : Around} {fenv env : Env} {s : Shared} {Q E : Value → Shared → Prop} {ρ : Slots} {e : Option Expr} {t : T} {a : AV} {σ' : Store} (h : SEo W n F si e t) (act : Act W n A h₀ L fenv) (H : EH W si env h₀ L m V Y inj Z ρ) (S : St W inj σ C V Y Z h₀ L m s.heap)
    (he : ev F t ρ σ = some (a, σ')) (hp : Post W h₀ L m V Y inj Z σ' a s Q) : wpAny (model W.prog W.w) A (evalPart e env) Q E s := by
  cases e with
  | none =>
    cases (show t = .c .none from h)
    exact wpAny_evalPart_none (Post.val (of_someP (K := fun a σ' => Post W h₀ L m V Y inj Z σ' a s Q) he hp) S (.val .none))
  | some e => exact SE.out h act H S he hp
where
  SE.out {e : Expr} {t : T} (h : SE W n F si e t) {A : Around} {fenv env : Env} {s : Shared} {Q E : Value → Shared → Prop} {ρ : Slots} {a : AV} {σ' : Store} (act : Act W n A h₀ L fenv) (H : EH W si env h₀ L m V Y inj Z ρ) (S : St W inj σ C V Y Z h₀ L m s.heap)
    (he : ev F t ρ σ = some (a, σ')) (hp : Post W h₀ L m V Y inj Z σ' a s Q) : wpAny (model W.prog W.w) A (evalPart (some e) env) Q E s := wpAny_evalPart_some (h act H S he hp)
theorem part_of {v : Value} {a : AV} {lo : Option Int} (r : RepA W inj Z v a) (h : partOf a = some lo) : IsPart v lo ∧ ∃ p : Option (Int × Tok), v = partValue p ∧ p.map (·.1) = lo := by
  refine of_bindC h fun d hd h => of_condC h (fun hn h => ?_) fun _ h => ?_
  · rw [← Option.some.inj h]
    rw [(D.of_isNone hn ▸ r.at hd : Rep W Z v .none).of_none]
    exact ⟨.none, none, rfl, rfl⟩
  · obtain ⟨i, hi, h⟩ := of_map h
    rw [← h]
    exact (r.at hd).eInt (M := fun v => IsPart v (some i) ∧ ∃ p : Option (Int × Tok), v = partValue p ∧ p.map (·.1) = some i) hi fun t => ⟨.int _ _, some (i, t), rfl, rfl⟩
/-- no temporary that the interpreter lets go -/
theorem cut_reps {lo hi : Option Int} {vs : List Value} {ds : List D} (r : Reps W Z vs ds) : Reps W Z (kms_pick vs lo hi) (cut lo hi ds) := by
  unfold kms_pick cut
  rw [r.length]
  exact (r.drop _).take _

theorem three_ev {A : Around} {fenv env : Env} {s : Shared} {E : Value → Shared → Prop} {ρ : Slots} {o : Expr} {lo hi : Option Expr} {t tl th : T} {x y z : AV} {σ₁ σ₂ σ₃ : Store} {Q : Value → Value → Value → Shared → Prop} (ho : SE W n F si o t) (hl : SEo W n F si lo tl) (hh : SEo W n F si hi th)
    (act : Act W n A h₀ L fenv) (H : EH W si env h₀ L m V Y inj Z ρ) (S : St W inj σ C V Y Z h₀ L m s.heap) (v₁ : ev F t ρ σ = some (x, σ₁)) (v₂ : ev F tl ρ σ₁ = some (y, σ₂)) (v₃ : ev F th ρ σ₂ = some (z, σ₃))
    (k : ∀ v u w h' tk' inj' C' Z', St W inj' σ₃ C' V Y Z' h₀ L m h' → Grow inj inj' Z Z' → RepA W inj' Z' v x → RepA W inj' Z' u y → RepA W inj' Z' w z → Q v u w { s with heap := h', toks := tk' }) :
    wpAny (model W.prog W.w) A (eval o env) (fun v s₁ => wpAny (model W.prog W.w) A (evalPart lo env) (fun u s₂ => wpAny (model W.prog W.w) A (evalPart hi env) (fun w s₃ => Q v u w s₃) E s₂) E s₁) E s := by
  refine ho act H S v₁ fun v h' tk' inj' C' Z' S' g r => ?_
  refine hl.run (s := { s with heap := h', toks := tk' }) act (H.mono g) S' v₂ fun u h2 tk2 inj2 C2 Z2 S2 g2 r2 => ?_
  refine hh.run (s := { s with heap := h2, toks := tk2 }) act ((H.mono g).mono g2) S2 v₃ fun w h3 tk3 inj3 C3 Z3 S3 g3 r3 => ?_
  exact k v u w h3 tk3 inj3 C3 Z3 S3 ((g.trans g2).trans g3) ((r.mono g2.z g2.inj).mono g3.z g3.inj) (r2.mono g3.z g3.inj) r3
theorem sl_tail {A : Around} {s : Shared} {Q E : Value → Shared → Prop} {o : Expr} {lo hi : Option Expr} {p : Pos} {v u w : Value} {d c : D} {l1 l2 : Option Int} (S : St W inj σ C V Y Z h₀ L m s.heap) (r : Rep W Z v d) (ru : IsPart u l1 ∧ ∃ p : Option (Int × Tok), u = partValue p ∧ p.map (·.1) = l1) (rw' : IsPart w l2 ∧ ∃ p : Option (Int × Tok), w = partValue p ∧ p.map (·.1) = l2) (hc : slD d l1 l2 = some c)
    (fin : ∀ v' h' tk' Z', St W inj σ C V Y Z' h₀ L m h' → Grow inj inj Z Z' → Rep W Z' v' c → Q v' { s with heap := h', toks := tk' }) :
    wpAny (model W.prog W.w) A (subscriptTail o (.Slice lo hi none p) v (.ref s.heap.objs.size)) Q E { s with heap := s.heap.push { cls := .type "slice", data := .fields #[u, w, .none] } } := by
  have F1 : Fr h₀ L (s.heap.push { cls := .type "slice", data := .fields #[u, w, .none] }) m := S.fr.push _
  have N1 := fun q hq => (⟨Heap.get?_push_of_some _ (S.news q hq).1, (S.news q hq).2⟩ : (s.heap.push { cls := .type "slice", data := .fields #[u, w, .none] }).get? q.1 = some q.2 ∧ q.1 ≠ L ∧ h₀.get? q.1 = none)
  have hsl : (s.heap.push { cls := .type "slice", data := .fields #[u, w, .none] }).get? s.heap.objs.size = some { cls := .type "slice", data := .fields #[u, w, .none] } := Heap.get?_push_size _ rfl
  revert F1 N1 hsl
  generalize s.heap.push { cls := .type "slice", data := .fields #[u, w, .none] } = hh
  generalize s.heap.objs.size = sa
  intro F1 N1 hsl
  have S1 := S.keep F1 N1
  obtain ⟨i1, p1, e1, e2⟩ := ru
  obtain ⟨i2, p2, e3, e4⟩ := rw'
  rcases of_or hc with hc | hc
  · refine of_bindC hc fun st hs hc => r.eStr (M := fun v => wpAny (model W.prog W.w) A (subscriptTail o (.Slice lo hi none p) v (.ref sa)) Q E { s with heap := hh }) hs fun tt => ?_
    obtain ⟨hlen, e5⟩ := of_if hc
    refine tail_any (typeIs_str _ _ _) PySem.F.slot_str_getitem.lookup (wpAny_getItem_str_slice (l := p1) (u := p2) (st := none) ⟨_, hsl, rfl, by rw [e1, e3]; rfl⟩ rfl ?_) rfl
    subst e2 e4
    refine post_val_or_str ⟨Nat.le_trans (PySem.Txt.slice_le st _ _) (by rw [sizeLine_eq]; exact Nat.le_trans hlen (by decide)), fun t' k => ?_⟩
    exact fin _ _ k Z S1 Grow.rfl (e5 ▸ .str _ _)
  · refine of_bindC hc fun ds hs hc => r.eList (M := fun v => wpAny (model W.prog W.w) A (subscriptTail o (.Slice lo hi none p) v (.ref sa)) Q E { s with heap := hh }) hs fun ax vs kk hm rr => ?_
    obtain ⟨hlen, e5⟩ := of_if hc
    have hl1 := S1.isList hm
    refine tail_any hl1.typeIs slot_list_getitem.lookup (wpAny_getItem_list_slice (lo := l1) (hi := l2) (st := none) hl1 ⟨_, hsl, rfl, rfl⟩ i1 i2 .none (by simp) ?_ (by rw [List.size_toArray, rr.length, sizeLine_eq]; exact Nat.le_trans hlen (by decide))) rfl
    rw [kms_pick_eq vs.toArray, List.toList_toArray]
    have S2 := S1.alloc (o := lstO (kms_pick vs l1 l2) 0) (F1.push _) (News.push F1 N1 (lstO (kms_pick vs l1 l2) 0)) fun q hq => Heap.lt_size (N1 q hq).1
    exact fin _ _ s.toks _ S2 Grow.cons (e5 ▸ .list List.mem_cons_self ((cut_reps rr).mono fun _ h => List.mem_cons_of_mem _ h))
theorem SE.sl {o : Expr} {lo hi : Option Expr} {t tl th : T} {p pos : Pos} (ho : SE W n F si o t) (hl : SEo W n F si lo tl) (hh : SEo W n F si hi th) : SE W n F si (.Subscript o (.Slice lo hi none p) pos) (.sl t tl th) := by
  intro A h₀ L fenv env m s Q E inj σ C V Y Z ρ a σ' act H S he hp
  refine of_bindC he fun x v₁ he => of_bindC he fun y v₂ he => of_bindC he fun z v₃ he => of_mapP (K := fun a σ' => Post W h₀ L m V Y inj Z σ' a s Q) he hp fun q hq hp => ?_
  refine Subscript_ (wpAny_mono (three_ev (Q := fun v u w s₃ => wpAny (model W.prog W.w) A (subscriptTail o (.Slice lo hi none p) v (.ref s₃.heap.objs.size)) Q E { s₃ with heap := s₃.heap.push { cls := .type "slice", data := .fields #[u, w, .none] } }) ho hl hh act H S v₁ v₂ v₃ fun v u w h' tk' inj' C' Z' S' g r ru rw' => ?_)
    (fun v s₁ k => wpAny_Slice (wpAny_mono k (fun u s₂ k => wpAny_mono k (fun w s₃ k => wpAny_evalPart_none k) fun _ _ x => x) fun _ _ x => x)) fun _ _ x => x)
  obtain ⟨d, hd, hq⟩ := of_bind hq
  obtain ⟨l1, h1, hq⟩ := of_bind hq
  obtain ⟨l2, h2, hq⟩ := of_bind hq
  obtain ⟨c, hc, hq⟩ := of_map hq
  exact sl_tail S' (r.at hd) (part_of ru h1) (part_of rw' h2) hc fun v' h'' tk'' Z'' S'' g'' r'' => hp v' h'' tk'' inj' C' Z'' S'' (g.trans g'') (hq ▸ .val r'')

/-- a field of an f-string -/
theorem seen_val {y : AV} {d : D} (h : seenAs σ false [y] = some [d]) : y = .val d := by
  cases y with
  | val d => cases h; rfl
  | loc i => cases h
theorem SE.fmt {e : Expr} {t : T} {pos : Pos} (h : SE W n F si e t) : SE W n F si (.FormattedValue e (-1) none pos) (.bi .str [t]) := by
  intro A h₀ L fenv env m s Q E inj σ C V Y Z ρ a σ' act H S he hp
  refine of_bindC he fun p v₁ he => of_mapP (K := fun a σ' => Post W h₀ L m V Y inj Z σ' a s Q) he hp fun z hz hp => of_evs_one v₁ fun y v₂ e => ?_
  rw [e] at hz
  refine wpAny_FormattedValue_plain (h act H S v₂ fun v h' tk' inj' C' Z' S' g r => ?_)
  refine of_bindC hz fun ds hd hz => ?_
  obtain ⟨c, hc, hz⟩ := of_map hz
  obtain ⟨d, e2, hc⟩ := of_one hc
  obtain ⟨i, hi, hc⟩ := of_bind hc
  obtain ⟨hl, e3⟩ := of_if hc
  rw [e2] at hd
  rw [seen_val hd] at r
  exact r.of_val.eInt (M := fun v => wpAny (model W.prog W.w) A (formatField v Str.empty) Q E { s with heap := h', toks := tk' }) hi fun tt => wpAny_formatField_int (sm_log hl) (hp _ _ _ inj' C' Z' S' g (hz ▸ .val (e3 ▸ .str _ _)))
end
end Mine

namespace Mine
open PySem PySem.W PySem.Calls PyProof.Rows

section
variable {W : Wo} {n : Nat} {F : Fns} {si : SI} {inj : List Addr} {σ : Store} {C : List Led} {V Y Z O : Led} {h₀ h h' : Heap} {L : Addr} {m m' : Str → Option Value}

theorem lenApp (a b : Str) : (a ++ b).length = a.length + b.length := Str.length_append a b
/-- the parts of an f-string -/
theorem joins_ok {A : Around} {fenv env : Env} {E : Value → Shared → Prop} {ρ : Slots} (es : List Expr) : ∀ {ts : List T} {s : Shared} {inj : List Addr} {σ : Store} {C : List Led} {Z : Led} {as : List AV} {ds : List D} {ss : List Str} {σ' : Store} {acc : Str} {Q : Str → Shared → Prop},
    SEs W n F si es ts → Act W n A h₀ L fenv → EH W si env h₀ L m V Y inj Z ρ → St W inj σ C V Y Z h₀ L m s.heap → evs F ts ρ σ = some (as, σ') → vals? as = some ds → strs? ds = some ss → acc.length + (ss.map (·.length)).sum ≤ lim →
    (∀ h' tk' inj' C' Z', St W inj' σ' C' V Y Z' h₀ L m h' → Grow inj inj' Z Z' → Q (ss.foldl (· ++ ·) acc) { s with heap := h', toks := tk' }) →
    Joins (model W.prog W.w) A E (evalEach es env) acc Q s := by
  induction es with
  | nil =>
    intro ts s inj σ C Z as ds ss σ' acc Q h act H S he hv hs _ hq
    cases ts with
    | cons _ _ => exact h.elim
    | nil => cases he; cases hv; cases hs; exact Joins_nil (hq s.heap s.toks inj C Z S Grow.rfl)
  | cons e es ih =>
    intro ts s inj σ C Z as ds ss σ' acc Q h act H S he hv hs hlen hq
    cases ts with
    | nil => exact h.elim
    | cons t ts =>
      obtain ⟨p, v₁, he⟩ := of_bind he
      obtain ⟨q, v₂, he⟩ := of_map he
      have e1 : p.1 :: q.1 = as := congrArg Prod.fst he
      have e2 : q.2 = σ' := congrArg Prod.snd he
      rw [← e1] at hv
      rw [← e2] at hq
      obtain ⟨d, hd, hv⟩ := of_bind hv
      obtain ⟨ds', hv', hv⟩ := of_map hv
      rw [← hv] at hs
      obtain ⟨st, hst, hs⟩ := of_bind hs
      obtain ⟨ss', hs', hs⟩ := of_map hs
      rw [← hs] at hlen hq
      rw [List.map_cons, List.sum_cons, ← Nat.add_assoc, ← lenApp] at hlen
      refine Joins_cons (h.1 act H S v₁ fun v h' tk' inj' C' Z' S' g r => (r.at hd).eStr (M := fun v => ∃ x t, v = .str x t ∧ (acc ++ x).length ≤ sizeLine ∧ Joins (model W.prog W.w) A E (evalEach es env) (acc ++ x) Q { s with heap := h', toks := tk' }) hst fun t' => ⟨_, _, rfl, ?_, ?_⟩)
      · rw [sizeLine_eq]; exact Nat.le_trans (Nat.le_trans (Nat.le_add_right _ _) hlen) (by decide)
      · exact ih (s := { s with heap := h', toks := tk' }) h.2 act (H.mono g) S' v₂ hv' hs' hlen fun h'' tk'' inj'' C'' Z'' S'' g' => hq h'' tk'' inj'' C'' Z'' S'' (g.trans g')
theorem foldl_len (ss : List Str) : ∀ acc : Str, (ss.foldl (· ++ ·) acc).length = acc.length + (ss.map (·.length)).sum := by
  induction ss with
  | nil => intro acc; simp
  | cons a r ih => intro acc; simp only [List.foldl_cons, List.map_cons, List.sum_cons]; rw [ih, lenApp]; omega
theorem SE.fs {e₁ e₂ : Expr} {es : List Expr} {ts : List T} {pos : Pos} (h : SEs W n F si (e₁ :: e₂ :: es) ts) : SE W n F si (.JoinedStr (e₁ :: e₂ :: es) pos) (.fs ts) := by
  intro A h₀ L fenv env m s Q E inj σ C V Y Z ρ a σ' act H S he hp
  refine of_bindC he fun p v₁ he => of_bindC he fun ss hs he => of_bindC hs fun ds hd hs => of_ifC he fun hl he => ?_
  have hp := of_someP (K := fun a σ' => Post W h₀ L m V Y inj Z σ' a s Q) he hp
  have e0 : Str.empty.length = 0 := rfl
  refine wpAny_JoinedStr (joins_ok _ h act H S v₁ hd hs (by rw [e0, Nat.zero_add]; exact hl) fun h' tk' inj' C' Z' S' g => ?_)
  refine ⟨?_, hp _ h' _ inj' C' Z' S' g (.val (.str _ _))⟩
  rw [foldl_len, e0, sizeLine_eq, Nat.zero_add]
  exact Nat.le_trans hl (by decide)

/-! a callee's cells behind it -/
theorem flatten_split {C : List Led} (b : Nat) : C.flatten = (C.take b).flatten ++ (C.drop b).flatten := by
  rw [← List.flatten_append, List.take_append_drop]
theorem nodup_apart {X₁ X₂ V : Led} (h : ((X₁ ++ X₂ ++ V).map (·.1)).Nodup) : (∀ p ∈ X₁ ++ V, ∀ q ∈ X₂, p.1 ≠ q.1) ∧ ((X₁ ++ V).map (·.1)).Nodup := by
  simp only [List.map_append, List.nodup_append, List.mem_append, List.mem_map, ne_eq] at h ⊢
  obtain ⟨⟨h1, h2, h3⟩, h4, h5⟩ := h
  refine ⟨fun p hp q hq e => ?_, h1, h4, fun a ha b hb => h5 a (.inl ha) b hb⟩
  rcases hp with hp | hp
  · exact h3 p.1 ⟨p, hp, rfl⟩ q.1 ⟨q, hq, rfl⟩ e
  · exact h5 q.1 (.inr ⟨q, hq, rfl⟩) p.1 ⟨p, hp, rfl⟩ e.symm
theorem RepO.thaw {Z' : Led} (hz : ∀ p ∈ Z, p ∈ Z') (ho : ∀ p ∈ O, p ∈ Z') {v : Value} {d : D} (r : RepO W Z O v d) : Rep W Z' v (thawD d) :=
  r.cps (fun v => Rep W Z' v (thawD d)) ⟨fun v r => by rw [r.thawD]; exact r.mono hz, fun l e a o es hm hd hs r => e ▸ .dict (ho _ hm) hd hs (r.mono hz)⟩
theorem KsO.thaw {Z' : Led} (hz : ∀ p ∈ Z, p ∈ Z') (ho : ∀ p ∈ O, p ∈ Z') {l : List (Nat × D)} : ∀ {es : List DictEntry}, KsO W Z O es l → RepKs W Z' es (l.map fun p => (p.1, thawD p.2)) := by
  induction l with
  | nil => intro es r; exact r.cps (fun es => RepKs W Z' es []) .nil
  | cons p l ih => intro es r; exact r.cps (fun es => RepKs W Z' es ((p :: l).map fun p => (p.1, Mine.thawD p.2))) fun h t v es a q => .cons (a.thaw hz ho) (ih q)
theorem CellRep.frz {Z' e : Led} {c d : D} {a : Addr} (hz : ∀ p ∈ Z, p ∈ Z') (he : ∀ p ∈ e, p ∈ Z') (r : CellRep W Z c a e) (h : frzD c = some d) : Rep W Z' (.ref a) d :=
  CellRep.casesOn (motive := fun c a e _ => (∀ p ∈ e, p ∈ Z') → frzD c = some d → Rep W Z' (.ref a) d) r (fun r he h => Option.some.inj h ▸ .list (he _ (.head _)) (r.mono hz)) (fun r he h => Option.some.inj h ▸ .inst (he _ (.head _)) (he _ (.tail _ (.head _))) (r.thaw hz fun p hp => he _ (.tail _ (.tail _ hp)))) (fun he h => nomatch h) he h
theorem Cells.at {σ : Store} {inj : List Addr} {C : List Led} (k : Cells W Z σ inj C) {i : Nat} {c : D} (h : σ[i]? = some c) : X2 fun a e => A3 (inj[i]? = some a) (C[i]? = some e) (CellRep W Z c a e) := by
  induction k generalizing i with
  | nil => simp at h
  | cons x r ih =>
    cases i with
    | zero => simp at h; subst h; exact ⟨_, _, rfl, rfl, x⟩
    | succ i => simp only [List.getElem?_cons_succ] at h ⊢; exact ih h
/-- the cells above b put into the frozen part -/
theorem St.sink (S : St W inj σ C V Y Z h₀ L m h) (b : Nat) : St W (inj.take b) (σ.take b) (C.take b) V Y ((C.drop b).flatten ++ Z) h₀ L m h := by
  have nd := S.nd
  rw [flatten_split b] at nd
  obtain ⟨h1, h2⟩ := nodup_apart nd
  refine ⟨S.fr, fun p hp => S.news p ?_, h2, fun p hp q hq => ?_, fun p hp q hq => ?_, (S.cells.take b).mono fun p hp => List.mem_append.mpr (.inr hp)⟩
  · rw [flatten_split b]
    simp only [List.mem_append] at hp ⊢
    rcases hp with h | h | h | h | h <;> simp [h]
  · have hp' : p ∈ C.flatten ++ V := by
      rw [flatten_split b]
      simp only [List.mem_append] at hp ⊢
      rcases hp with h | h <;> simp [h]
    simp only [List.mem_append] at hq
    rcases hq with h | h | h
    · exact S.ap p hp' q (by simp [h])
    · exact h1 p hp q h
    · exact S.ap p hp' q (by simp [h])
  · rcases List.mem_append.mp hq with h | h
    · exact fun e => S.ap q (by rw [flatten_split b]; simp [h]) p (by simp [hp]) e.symm
    · exact S.ay p hp q h
theorem drop_mem {C : List Led} {i b : Nat} {e : Led} (hb : b ≤ i) (he : C[i]? = some e) : ∀ p ∈ e, p ∈ (C.drop b).flatten := by
  intro p hp
  refine List.mem_flatten.mpr ⟨e, ?_, hp⟩
  refine List.mem_of_getElem? (i := i - b) ?_
  rw [List.getElem?_drop, show b + (i - b) = i by omega]
  exact he
theorem St.settle (S : St W inj σ C V Y Z h₀ L m h) {b : Nat} {v : Value} {a a' : AV} {σ' : Store} (r : RepA W inj Z v a) (hs : Mine.settle b a σ = some (a', σ')) :
    St W (inj.take b) σ' (C.take b) V Y ((C.drop b).flatten ++ Z) h₀ L m h ∧ RepA W (inj.take b) ((C.drop b).flatten ++ Z) v a' := by
  cases a with
  | val d => cases hs; exact ⟨S.sink b, .val (r.of_val.mono fun p hp => List.mem_append_right _ hp)⟩
  | loc i =>
    obtain ⟨hi, hs⟩ := of_ifnT hs
    obtain ⟨c, hc, hs⟩ := of_bind hs
    obtain ⟨d, hd, hs⟩ := of_map hs
    obtain ⟨y, hv, hl⟩ := r.of_loc
    obtain ⟨x, e, h1, h2, h3⟩ := S.cells.at hc
    cases hs
    refine ⟨S.sink b, ?_⟩
    rw [hv, Option.some.inj (hl.symm.trans h1)]
    exact .val (h3.frz (fun p hp => List.mem_append_right _ hp) (fun p hp => List.mem_append_left _ (drop_mem (Nat.le_of_not_lt hi) h2 p hp)) hd)
theorem SE.new {x : Str} {np pos : Pos} {es : List Expr} {ts : List T} {c : Nat} (ok : CallOk W n F) (h : SEs W n F si es ts) (hs : starless es = true)
    (hk : si.scope.names.lookup x = some .globalImplicit) (hd : (x == ("__debug__" : Str)) = false) (hv : nsIn W.K mainGlobals x = some (some (.ref (W.nm.fa (1000 + c))))) (hkeep : keepIn W.K (.ref (W.nm.fa (1000 + c))) = true) :
    SE W n F si (.Call (.Name x np) es [] pos) (.new c ts) := by
  intro A h₀ L fenv env m s Q E inj σ C V Y Z ρ a σ' act H S he hp
  -- the arguments' cells are there before the call: the prefix of inj
  refine of_bindC he fun p v₁ he => of_bindC he fun q v₂ he => call_gen h hs act H S hk hd hv hkeep v₁ fun vs h' tk' inj' C' Z' S' g rs => ok (1000 + c) (s := { s with heap := h', toks := tk' }) act S' rs v₂ fun v h'' tk'' inj'' C'' Z'' S'' g' r => ?_
  obtain ⟨S3, r3⟩ := S''.settle r he
  have e1 : inj'.length = p.2.length := S'.cells.len.1
  obtain ⟨⟨x, hx⟩, hz⟩ := g'
  have e2 : inj''.take p.2.length = inj' := by rw [hx, ← e1, List.take_left]
  rw [e2] at S3 r3
  exact hp v h'' tk'' inj' _ _ S3 (g.trans ⟨⟨[], (List.append_nil _).symm⟩, fun p hp => List.mem_append_right _ (hz p hp)⟩) r3
end
end Mine

namespace Mine
open PySem PySem.W PySem.Calls PyProof.Rows

structure SrcOk (W : Wo) (Z : Led) (A : Around) (ds : List D) (I : Addr) (fp : List Addr) (R : Nat → Heap → Prop) : Prop where
  walks : Walks W.prog W.w A I fp [I] ds.length (fun i v => ∃ d, ds[i]? = some d ∧ Rep W Z v d) R
  hI : ∀ i h, R i h → ∃ o, h.get? I = some o
  hSt : ∀ i h h' o, R i h → h.get? I = some o → h'.get? I = some o → (∀ p ∈ Z, h'.get? p.1 = some p.2) → R i h'
  fp : ∀ b ∈ fp, b = I ∨ ∃ o, (b, o) ∈ Z

theorem walks_mono {prog : Program} {w : World} {A : Around} {I : Addr} {fp wr : List Addr} {n n' : Nat} {P P' : Nat → Value → Prop} {R : Nat → Heap → Prop} (W : Walks prog w A I fp wr n P R) (hn : n = n') (h : ∀ i v, i < n → P i v → P' i v) : Walks prog w A I fp wr n' P' R := by
  subst hn
  exact { sub := W.sub, frame := W.frame, done := W.done, self := W.self, item := fun i s Q E hi st hQ => W.item i s Q E hi st fun v h' tk hP => hQ v h' tk (h i v hi hP) }

section
variable {W : Wo} {n : Nat} {F : Fns} {si : SI} {inj : List Addr} {σ : Store} {C : List Led} {V Y Z O : Led} {h₀ h h' : Heap} {L : Addr} {m m' : Str → Option Value}

theorem rangeL_get : ∀ (n i : Nat) (a c : Int), i < n → (rangeL a c n)[i]? = some (.int (a + i * c))
  | n + 1, 0, a, c, _ => by simp [rangeL]
  | n + 1, i + 1, a, c, h => by
    simp only [rangeL, List.getElem?_cons_succ]
    rw [rangeL_get n i (a + c) c (by omega)]
    congr 2
    push_cast
    rw [Int.add_mul]; omega
theorem rangeL_len : ∀ (n : Nat) (a c : Int), (rangeL a c n).length = n
  | 0, _, _ => rfl
  | n + 1, a, c => congrArg (· + 1) (rangeL_len n (a + c) c)
theorem range_fit {a b c : Int} (h : -10 ≤ a ∧ a.natAbs ≤ lim ∧ b.natAbs ≤ lim ∧ 0 < c ∧ c.natAbs ≤ lim) : Builtin.Range.small a b c = true ∧ Builtin.Range.rangeSize a b c = (rangeN a b c : Int) := by
  unfold lim at h
  have key : 0 ≤ Builtin.Range.rangeSize a b c ∧ Builtin.Range.rangeSize a b c ≤ 3000000 := by
    unfold Builtin.Range.rangeSize
    rw [if_pos (by omega)]
    split
    · have h1 : 0 ≤ (b - a - 1) / c := Int.ediv_nonneg (by omega) (by omega)
      have h2 : (b - a - 1) / c ≤ b - a - 1 := Int.ediv_le_self _ (by omega)
      omega
    · omega
  refine ⟨?_, by unfold rangeN; omega⟩
  unfold Builtin.Range.small
  simp only [Builtin.Range.rangeFitsLong, Bool.and_eq_true, Bool.or_eq_true, decide_eq_true_eq, beq_iff_eq, show c > 0 from by omega, if_true]
  omega

/-- the iterator of a source -/
theorem iter_src {A : Around} {s : Shared} {Q : Value → Shared → Prop} {E : Value → Shared → Prop} {v : Value} {a : AV} {ds : List D} (S : St W inj σ C V Y Z h₀ L m s.heap) (r : RepA W inj Z v a) (hi : itemsOf a = some ds)
    (k : ∀ oI fp R, (∀ A' : Around, A'.handled = none → SrcOk W Z A' ds s.heap.objs.size fp R) → R 0 (s.heap.push oI) → Q (.ref s.heap.objs.size) { s with heap := s.heap.push oI }) :
    wpAny (model W.prog W.w) A (pyIter v) Q E s := by
  unfold itemsOf at hi
  split at hi
  · cases hi
    cases r with | val r =>
      cases r
      · rename_i ax vs kk hm rr
        have hl := S.isList hm
        have hlt : ax < s.heap.objs.size := Heap.lt_size (S.zmem hm)
        refine wpAny_pyIter_list hl (k _ [s.heap.objs.size, ax] _ (fun A' hA => ⟨walks_mono (Walks.list hA s.heap.objs.size ax (Nat.ne_of_lt hlt) vs.toArray) (by rw [List.size_toArray, rr.length]) fun i v _ hv => ?_, fun i h st => ?_, fun i h h' o st e e' hz => ?_, fun b hb => ?_⟩) ⟨⟨_, Heap.get?_push_size _ rfl, rfl, rfl⟩, hl.push _⟩)
        · have hv' : vs[i]? = some v := by simpa using hv
          exact rr.of_get i v hv'
        · obtain ⟨o, e, _⟩ := st.1; exact ⟨o, e⟩
        · refine ⟨?_, ⟨_, hz _ hm, rfl, _, rfl⟩⟩
          obtain ⟨o', q, r⟩ := st.1
          rw [e] at q; cases q
          exact ⟨o, e', r⟩
        · rcases List.mem_cons.mp hb with rfl | hb
          · exact .inl rfl
          · exact .inr ⟨_, by rw [List.mem_singleton.mp hb]; exact hm⟩
  · cases hi
    cases r with | val r =>
      cases r
      · rename_i st tt
        have each : ∀ (i : Nat) (v : Value), i < st.cps.size → SignAt st i v → ∃ d, (signs st)[i]? = some d ∧ Rep W Z v d := by
          rintro i v hi ⟨c, u, hc, rfl⟩
          refine ⟨.str ⟨#[c]⟩, ?_, .str _ _⟩
          unfold signs
          rw [List.getElem?_map, Array.getElem?_toList, hc]; rfl
        have hlen : st.cps.size = (signs st).length := by unfold signs; simp
        have str_st : ∀ (ty : String) (i : Nat) (h h' : Heap) (o : Obj), h.IsStrIter s.heap.objs.size ty st tt i → h.get? s.heap.objs.size = some o → h'.get? s.heap.objs.size = some o → h'.IsStrIter s.heap.objs.size ty st tt i := by
          rintro ty i h h' o ⟨o', q, r⟩ e e'
          rw [e] at q; cases q
          exact ⟨o, e', r⟩
        cases ha : st.cps.all (· < 128)
        · exact wpAny_pyIter_wide ha (k _ [s.heap.objs.size] _ (fun A' hA => ⟨walks_mono (Walks.strWide hA _ st tt) hlen each, fun i h ⟨o, e, _⟩ => ⟨o, e⟩, fun i h h' o x e e' _ => str_st _ i h h' o x e e', fun b hb => .inl (List.mem_singleton.mp hb)⟩) ⟨_, Heap.get?_push_size _ rfl, rfl, rfl⟩)
        · exact wpAny_pyIter_ascii ha (k _ [s.heap.objs.size] _ (fun A' hA => ⟨walks_mono (Walks.strAscii hA _ st tt) hlen each, fun i h ⟨o, e, _⟩ => ⟨o, e⟩, fun i h h' o x e e' _ => str_st _ i h h' o x e e', fun b hb => .inl (List.mem_singleton.mp hb)⟩) ⟨_, Heap.get?_push_size _ rfl, rfl, rfl⟩)
  · split at hi
    · rename_i a b c hb
      cases hi
      obtain ⟨hs, hn⟩ := range_fit hb
      cases r with | val r =>
        cases r
        · rename_i ax t u v hm
          have hr : IsRange s.heap ax a b c t u v := S.zmem hm
          refine wpAny_pyIter_range hr hs (k _ [s.heap.objs.size] _ (fun A' hA => ⟨walks_mono (Walks.range hA s.heap.objs.size a c (rangeN a b c)) (rangeL_len _ _ _).symm fun i v hi hv => ?_, fun i h st => ⟨_, st⟩, fun i h h' o st e e' hz => ?_, fun b hb => .inl (List.mem_singleton.mp hb)⟩) ?_)
          · obtain ⟨t, rfl⟩ := hv
            exact ⟨_, rangeL_get _ _ _ _ hi, .int _ _⟩
          · have st' : h.get? _ = some _ := st
            show h'.get? _ = some _
            rw [e', ← e]; exact st'
          · show (s.heap.push _).get? _ = some _
            rw [hn]
            simpa using Heap.get?_push_size s.heap (o := { cls := .type "range_iterator", data := .fields #[rawInt a, rawInt (rangeN a b c), rawInt c] }) rfl
    · cases hi
  · cases hi
end
end Mine

namespace Mine
open PySem PySem.W PySem.Calls PyProof.Rows

noncomputable def closL (cells : List (Str × Addr)) : List (Str × NameKind) → List (Str × Addr) → List (Str × Addr)
  | [], acc => acc
  | (n, k) :: r, acc => if k == .free then closL cells r ((n, (cells.lookup n).getD 0) :: acc) else closL cells r acc
theorem closL_look (cells : List (Str × Addr)) {y : Str} {c : Addr} (hc : cells.lookup y = some c) : ∀ (names : List (Str × NameKind)) (acc : List (Str × Addr)), acc.lookup y = some c ∨ (y, NameKind.free) ∈ names → (closL cells names acc).lookup y = some c
  | [], acc, h => h.elim id fun q => nomatch q
  | (n, k) :: r, acc, h => by
    simp only [closL]
    by_cases hk : (k == .free) = true
    · rw [if_pos hk]
      refine closL_look cells hc r _ ?_
      by_cases hn : y = n
      · subst hn
        left
        rw [List.lookup_cons]
        simp [hc]
      · rw [List.lookup_cons, beq_eq_false_iff_ne.mpr hn]
        rcases h with h | h
        · exact .inl h
        · rcases List.mem_cons.mp h with h | h
          · exact absurd (Prod.ext_iff.mp h).1 hn
          · exact .inr h
    · rw [if_neg hk]
      refine closL_look cells hc r _ ?_
      rcases h with h | h
      · exact .inl h
      · rcases List.mem_cons.mp h with h | h
        · exact absurd (show (k == NameKind.free) = true by rw [← show NameKind.free = k from (Prod.ext_iff.mp h).2]; rfl) hk
        · exact .inr h
theorem closure_ok {scope : Scope} {env : Env} (h : ∀ y ∈ scope.names, y.2 = .free → (env.cells.lookup y.1).isSome = true) : closureFor scope env = pure (closL env.cells scope.names []) := by
  unfold closureFor
  have key : ∀ (names : List (Str × NameKind)) (acc : List (Str × Addr)), (∀ y ∈ names, y.2 = .free → (env.cells.lookup y.1).isSome = true) →
      (forIn names acc (fun (x : Str × NameKind) (cs : List (Str × Addr)) => (match x with
        | (name, kind) => if (kind == .free) = true then do
            let c ← PySem.cellOf env name
            pure (ForInStep.yield ((name, c) :: cs))
          else pure (ForInStep.yield cs) : Sem (ForInStep (List (Str × Addr)))))) = (pure (closL env.cells names acc) : Sem (List (Str × Addr))) := by
    intro names
    induction names with
    | nil => intro acc _; rfl
    | cons p r ih =>
      obtain ⟨n, k⟩ := p
      intro acc hf
      rw [List.forIn_cons]
      simp only [closL]
      by_cases hk : (k == .free) = true
      · rw [if_pos hk, if_pos hk]
        have h1 := hf (n, k) (.head _) (by cases k <;> first | rfl | cases hk)
        obtain ⟨c, hc⟩ := Option.isSome_iff_exists.mp h1
        have : PySem.cellOf env n = pure c := by unfold PySem.cellOf; rw [hc]
        rw [this]
        show (forIn r ((n, c) :: acc) _ : Sem _) = _
        rw [ih _ fun y hy => hf y (.tail _ hy), hc]
        rfl
      · rw [if_neg hk, if_neg hk]
        show (forIn r acc _ : Sem _) = _
        exact ih _ fun y hy => hf y (.tail _ hy)
  have := key scope.names [] h
  exact congrArg (fun t : Sem (List (Str × Addr)) => t >>= fun s => pure s) this
theorem relabel_look {env : Env} {y : Str} : ∀ {names : List (Str × NameKind)} {k : NameKind}, names.lookup y = some k →
    (names.map fun (n, k) => if (k == NameKind.free && env.scope.kind == .function && env.kindOf n == some .cell) then (n, NameKind.cell) else (n, k)).lookup y = some (if (k == NameKind.free && env.scope.kind == .function && env.kindOf y == some .cell) then .cell else k)
  | [], _, h => by simp at h
  | (n, k') :: r, k, h => by
    rw [List.lookup_cons] at h
    rw [List.map_cons]
    by_cases hn : (y == n) = true
    · rw [hn] at h
      simp only [Option.some.injEq] at h
      subst h
      have e : y = n := eq_of_beq hn
      subst e
      dsimp only
      split <;> rename_i hc <;> rw [List.lookup_cons] <;> simp
    · have hn' : (y == n) = false := by simpa using hn
      rw [hn'] at h
      dsimp only
      have ih := relabel_look (env := env) h
      split <;> rw [List.lookup_cons, hn'] <;> exact ih

section
variable {W : Wo} {n : Nat} {F : Fns} {si : SI} {inj : List Addr} {σ : Store} {C : List Led} {V Y Z O : Led} {h₀ h h' : Heap} {L : Addr} {m m' : Str → Option Value}

structure Stk (W : Wo) (inj : List Addr) (σ : Store) (C : List Led) (V Y Z : Led) : Prop where
  nd : ((C.flatten ++ V).map (·.1)).Nodup
  ap : ∀ p ∈ C.flatten ++ V, ∀ q ∈ Y ++ Z, p.1 ≠ q.1
  ay : ∀ p ∈ Y, ∀ q ∈ Z, p.1 ≠ q.1
  cells : Cells W Z σ inj C
theorem St.stk (S : St W inj σ C V Y Z h₀ L m h) : Stk W inj σ C V Y Z := ⟨S.nd, S.ap, S.ay, S.cells⟩
theorem Stk.st (S : Stk W inj σ C V Y Z) (F' : Fr h₀ L h m) (N' : News h₀ L h (C.flatten ++ (V ++ (Y ++ Z)))) : St W inj σ C V Y Z h₀ L m h := ⟨F', N', S.nd, S.ap, S.ay, S.cells⟩

/-- a comprehension's block seen from a def: its scope's names are the def's cells, its variable, or global -/
structure CompOk (si : SI) (scope : Scope) (x : Nat) (xs : Str) : Prop where
  base : si.comp = none
  name : si.nm[x]? = some xs
  loc : scope.names.lookup xs = some .local
  cell : ∀ y ∈ scope.names, y.2 ≠ .cell
  kind : scope.kind = .function
  names : ∀ y ∈ scope.names, y.2 = .local → scope.names.lookup y.1 = some .local
  free : ∀ y ∈ scope.names, y.2 = .free → si.scope.names.lookup y.1 = some .cell
  nf : si.nf ≤ x
noncomputable def SI.inner (si : SI) (scope : Scope) (x : Nat) : SI := { scope := scope, nm := si.nm, nf := si.nf, comp := some x }

theorem cellsAre_look {cm : Str → Option Value} : ∀ {cs : List (Str × Addr)} {V : Led}, CellsAre cm cs V → ∀ {y : Str} {c : Addr}, cs.lookup y = some c → ∃ o, (c, o) ∈ V ∧ o.data = .cell (cm y) := by
  intro cs V h
  induction h with
  | nil => intro y c h; cases h
  | @cons k c' o cs V hd r ih =>
    intro y c h
    rw [List.lookup_cons] at h
    by_cases hn : (y == k) = true
    · rw [hn] at h
      simp only [Option.some.injEq] at h
      subst h
      exact ⟨o, .head _, by rw [hd, eq_of_beq hn]⟩
    · have hn' : (y == k) = false := by simpa using hn
      rw [hn'] at h
      obtain ⟨o', h1, h2⟩ := ih h
      exact ⟨o', .tail _ h1, h2⟩
theorem lookup_mem {y : Str} {k : NameKind} : ∀ {names : List (Str × NameKind)}, names.lookup y = some k → (y, k) ∈ names
  | [], h => by simp at h
  | (n, k') :: r, h => by
    rw [List.lookup_cons] at h
    by_cases hn : (y == n) = true
    · rw [hn] at h; simp only [Option.some.injEq] at h; subst h; rw [eq_of_beq hn]; exact .head _
    · have hn' : (y == n) = false := by simpa using hn
      rw [hn'] at h; exact .tail _ (lookup_mem h)
theorem slot_set {ρ : Slots} {i j : Nat} {a : AV} : slot (ρ.set i (some a)) j = if i = j ∧ i < ρ.length then some a else slot ρ j := by
  unfold slot
  rw [List.getElem?_set]
  by_cases h : i = j
  · subst h
    by_cases hl : i < ρ.length
    · simp [hl]
    · simp [hl]
  · simp [h]
theorem cells_some {si : SI} {scope : Scope} {x : Nat} {xs : Str} {env : Env} {cm : Str → Option Value} {ρ : Slots} (ck : CompOk si scope x xs) (fr : FRel W si env L m cm V inj Z ρ) : ∀ y ∈ scope.names, y.2 = .free → (env.cells.lookup y.1).isSome = true := fun y hy hf => by
  rw [fr.cells]
  exact cellsFrom_some _ _ _ (.inl (ck.free y hy hf))

theorem EH.inner {env : Env} {scope : Scope} {x : Nat} {xs : Str} {ρ : Slots} {I Cn Da : Addr} {oI oC oD : Obj} {m₂ : Str → Option Value} {v : Value} {d : D} (H : EH W si env h₀ L m V Y inj Z ρ) (ck : CompOk si scope x xs)
    (hC : LCg.NsObj oC m₂) (hx : m₂ xs = some v) (rv : Rep W Z v d) :
    EH W (si.inner scope x) (compEnvC scope (closL env.cells scope.names []) Cn env) h₀ L m V ((I, oI) :: (Cn, oC) :: (Da, oD) :: Y) inj Z (ρ.set x (some (.val d))) := by
  obtain ⟨cm, fr⟩ := H.fn ck.base
  have hself : env.kindOf = fun y => si.scope.names.lookup y := by funext y; show env.scope.names.lookup y = _; rw [fr.scope]
  refine ⟨fun y hy => ?_, ck.kind, H.glob, H.blt, fun i a y hr hs hn => ?_, fun h => by cases h⟩
  · exact (relabel_look (env := env) hy).trans rfl
  · rw [slot_set] at hs
    by_cases hix : x = i
    · subst hix
      have e : y = xs := by
        have := ck.name
        rw [show (si.inner scope x).nm = si.nm from rfl, this] at hn
        exact (Option.some.inj hn).symm
      subst e
      by_cases hl : x < ρ.length
      · rw [if_pos ⟨rfl, hl⟩] at hs
        cases hs
        refine ⟨v, ?_, .val rv⟩
        intro M A E Q s F' N' hq
        exact wpAny_loadName_local ck.kind (lookup_relabel_local ck.loc) (hC.ns (N' (Cn, oC) (by simp)).1) hx hq
      · rw [if_neg (by simp [hl]), fr.own x ck.nf] at hs
        cases hs
    · rw [if_neg (by simp [hix])] at hs
      have hrd : scope.names.lookup y = some .free := by
        unfold SI.rd SI.inner at hr
        dsimp only at hr
        rw [show (si.inner scope x).nm = si.nm from rfl] at hn
        rw [hn] at hr
        simp only [Bool.or_eq_true, beq_iff_eq] at hr
        rcases hr with hr | hr
        · exact absurd hr.symm hix
        · exact hr
      obtain ⟨w, rw', hw⟩ := fr.slots i a y hs hn
      have hcell : env.kindOf y = some .cell := by rw [hself]; exact ck.free (y, .free) (lookup_mem hrd) rfl
      have hcm : cm y = some w := by
        rcases hw with ⟨h1, _⟩ | ⟨_, h2⟩
        · rw [hcell] at h1; cases h1
        · exact h2
      obtain ⟨c, hc⟩ := Option.isSome_iff_exists.mp (cells_some ck fr (y, .free) (lookup_mem hrd) rfl)
      obtain ⟨o, ho, hd⟩ := cellsAre_look fr.are hc
      refine ⟨w, ?_, rw'⟩
      intro M A E Q s F' N' hq
      refine wpAny_loadName_cell ck.kind ?_ (closL_look env.cells hc scope.names [] (.inr (lookup_mem hrd))) ⟨o, (N' (c, o) (by simp [ho])).1, by rw [hd, hcm]⟩ hq
      have hk : env.scope.kind = .function := H.kind
      exact (relabel_look (env := env) hrd).trans (by simp [hk, hcell])
end
end Mine

namespace Mine
open PySem PySem.W PySem.Calls PyProof.Rows

section
variable {W : Wo} {n : Nat} {F : Fns} {si : SI} {inj : List Addr} {σ : Store} {C : List Led} {V Y Z O : Led} {h₀ h h' : Heap} {L : Addr} {m m' : Str → Option Value}

/-- what a comprehension's end hands on -/
noncomputable def LcFin (W : Wo) (V Y : Led) (inj : List Addr) (Z : Led) (σ' : Store) (r : List D) (ys : List Value) (news : Led) : Prop :=
  X3 fun inj' C' Z' => A4 (news = C'.flatten ++ (V ++ (Y ++ Z'))) (Stk W inj' σ' C' V Y Z') (Grow inj inj' Z Z') (Reps W Z' ys r)

theorem Stk.in3 (S : Stk W inj σ C V Y Z) {I Cn Da : Addr} {oI oC oD : Obj} (off : LCg.Off3 I Cn Da (C.flatten ++ (V ++ (Y ++ Z)))) : Stk W inj σ C V ((I, oI) :: (Cn, oC) :: (Da, oD) :: Y) Z := by
  have o := off.mem
  refine ⟨S.nd, fun p hp q hq => ?_, fun p hp q hq => ?_, S.cells⟩
  · have hp' : p ∈ C.flatten ++ (V ++ (Y ++ Z)) := by simp only [List.mem_append] at hp ⊢; rcases hp with h | h <;> simp [h]
    rcases List.mem_append.mp hq with hq | hq
    · simp only [List.mem_cons] at hq
      rcases hq with rfl | rfl | rfl | hq
      · exact (o p hp').1
      · exact (o p hp').2.1
      · exact (o p hp').2.2
      · exact S.ap p hp q (by simp [hq])
    · exact S.ap p hp q (by simp [hq])
  · have hq' : q ∈ C.flatten ++ (V ++ (Y ++ Z)) := by simp [hq]
    simp only [List.mem_cons] at hp
    rcases hp with rfl | rfl | rfl | hp
    · exact fun e => (o q hq').1 e.symm
    · exact fun e => (o q hq').2.1 e.symm
    · exact fun e => (o q hq').2.2 e.symm
    · exact S.ay p hp q hq
theorem Stk.out3 {I Cn Da : Addr} {oI oC oD : Obj} (S : Stk W inj σ C V ((I, oI) :: (Cn, oC) :: (Da, oD) :: Y) Z) (offY : ∀ p ∈ Y, p.1 ≠ I ∧ p.1 ≠ Cn ∧ p.1 ≠ Da) : Stk W inj σ C V Y Z ∧ LCg.Off3 I Cn Da (C.flatten ++ (V ++ (Y ++ Z))) := by
  refine ⟨⟨S.nd, fun p hp q hq => S.ap p hp q ?_, fun p hp q hq => S.ay p (by simp [hp]) q hq, S.cells⟩, LCg.Off3.of fun p hp => ?_⟩
  · rcases List.mem_append.mp hq with h | h <;> simp [h]
  · simp only [List.mem_append] at hp
    have c1 : ∀ p ∈ C.flatten ++ V, p.1 ≠ I ∧ p.1 ≠ Cn ∧ p.1 ≠ Da := fun p hp => ⟨S.ap p hp (I, oI) (by simp), S.ap p hp (Cn, oC) (by simp), S.ap p hp (Da, oD) (by simp)⟩
    rcases hp with hp | hp | hp | hp
    · exact c1 p (by simp [hp])
    · exact c1 p (by simp [hp])
    · exact offY p hp
    · exact ⟨fun e => S.ay (I, oI) (by simp) p hp e.symm, fun e => S.ay (Cn, oC) (by simp) p hp e.symm, fun e => S.ay (Da, oD) (by simp) p hp e.symm⟩

theorem mem_in3 {q x y z : Addr × Obj} {C V Y Z : Led} (h : q ∈ C ++ (V ++ ((x :: y :: z :: Y) ++ Z))) : q ∈ x :: y :: z :: (C ++ (V ++ (Y ++ Z))) := by
  simp only [List.mem_append, List.mem_cons] at h ⊢
  rcases h with h | h | (h | h | h | h) | h <;> simp [h]
theorem mem_out3 {q x y z : Addr × Obj} {C V Y Z : Led} (h : q ∈ x :: y :: z :: (C ++ (V ++ (Y ++ Z)))) : q ∈ C ++ (V ++ ((x :: y :: z :: Y) ++ Z)) := by
  simp only [List.mem_append, List.mem_cons] at h ⊢
  rcases h with h | h | h | h | h | h | h <;> simp [h]
theorem mem_y {q : Addr × Obj} {C V Y Z : Led} (h : q ∈ Y) : q ∈ C ++ (V ++ (Y ++ Z)) := List.mem_append_right _ (List.mem_append_right _ (List.mem_append_left _ h))
theorem mem_z {q : Addr × Obj} {C V Y Z : Led} (h : q ∈ Z) : q ∈ C ++ (V ++ (Y ++ Z)) := List.mem_append_right _ (List.mem_append_right _ (List.mem_append_right _ h))
theorem lc_rest {A : Around} {fenv env : Env} {s : Shared} {ρ : Slots} {elt : Expr} {t : T} {scope : Scope} {x : Nat} {xs : Str} {ds : List D} {σ' : Store} {r : List D} {inj₀ : List Addr} {Z₀ : Led}
    (act : Act W n A h₀ L fenv) (ck : CompOk si scope x xs) (he : SE W n F (si.inner scope x) elt t) :
    ∀ (k i : Nat) (inj : List Addr) (σ : Store) (C : List Led) (Z : Led) (ys : List Value) (acc : List D), ds.length = i + k → EH W si env h₀ L m V Y inj Z ρ → Stk W inj σ C V Y Z → Grow inj₀ inj Z₀ Z → Reps W Z ys acc.reverse →
      lcLoop (ev F t) x ρ (ds.drop i) σ acc = some (r, σ') →
      LCg.CompRest W.prog W.w A h₀ L m env elt xs scope (closL env.cells scope.names []) s (fun news => ∀ p ∈ Z₀, p ∈ news) (fun i v => ∃ d, ds[i]? = some d ∧ Rep W Z₀ v d) (LcFin W V Y inj₀ Z₀ σ' r) k i ys (C.flatten ++ (V ++ (Y ++ Z))) := by
  intro k
  induction k with
  | zero =>
    intro i inj σ C Z ys acc hk H S g rr hl
    rw [List.drop_of_length_le (show ds.length ≤ i from Nat.le_of_eq hk)] at hl
    cases hl
    exact LCg.CompRest.zero ⟨inj, C, Z, rfl, S, g, rr⟩
  | succ k ih =>
    intro i inj σ C Z ys acc hk H S g rr hl
    refine LCg.CompRest.succ ?_
    rintro v I oI Cn oC Da m₂ h tk E' ⟨d, hd, rv⟩ hC hx F' N' off ne
    obtain ⟨hi, hdi⟩ := List.getElem?_eq_some_iff.mp hd
    rw [List.drop_eq_getElem_cons hi, hdi] at hl
    obtain ⟨p, v₁, hl⟩ := of_bind hl
    obtain ⟨e, hve, hl⟩ := of_bind hl
    have S3 := (S.in3 (oI := oI) (oC := oC) (oD := LCg.lst ys) off).st F' fun p hp => N' p (mem_in3 hp)
    refine he (s := { s with heap := h, toks := tk }) act ((H.inner ck hC hx (rv.mono g.z)) : _) S3 v₁ fun y h' tk' inj' C' Z' S' g' ry => ?_
    obtain ⟨S4, off4⟩ := S'.stk.out3 fun p hp => off.mem p (mem_y hp)
    refine ⟨h', tk', C'.flatten ++ (V ++ (Y ++ Z')), rfl, S'.fr, fun p hp => S'.news p (mem_out3 hp), off4, fun p hp => mem_z (g'.z p (g.z p hp)), ?_⟩
    refine ih (i + 1) inj' p.2 C' Z' (ys ++ [y]) (e :: acc) (by rw [hk, Nat.add_right_comm]; rfl) (H.mono g') S4 (g.trans g') ?_ hl
    rw [List.reverse_cons]
    exact (rr.mono g'.z).append (.cons (ry.at hve) .nil)
theorem lc_end {Da Cn : Addr} {ys : List Value} (F' : Fr h₀ L h m) (N' : News h₀ L h ((Da, lstO ys ys.length) :: (C.flatten ++ (V ++ (Y ++ Z))))) (o1 : LCg.Off1 Da (C.flatten ++ (V ++ (Y ++ Z)))) (S2 : Stk W inj σ C V Y Z) (hCD : Cn ≠ Da) (offC : ∀ p ∈ C.flatten ++ (V ++ (Y ++ Z)), p.1 ≠ Cn) :
    St W inj σ C V Y ([(Da, lstO ys ys.length)] ++ Z) h₀ L m h ∧ ∀ p ∈ C.flatten ++ (V ++ (Y ++ ([(Da, lstO ys ys.length)] ++ Z))), p.1 ≠ Cn := by
  have key : ∀ {l : Led}, LCg.Off1 Da l → ∀ p ∈ l, p.1 ≠ Da := by
    intro l
    induction l with
    | nil => intro _ p hp; cases hp
    | cons q l ih => intro h p hp; rcases List.mem_cons.mp hp with rfl | hp; exact h.1; exact ih h.2 p hp
  have S3 : St W inj σ C V Y Z h₀ L m h := S2.st F' fun p hp => N' p (List.mem_cons_of_mem _ hp)
  refine ⟨S3.more (X := [(Da, lstO ys ys.length)]) F' N' fun q hq p hp => by rw [List.mem_singleton.mp hq]; exact key o1 p hp, fun p hp => ?_⟩
  simp only [List.mem_append, List.mem_cons, List.not_mem_nil, or_false] at hp
  rcases hp with hp | hp | hp | hp | hp
  · exact offC p (List.mem_append_left _ hp)
  · exact offC p (List.mem_append_right _ (List.mem_append_left _ hp))
  · exact offC p (mem_y hp)
  · rw [hp]; exact Ne.symm hCD
  · exact offC p (mem_z hp)
theorem lc_core {A : Around} {fenv env : Env} {s : Shared} {E : Value → Shared → Prop} {ρ : Slots} {elt iter : Expr} {t ti : T} {scope : Scope} {x : Nat} {xs : Str} {px pos : Pos} {a : AV} {ds : List D} {σ₁ σ' : Store} {r : List D} {RR : Value → Addr → Result → Shared → Prop}
    (act : Act W n A h₀ L fenv) (H : EH W si env h₀ L m V Y inj Z ρ) (S : St W inj σ C V Y Z h₀ L m s.heap) (ck : CompOk si scope x xs) (he : SE W n F (si.inner scope x) elt t) (hi : SE W n F si iter ti)
    (v₁ : ev F ti ρ σ = some (a, σ₁)) (hds : itemsOf a = some ds) (hlen : ds.length ≤ lim) (hl : lcLoop (ev F t) x ρ ds σ₁ [] = some (r, σ'))
    (fin : ∀ Da Cn h tk mC inj' C' Z', St W inj' σ' C' V Y Z' h₀ L m h → Grow inj inj' Z Z' → Rep W Z' (.ref Da) (.list r) → h.Ns Cn mC → h₀.get? Cn = none → Cn ≠ L → (∀ p ∈ C'.flatten ++ (V ++ (Y ++ Z')), p.1 ≠ Cn) → RR (.ref Da) Cn (.ok .next) { s with heap := h, toks := tk }) :
    wpAny (model W.prog W.w) A (eval iter env) (fun xv s₁ => wpAny (model W.prog W.w) A (pyIter xv) (fun it s₂ => wpAny (model W.prog W.w) A (newList []) (fun acc s₃ =>
      wpAny (model W.prog W.w) A (newFunctionEnv scope env.globals (closL env.cells scope.names []) [] env.qual none .none (some env)) (fun cenv s₄ =>
        codeAny (model W.prog W.w) A (.compStart (.ListComp elt [⟨.Name xs px, iter, [], 0⟩] scope pos) 0 it acc { cenv with scope := relabel scope env }) (RR acc cenv.locals) s₄) E s₃) E s₂) E s₁) E s := by
  refine hi act H S v₁ fun xv h' tk' inj' C' Z' S' g rx => ?_
  refine iter_src (s := { s with heap := h', toks := tk' }) S' rx hds fun oI fp R ok h0 => ?_
  have K := ok A act.hd
  have up : ∀ b o, h'.get? b = some o → (h'.push oI).get? b = some o := fun b o e => Heap.get?_push_of_some _ e
  refine LCg.block_U K.walks (by rw [sizeLine_eq]; exact Nat.le_trans hlen (by decide)) K.hI (S := fun news => ∀ p ∈ Z', p ∈ news) (fun i h h' o nw st e e' hk N hz => K.hSt i h h' o st e e' fun p hp => (N p (hz p hp)).1) ck.cell ck.kind ck.loc h0 (fun b hb => ?_)
    (S'.fr.keeps up) (S'.news.grown up) (Nat.ne_of_lt S'.fr.ns.lt) (next_is_new S'.fr) (fun p hp => Nat.ne_of_lt (Heap.lt_size (S'.news p hp).1)) (fun p hp => mem_z hp)
    (lc_rest (s := { s with heap := h'.push oI, toks := tk' }) act ck he ds.length 0 inj' σ₁ C' Z' [] [] (by simp) (H.mono g) S'.stk Grow.rfl .nil hl) ?_
  · show b < (h'.push oI).objs.size
    rw [Heap.size_push]
    rcases K.fp b hb with rfl | ⟨o, ho⟩
    · exact Nat.lt_succ_self _
    · exact Nat.lt_succ_of_lt (Heap.lt_size (S'.zmem ho))
  · rintro Da Cn h tk mC ys news' F' N' o1 hn hC₀ hD₀ hCL hDL hCD offC ⟨inj2, C2, Z2, rfl, S2, g2, rr⟩
    obtain ⟨S4, off⟩ := lc_end F' N' o1 S2 hCD offC
    exact fin Da Cn h tk mC inj2 C2 _ S4 ((g.trans g2).trans Grow.app) (.list (.head _) (rr.mono fun p hp => List.mem_append_right _ hp)) hn hC₀ hCL off
theorem St.but {Cn : Addr} (S : St W inj σ C V Y Z h₀ L m h) (hs : Heap.SameBut Cn h h') (hCL : Cn ≠ L) (hC₀ : h₀.get? Cn = none) (off : ∀ p ∈ C.flatten ++ (V ++ (Y ++ Z)), p.1 ≠ Cn) : St W inj σ C V Y Z h₀ L m h' :=
  S.keep (S.fr.change hs hCL hC₀) fun p hp => ⟨hs.extBut _ _ (off p hp) (S.news p hp).1, (S.news p hp).2⟩
/-- what is iterated is no set display -/
noncomputable def noSet (e : Expr) : Bool := e.ctorIdx != (Expr.Set default default default).ctorIdx
theorem noSet_eq {e : Expr} {env : Env} (h : noSet e = true) (x : Value) : foldedSetIterable e env x = pure x := by
  cases e <;> first | rfl | exact nomatch h
theorem SE.lc {elt iter : Expr} {t ti : T} {scope : Scope} {x : Nat} {xs : Str} {px pos : Pos} (ck : CompOk si scope x xs) (he : SE W n F (si.inner scope x) elt t) (hi : SE W n F si iter ti) (hns : noSet iter = true) :
    SE W n F si (.ListComp elt [⟨.Name xs px, iter, [], 0⟩] scope pos) (.lc t x ti) := by
  intro A h₀ L fenv env m s Q E inj σ C V Y Z ρ a σ' act H S hev hp
  refine of_bindC hev fun p v₁ hev => of_bindC hev fun ds hds hev => of_ifC hev fun hlen hev => of_mapP (K := fun a σ' => Post W h₀ L m V Y inj Z σ' a s Q) hev hp fun r hl hp => ?_
  obtain ⟨cm, fr⟩ := H.fn ck.base
  rw [eval_ListComp]
  refine wpAny_comprehension_free (use := none) rfl (noSet_eq hns) (closure_ok (cells_some ck fr)) ck.kind ck.names (lc_core act H S ck he hi v₁ hds hlen hl ?_)
  intro Da Cn h tk mC inj' C' Z' S' g rr hn hC₀ hCL off
  exact ⟨mC, hn, fun h'' hs'' => hp _ h'' tk inj' C' Z' (S'.but hs'' hCL hC₀ off) g (.val rr)⟩
end
end Mine

namespace Mine
open PySem PySem.W PySem.Calls PyProof.Rows

section
variable {W : Wo} {n : Nat} {F : Fns} {si : SI} {inj : List Addr} {σ : Store} {C : List Led} {V Y Z O : Led} {h₀ h h' : Heap} {L : Addr} {m m' : Str → Option Value}

theorem lcf_rest {A : Around} {fenv env : Env} {s : Shared} {ρ : Slots} {ct elt : Expr} {tc t : T} {scope : Scope} {x : Nat} {xs : Str} {ds : List D} {σ' : Store} {r : List D} {inj₀ : List Addr} {Z₀ : Led}
    (act : Act W n A h₀ L fenv) (ck : CompOk si scope x xs) (hc : SB W n F (si.inner scope x) ct tc) (he : SE W n F (si.inner scope x) elt t) :
    ∀ (k i : Nat) (inj : List Addr) (σ : Store) (C : List Led) (Z : Led) (ys : List Value) (acc : List D), ds.length = i + k → EH W si env h₀ L m V Y inj Z ρ → Stk W inj σ C V Y Z → Grow inj₀ inj Z₀ Z → Reps W Z ys acc.reverse →
      lcLoopF (ev F tc) (ev F t) x ρ (ds.drop i) σ acc = some (r, σ') →
      LCt.CompRestT W.prog W.w A h₀ L m env ct elt xs scope (closL env.cells scope.names []) s (fun news => ∀ p ∈ Z₀, p ∈ news) (fun i v => ∃ d, ds[i]? = some d ∧ Rep W Z₀ v d) (LcFin W V Y inj₀ Z₀ σ' r) k i ys (C.flatten ++ (V ++ (Y ++ Z))) := by
  intro k
  induction k with
  | zero =>
    intro i inj σ C Z ys acc hk H S g rr hl
    rw [List.drop_of_length_le (show ds.length ≤ i from Nat.le_of_eq hk)] at hl
    cases hl
    exact LCt.CompRestT.zero ⟨inj, C, Z, rfl, S, g, rr⟩
  | succ k ih =>
    intro i inj σ C Z ys acc hk H S g rr hl
    refine LCt.CompRestT.succ ?_
    rintro v I oI Cn oC Da m₂ h tk E' ⟨d, hd, rv⟩ hC hx F' N' off ne
    obtain ⟨hi, hdi⟩ := List.getElem?_eq_some_iff.mp hd
    rw [List.drop_eq_getElem_cons hi, hdi] at hl
    have S3 := (S.in3 (oI := oI) (oC := oC) (oD := LCg.lst ys) off).st F' fun p hp => N' p (mem_in3 hp)
    have offY : ∀ p ∈ Y, p.1 ≠ I ∧ p.1 ≠ Cn ∧ p.1 ≠ Da := fun p hp => off.mem p (mem_y hp)
    have H3 : EH W (si.inner scope x) (compEnvC scope (closL env.cells scope.names []) Cn env) h₀ L m V ((I, oI) :: (Cn, oC) :: (Da, LCg.lst ys) :: Y) inj Z (ρ.set x (some (.val d))) := H.inner ck hC hx (rv.mono g.z)
    obtain ⟨p, v₁, hl⟩ := of_bind hl
    obtain ⟨c, hc', hl⟩ := of_bind hl
    have hk' : ds.length = i + 1 + k := by rw [hk, Nat.add_right_comm]; rfl
    refine hc (s := { s with heap := h, toks := tk }) act H3 S3 v₁ ⟨hc', fun h1 tk1 inj1 C1 Z1 S1 g1 => of_condC hl (fun ec hl => ?_) fun ec hl => ?_⟩
    · refine ite_t ec ?_
      obtain ⟨q, v₂, hl⟩ := of_bind hl
      obtain ⟨e, hve, hl⟩ := of_bind hl
      refine he (s := { s with heap := h1, toks := tk1 }) act (H3.mono g1) S1 v₂ fun y h' tk' inj' C' Z' S' g' ry => ?_
      obtain ⟨S4, off4⟩ := S'.stk.out3 offY
      refine ⟨h', tk', C'.flatten ++ (V ++ (Y ++ Z')), rfl, S'.fr, fun p hp => S'.news p (mem_out3 hp), off4, fun p hp => mem_z (g'.z p (g1.z p (g.z p hp))), ?_⟩
      refine ih (i + 1) inj' q.2 C' Z' (ys ++ [y]) (e :: acc) hk' ((H.mono g1).mono g') S4 ((g.trans g1).trans g') ?_ hl
      rw [List.reverse_cons]
      exact ((rr.mono g1.z).mono g'.z).append (.cons (ry.at hve) .nil)
    · refine ite_f ec ?_
      obtain ⟨S4, off4⟩ := S1.stk.out3 offY
      refine ⟨h1, tk1, C1.flatten ++ (V ++ (Y ++ Z1)), rfl, S1.fr, fun p hp => S1.news p (mem_out3 hp), off4, fun p hp => mem_z (g1.z p (g.z p hp)), ?_⟩
      exact ih (i + 1) inj1 p.2 C1 Z1 ys acc hk' (H.mono g1) S4 (g.trans g1) (rr.mono g1.z) hl
theorem lcf_core {A : Around} {fenv env : Env} {s : Shared} {E : Value → Shared → Prop} {ρ : Slots} {ct elt iter : Expr} {tc t ti : T} {scope : Scope} {x : Nat} {xs : Str} {px pos : Pos} {a : AV} {ds : List D} {σ₁ σ' : Store} {r : List D} {RR : Value → Addr → Result → Shared → Prop}
    (act : Act W n A h₀ L fenv) (H : EH W si env h₀ L m V Y inj Z ρ) (S : St W inj σ C V Y Z h₀ L m s.heap) (ck : CompOk si scope x xs) (hc : SB W n F (si.inner scope x) ct tc) (he : SE W n F (si.inner scope x) elt t) (hi : SE W n F si iter ti)
    (v₁ : ev F ti ρ σ = some (a, σ₁)) (hds : itemsOf a = some ds) (hlen : ds.length ≤ lim) (hl : lcLoopF (ev F tc) (ev F t) x ρ ds σ₁ [] = some (r, σ'))
    (fin : ∀ Da Cn h tk mC inj' C' Z', St W inj' σ' C' V Y Z' h₀ L m h → Grow inj inj' Z Z' → Rep W Z' (.ref Da) (.list r) → h.Ns Cn mC → h₀.get? Cn = none → Cn ≠ L → (∀ p ∈ C'.flatten ++ (V ++ (Y ++ Z')), p.1 ≠ Cn) → RR (.ref Da) Cn (.ok .next) { s with heap := h, toks := tk }) :
    wpAny (model W.prog W.w) A (eval iter env) (fun xv s₁ => wpAny (model W.prog W.w) A (pyIter xv) (fun it s₂ => wpAny (model W.prog W.w) A (newList []) (fun acc s₃ =>
      wpAny (model W.prog W.w) A (newFunctionEnv scope env.globals (closL env.cells scope.names []) [] env.qual none .none (some env)) (fun cenv s₄ =>
        codeAny (model W.prog W.w) A (.compStart (.ListComp elt [⟨.Name xs px, iter, [ct], 0⟩] scope pos) 0 it acc { cenv with scope := relabel scope env }) (RR acc cenv.locals) s₄) E s₃) E s₂) E s₁) E s := by
  refine hi act H S v₁ fun xv h' tk' inj' C' Z' S' g rx => ?_
  refine iter_src (s := { s with heap := h', toks := tk' }) S' rx hds fun oI fp R ok h0 => ?_
  have K := ok A act.hd
  have up : ∀ b o, h'.get? b = some o → (h'.push oI).get? b = some o := fun b o e => Heap.get?_push_of_some _ e
  refine LCt.block_T K.walks (by rw [sizeLine_eq]; exact Nat.le_trans hlen (by decide)) K.hI (S := fun news => ∀ p ∈ Z', p ∈ news) (fun i h h' o nw st e e' hk N hz => K.hSt i h h' o st e e' fun p hp => (N p (hz p hp)).1) ck.cell ck.kind ck.loc h0 (fun b hb => ?_)
    (S'.fr.keeps up) (S'.news.grown up) (Nat.ne_of_lt S'.fr.ns.lt) (next_is_new S'.fr) (fun p hp => Nat.ne_of_lt (Heap.lt_size (S'.news p hp).1)) (fun p hp => mem_z hp)
    (lcf_rest (s := { s with heap := h'.push oI, toks := tk' }) act ck hc he ds.length 0 inj' σ₁ C' Z' [] [] (by simp) (H.mono g) S'.stk Grow.rfl .nil hl) ?_
  · show b < (h'.push oI).objs.size
    rw [Heap.size_push]
    rcases K.fp b hb with rfl | ⟨o, ho⟩
    · exact Nat.lt_succ_self _
    · exact Nat.lt_succ_of_lt (Heap.lt_size (S'.zmem ho))
  · rintro Da Cn h tk mC ys news' F' N' o1 hn hC₀ hD₀ hCL hDL hCD offC ⟨inj2, C2, Z2, rfl, S2, g2, rr⟩
    obtain ⟨S4, off⟩ := lc_end F' N' o1 S2 hCD offC
    exact fin Da Cn h tk mC inj2 C2 _ S4 ((g.trans g2).trans Grow.app) (.list (.head _) (rr.mono fun p hp => List.mem_append_right _ hp)) hn hC₀ hCL off
theorem SE.lcf {ct elt iter : Expr} {tc t ti : T} {scope : Scope} {x : Nat} {xs : Str} {px pos : Pos} (ck : CompOk si scope x xs) (hc : SB W n F (si.inner scope x) ct tc) (he : SE W n F (si.inner scope x) elt t) (hi : SE W n F si iter ti) (hns : noSet iter = true) :
    SE W n F si (.ListComp elt [⟨.Name xs px, iter, [ct], 0⟩] scope pos) (.lcf t x ti tc) := by
  intro A h₀ L fenv env m s Q E inj σ C V Y Z ρ a σ' act H S hev hp
  refine of_bindC hev fun p v₁ hev => of_bindC hev fun ds hds hev => of_ifC hev fun hlen hev => of_mapP (K := fun a σ' => Post W h₀ L m V Y inj Z σ' a s Q) hev hp fun r hl hp => ?_
  obtain ⟨cm, fr⟩ := H.fn ck.base
  rw [eval_ListComp]
  refine wpAny_comprehension_free (use := none) rfl (noSet_eq hns) (closure_ok (cells_some ck fr)) ck.kind ck.names (lcf_core act H S ck hc he hi v₁ hds hlen hl ?_)
  intro Da Cn h tk mC inj' C' Z' S' g rr hn hC₀ hCL off
  exact ⟨mC, hn, fun h'' hs'' => hp _ h'' tk inj' C' Z' (S'.but hs'' hCL hC₀ off) g (.val rr)⟩
end
end Mine

namespace Mine
open PySem PySem.W PySem.Calls PyProof.Rows

/-- what stays of a def's block -/
structure Stat (si : SI) (env : Env) (L : Addr) : Prop where
  scope : env.scope = si.scope
  loc : env.locals = L
  kind : si.scope.kind = .function
  glob : env.globals = mainGlobals
  blt : env.builtins = builtinsNs
  comp : si.comp = none
  nd : (env.cells.map (·.1)).Nodup

section
variable {W : Wo} {n : Nat} {F : Fns} {si : SI} {inj : List Addr} {σ : Store} {C : List Led} {V Y Z O : Led} {h₀ h h' : Heap} {L : Addr} {m cm m' : Str → Option Value}

theorem FRel.eh {env : Env} {ρ : Slots} (fr : FRel W si env L m cm V inj Z ρ) (st : Stat si env L) : EH W si env h₀ L m V Y inj Z ρ where
  kinds := fun x hx => by show env.scope.names.lookup x = _; rw [st.scope]; exact hx
  kind := by rw [st.scope]; exact st.kind
  glob := st.glob
  blt := st.blt
  read := fun i a x _ hs hn => by
    obtain ⟨v, r, hk⟩ := fr.slots i a x hs hn
    refine ⟨v, fun M A E Q s F' N' hq => ?_, r⟩
    have hke : env.scope.kind = .function := by rw [st.scope]; exact st.kind
    rcases hk with ⟨h1, h2⟩ | ⟨h1, h2⟩
    · exact wpAny_loadName_local hke h1 (by rw [st.loc]; exact F'.ns) h2 hq
    · have hc : ((cellsFrom (L + 1) si.scope.names []).lookup x).isSome = true := cellsFrom_some _ _ _ (.inl (by rw [← st.scope]; exact h1))
      rw [← fr.cells] at hc
      obtain ⟨c, hc⟩ := Option.isSome_iff_exists.mp hc
      obtain ⟨o, ho, hd⟩ := cellsAre_look fr.are hc
      exact wpAny_loadName_cell hke h1 hc ⟨o, (N' (c, o) (by simp [ho])).1, by rw [hd, h2]⟩ hq
  fn := fun _ => ⟨cm, fr⟩

/-- a cell's object changed in the frame's part -/
noncomputable def setO (c : Addr) (o : Obj) (V : Led) : Led := V.map fun p => if p.1 = c then (c, o) else p
theorem setO_keys {c : Addr} {o : Obj} : ∀ {V : Led}, (setO c o V).map (·.1) = V.map (·.1)
  | [] => rfl
  | p :: r => by
    have ih := setO_keys (c := c) (o := o) (V := r)
    simp only [setO, List.map_cons, List.map_map] at ih ⊢
    rw [ih]
    by_cases hp : p.1 = c
    · rw [if_pos hp, hp]
    · rw [if_neg hp]
theorem setO_mem {c : Addr} {o : Obj} {V : Led} {p : Addr × Obj} (h : p ∈ setO c o V) : (p = (c, o) ∧ c ∈ V.map (·.1)) ∨ (p ∈ V ∧ p.1 ≠ c) := by
  obtain ⟨q, hq, rfl⟩ := List.mem_map.mp h
  by_cases hc : q.1 = c
  · rw [if_pos hc]; exact .inl ⟨rfl, List.mem_map.mpr ⟨q, hq, hc⟩⟩
  · rw [if_neg hc]; exact .inr ⟨hq, hc⟩
theorem mem_keys {l : Led} {p : Addr × Obj} (h : p ∈ l) : p.1 ∈ l.map (·.1) := List.mem_map_of_mem h
theorem keys_mem {l l' : Led} (e : l.map (·.1) = l'.map (·.1)) {p : Addr × Obj} (h : p ∈ l) : ∃ q ∈ l', q.1 = p.1 := by
  have := mem_keys h; rw [e] at this; obtain ⟨q, hq, e⟩ := List.mem_map.mp this; exact ⟨q, hq, e⟩
theorem CellsAre.keys {cm : Str → Option Value} : ∀ {cs : List (Str × Addr)} {V : Led}, CellsAre cm cs V → V.map (·.1) = cs.map (·.2) := by
  intro cs V h
  induction h with
  | nil => rfl
  | cons _ _ ih => rw [List.map_cons, List.map_cons, ih]
theorem CellsAre.upd {cm : Str → Option Value} {x : Str} {c : Addr} {v : Value} {o : Obj} (hd : o.data = .cell (some v)) : ∀ {cs : List (Str × Addr)} {V : Led}, CellsAre cm cs V → (cs.map (·.1)).Nodup → (V.map (·.1)).Nodup → (∀ y d, (y, d) ∈ cs → (y = x ↔ d = c)) →
    CellsAre (fun y => if y = x then some v else cm y) cs (setO c o V) := by
  intro cs V h
  induction h with
  | nil => intro _ _ _; exact .nil
  | @cons k d o' cs V hk r ih =>
    intro h1 h2 h3
    have ih := ih (List.nodup_cons.mp h1).2 (List.nodup_cons.mp h2).2 fun y d' hm => h3 y d' (.tail _ hm)
    have e := h3 k d (.head _)
    show CellsAre _ _ ((if d = c then (c, o) else (d, o')) :: setO c o V)
    by_cases hc : d = c
    · rw [if_pos hc, hc]
      exact .cons (by rw [if_pos (e.mpr hc)]; exact hd) ih
    · rw [if_neg hc]
      exact .cons (by rw [if_neg (fun q => hc (e.mp q))]; exact hk) ih
theorem nodup_of_keys {l l' r : Led} (e : l.map (·.1) = l'.map (·.1)) (h : ((r ++ l').map (·.1)).Nodup) : ((r ++ l).map (·.1)).Nodup := by
  rw [List.map_append] at h ⊢; rw [e]; exact h
theorem lookup_mem2 {y : Str} {k : Addr} : ∀ {names : List (Str × Addr)}, names.lookup y = some k → (y, k) ∈ names
  | [], h => by simp at h
  | (n, k') :: r, h => by
    rw [List.lookup_cons] at h
    by_cases hn : (y == n) = true
    · rw [hn] at h; simp only [Option.some.injEq] at h; subst h; rw [eq_of_beq hn]; exact .head _
    · have hn' : (y == n) = false := by simpa using hn
      rw [hn'] at h; exact .tail _ (lookup_mem2 h)
theorem nodup_keys_val {cs : List (Str × Addr)} (h : (cs.map (·.2)).Nodup) {y z : Str} {d : Addr} (h1 : (y, d) ∈ cs) (h2 : (z, d) ∈ cs) : y = z := by
  induction cs with
  | nil => cases h1
  | cons p r ih =>
    rw [List.map_cons, List.nodup_cons] at h
    rcases List.mem_cons.mp h1 with e1 | h1
    · rcases List.mem_cons.mp h2 with e2 | h2
      · rw [← e1] at e2; exact (Prod.ext_iff.mp e2).1.symm
      · exact absurd (List.mem_map.mpr ⟨_, h2, by rw [← e1]⟩) h.1
    · rcases List.mem_cons.mp h2 with e2 | h2
      · exact absurd (List.mem_map.mpr ⟨_, h1, by rw [← e2]⟩) h.1
      · exact ih h.2 h1 h2
theorem slot_same {si : SI} {env : Env} {ρ : Slots} (fr : FRel W si env L m cm V inj Z ρ) {x y : Str} {i j : Nat} {a : AV} (hi : i < si.nf) (hx : si.nm[i]? = some x) (hj : slot ρ j = some a) (hy : si.nm[j]? = some y) (hij : i ≠ j) : y ≠ x := by
  intro e
  subst e
  have hjn : j < si.nf := by
    rcases Nat.lt_or_ge j si.nf with h | h
    · exact h
    · rw [fr.own j h] at hj; cases hj
  have hi' : (si.nm.take si.nf)[i]? = some y := by rw [List.getElem?_take_of_lt hi]; exact hx
  have hj' : (si.nm.take si.nf)[j]? = some y := by rw [List.getElem?_take_of_lt hjn]; exact hy
  obtain ⟨l1, e1⟩ := List.getElem?_eq_some_iff.mp hi'
  obtain ⟨l2, e2⟩ := List.getElem?_eq_some_iff.mp hj'
  exact hij ((List.getElem_inj (i := i) (j := j) (h₀ := l1) (h₁ := l2) fr.nodup).mp (e1.trans e2.symm))

noncomputable def storable (si : SI) (x : Str) : Bool := si.scope.names.lookup x == some .local || si.scope.names.lookup x == some .cell
theorem FRel.store {env : Env} {ρ : Slots} {x : Str} {i : Nat} {a : AV} {v : Value} {V' : Led} {m' cm' : Str → Option Value} (fr : FRel W si env L m cm V inj Z ρ) (hi : i < si.nf) (hx : si.nm[i]? = some x) (r : RepA W inj Z v a) (are : CellsAre cm' env.cells V')
    (h1 : (env.kindOf x = some .local ∧ m' x = some v) ∨ (env.kindOf x = some .cell ∧ cm' x = some v)) (h2 : ∀ y, y ≠ x → m' y = m y ∧ cm' y = cm y) : FRel W si env L m' cm' V' inj Z (ρ.set i (some a)) where
  scope := fr.scope
  loc := fr.loc
  cells := fr.cells
  are := are
  nodup := fr.nodup
  own := fun j hj => by rw [slot_set, if_neg (by omega)]; exact fr.own j hj
  slots := fun j b y hs hn => by
    rw [slot_set] at hs
    by_cases hij : i = j
    · subst hij
      have hxy : y = x := by rw [hx] at hn; exact (Option.some.inj hn).symm
      subst hxy
      split at hs
      · cases hs; exact ⟨v, r, h1⟩
      · rename_i hl
        obtain ⟨w, rw', hk⟩ := fr.slots i b y hs hn
        unfold slot at hs
        have : ρ.length ≤ i := by omega
        rw [List.getElem?_eq_none this] at hs
        cases hs
    · rw [if_neg (by omega)] at hs
      obtain ⟨w, rw', hk⟩ := fr.slots j b y hs hn
      have hne := slot_same fr hi hx hs hn hij
      rw [← (h2 y hne).1, ← (h2 y hne).2] at hk
      exact ⟨w, rw', hk⟩
theorem store_ok {A : Around} {E : Value → Shared → Prop} {s : Shared} {env : Env} {ρ : Slots} {x : Str} {i : Nat} {a : AV} {v : Value} {Q : Unit → Shared → Prop} {M : Model} (st : Stat si env L) (fr : FRel W si env L m cm V inj Z ρ) (S : St W inj σ C V Y Z h₀ L m s.heap)
    (hi : i < si.nf) (hx : si.nm[i]? = some x) (hk : storable si x = true) (r : RepA W inj Z v a)
    (h : ∀ h' tk m' cm' V', St W inj σ C V' Y Z h₀ L m' h' → FRel W si env L m' cm' V' inj Z (ρ.set i (some a)) → Q () { s with heap := h', toks := tk }) : wpAny M A (storeName env x v) Q E s := by
  have hke : env.scope.kind = .function := by rw [st.scope]; exact st.kind
  have hko : env.kindOf x = si.scope.names.lookup x := by show env.scope.names.lookup x = _; rw [st.scope]
  unfold storable at hk
  rw [← hko] at hk
  simp only [Bool.or_eq_true, beq_iff_eq] at hk
  rcases hk with hk | hk
  · refine wpAny_storeName_local hk (by rw [st.loc]; exact S.fr.ns) (fun h' hn hs => ?_) (by rw [hke]; rfl)
    rw [st.loc] at hn hs
    refine h h' _ _ cm V (S.keep (S.fr.set hn hs) (S.news.set hs)) (fr.store hi hx r fr.are (.inl ⟨hk, by simp⟩) fun y hy => ⟨by simp [hy], rfl⟩)
  · have hc : ((cellsFrom (L + 1) si.scope.names []).lookup x).isSome = true := cellsFrom_some _ _ _ (.inl (by rw [← st.scope]; exact hk))
    rw [← fr.cells] at hc
    obtain ⟨c, hc⟩ := Option.isSome_iff_exists.mp hc
    obtain ⟨o, ho, hd⟩ := cellsAre_look fr.are hc
    have hmem := S.news (c, o) (by simp [ho])
    refine wpAny_storeName_cell hke hk hc ⟨o, hmem.1, hd⟩ fun h' hv hs => ?_
    obtain ⟨o', ho', hd'⟩ := hv
    have hnd := S.nd
    have hndV : (V.map (·.1)).Nodup := by rw [List.map_append] at hnd; exact (List.nodup_append.mp hnd).2.1
    have hiff : ∀ y d, (y, d) ∈ env.cells → (y = x ↔ d = c) := fun y d hm => by
      refine ⟨fun e => ?_, fun e => ?_⟩
      · subst e
        have := lookup_of_mem_nodup st.nd hm
        rw [hc] at this; exact (Option.some.inj this).symm
      · subst e
        exact nodup_keys_val (by rw [← CellsAre.keys fr.are]; exact hndV) hm (lookup_mem2 hc)
    have are' := CellsAre.upd hd' fr.are st.nd hndV hiff
    refine h h' s.toks m _ (setO c o' V) ?_ (fr.store hi hx r are' (.inr ⟨hk, by simp⟩) fun y hy => ⟨rfl, by simp [hy]⟩)
    have hdis : ∀ p ∈ C.flatten, p.1 ≠ c := fun p hp e => by
      rw [List.map_append] at hnd
      exact (List.nodup_append.mp hnd).2.2 p.1 (mem_keys hp) c (mem_keys ho) e
    refine ⟨S.fr.change hs hmem.2.1 hmem.2.2, fun p hp => ?_, nodup_of_keys setO_keys hnd, fun p hp q hq => ?_, S.ay, S.cells⟩
    · have old : ∀ p, p ∈ C.flatten ++ (V ++ (Y ++ Z)) → p.1 ≠ c → h'.get? p.1 = some p.2 ∧ p.1 ≠ L ∧ h₀.get? p.1 = none := fun p hp hpc => ⟨hs.extBut _ _ hpc (S.news p hp).1, (S.news p hp).2⟩
      simp only [List.mem_append] at hp
      rcases hp with hp | hp | hp
      · exact old p (by simp [hp]) (hdis p hp)
      · rcases setO_mem hp with ⟨rfl, _⟩ | ⟨hp, hpc⟩
        · exact ⟨ho', hmem.2⟩
        · exact old p (by simp [hp]) hpc
      · refine old p (by simp [hp]) fun e => ?_
        exact S.ap (c, o) (by simp [ho]) p (by simp [hp]) e.symm
    · rcases List.mem_append.mp hp with hp | hp
      · exact S.ap p (by simp [hp]) q hq
      · obtain ⟨p', hp', e⟩ := keys_mem setO_keys hp
        rw [← e]; exact S.ap p' (by simp [hp']) q hq
end

inductive FlRep (W : Wo) (inj : List Addr) (Z : Led) : Flow → Fl → Prop
  | next : FlRep W inj Z .next .next
  | ret {v : Value} {a : AV} : RepA W inj Z v a → FlRep W inj Z (.ret v) (.ret a)

noncomputable def FlRepK (W : Wo) (inj : List Addr) (Z : Led) (M : Flow → Prop) : Fl → Prop
  | .next => M .next
  | .ret a => ∀ v, RepA W inj Z v a → M (.ret v)
theorem FlRep.cps {W : Wo} {inj : List Addr} {Z : Led} {f : Flow} {fl : Fl} (r : FlRep W inj Z f fl) : ∀ M : Flow → Prop, FlRepK W inj Z M fl → M f :=
  FlRep.casesOn (motive := fun f fl _ => ∀ M : Flow → Prop, FlRepK W inj Z M fl → M f) r (fun M k => k) (fun x M k => k _ x)
theorem FlRep.of_next {W : Wo} {inj : List Addr} {Z : Led} {f : Flow} (r : FlRep W inj Z f .next) : f = .next := r.cps (fun f => f = .next) rfl
theorem FlRep.of_ret {W : Wo} {inj : List Addr} {Z : Led} {f : Flow} {a : AV} (r : FlRep W inj Z f (.ret a)) : ∃ v, f = .ret v ∧ RepA W inj Z v a := r.cps (fun f => ∃ v, f = .ret v ∧ RepA W inj Z v a) fun v x => ⟨v, rfl, x⟩
noncomputable def SPost (W : Wo) (si : SI) (env : Env) (h₀ : Heap) (L : Addr) (Y : Led) (inj : List Addr) (Z : Led) (fl : Fl) (ρ' : Slots) (σ' : Store) (s : Shared) (Q : Flow → Shared → Prop) : Prop :=
  ∀ f h' tk' inj' C' V' Z' m' cm', St W inj' σ' C' V' Y Z' h₀ L m' h' → Grow inj inj' Z Z' → FRel W si env L m' cm' V' inj' Z' ρ' → FlRep W inj' Z' f fl → Q f { s with heap := h', toks := tk' }

noncomputable def SS (W : Wo) (n : Nat) (F : Fns) (si : SI) (e : Stmt) (t : S) : Prop :=
  ∀ ⦃A : Around⦄ ⦃h₀ : Heap⦄ ⦃L : Addr⦄ ⦃env : Env⦄ ⦃m cm : Str → Option Value⦄ ⦃s : Shared⦄ ⦃Q : Flow → Shared → Prop⦄ ⦃E : Value → Shared → Prop⦄ ⦃inj : List Addr⦄ ⦃σ : Store⦄ ⦃C : List Led⦄ ⦃V Y Z : Led⦄ ⦃ρ : Slots⦄ ⦃fl : Fl⦄ ⦃ρ' : Slots⦄ ⦃σ' : Store⦄,
    Act W n A h₀ L env → Stat si env L → FRel W si env L m cm V inj Z ρ → St W inj σ C V Y Z h₀ L m s.heap → evS F t ρ σ = some (fl, ρ', σ') →
    SPost W si env h₀ L Y inj Z fl ρ' σ' s Q → wpAny (model W.prog W.w) A (exec e env) Q E s
noncomputable def SX (W : Wo) (n : Nat) (F : Fns) (si : SI) (es : List Stmt) (ts : List S) : Prop :=
  ∀ ⦃A : Around⦄ ⦃h₀ : Heap⦄ ⦃L : Addr⦄ ⦃env : Env⦄ ⦃m cm : Str → Option Value⦄ ⦃s : Shared⦄ ⦃Q : Flow → Shared → Prop⦄ ⦃E : Value → Shared → Prop⦄ ⦃inj : List Addr⦄ ⦃σ : Store⦄ ⦃C : List Led⦄ ⦃V Y Z : Led⦄ ⦃ρ : Slots⦄ ⦃fl : Fl⦄ ⦃ρ' : Slots⦄ ⦃σ' : Store⦄,
    Act W n A h₀ L env → Stat si env L → FRel W si env L m cm V inj Z ρ → St W inj σ C V Y Z h₀ L m s.heap → evSs F ts ρ σ = some (fl, ρ', σ') →
    SPost W si env h₀ L Y inj Z fl ρ' σ' s Q → wpAny (model W.prog W.w) A (execs es env) Q E s

section
variable {W : Wo} {n : Nat} {F : Fns} {si : SI} {inj inj' : List Addr} {σ : Store} {C : List Led} {V Y Z Z' O : Led} {h₀ h h' : Heap} {L : Addr} {m cm m' : Str → Option Value}
theorem SPost.trans {env : Env} {fl : Fl} {ρ' : Slots} {σ' : Store} {s : Shared} {Q : Flow → Shared → Prop} {tk : Nat} (g : Grow inj inj' Z Z') (h : SPost W si env h₀ L Y inj Z fl ρ' σ' s Q) : SPost W si env h₀ L Y inj' Z' fl ρ' σ' { s with heap := h', toks := tk } Q :=
  fun f h' tk' inj' C' V' Z' m' cm' S' g' fr' fl' => h f h' tk' inj' C' V' Z' m' cm' S' (g.trans g') fr' fl'
theorem SPost.fin {env : Env} {ρ' : Slots} {σ' : Store} {s : Shared} {Q : Flow → Shared → Prop} {tk : Nat} (hp : SPost W si env h₀ L Y inj Z .next ρ' σ' s Q) {C' : List Led} {V' : Led} (S : St W inj' σ' C' V' Y Z' h₀ L m' h') (g : Grow inj inj' Z Z') (fr : FRel W si env L m' cm V' inj' Z' ρ') : Q .next { s with heap := h', toks := tk } :=
  hp .next h' tk inj' C' V' Z' m' cm S g fr .next

theorem SX.nil : SX W n F si [] [] := by
  intro A h₀ L env m cm s Q E inj σ C V Y Z ρ fl ρ' σ' act st fr S he hp
  exact wpAny_execs_nil (SPost.fin (of_someS (K := fun fl ρ' σ' => SPost W si env h₀ L Y inj Z fl ρ' σ' s Q) he hp) (tk := s.toks) S Grow.rfl fr)
theorem SX.cons {e : Stmt} {es : List Stmt} {t : S} {ts : List S} (h : SS W n F si e t) (hs : SX W n F si es ts) : SX W n F si (e :: es) (t :: ts) := by
  intro A h₀ L env m cm s Q E inj σ C V Y Z ρ fl ρ' σ' act st fr S he hp
  refine of_bindC he fun q v₁ he => wpAny_execs_cons (h act st fr S v₁ fun f h' tk' inj' C' V' Z' m' cm' S' g fr' fl' => ?_)
  obtain ⟨f1, ρ1, σ1⟩ := q
  cases f1 with
  | next =>
    rw [fl'.of_next]
    exact hs (s := { s with heap := h', toks := tk' }) act st fr' S' he (hp.trans g)
  | ret a =>
    obtain ⟨v, ef, r⟩ := fl'.of_ret
    rw [ef]
    exact of_someS (K := fun fl ρ' σ' => SPost W si env h₀ L Y inj Z fl ρ' σ' s Q) he hp _ h' tk' inj' C' V' Z' m' cm' S' g fr' (.ret r)
theorem SX.bot {es : List Stmt} {ts : List S} : SX W n F si es (.bot :: ts) := by
  intro A h₀ L env m cm s Q E inj σ C V Y Z ρ fl ρ' σ' act st fr S he hp
  exact of_bindC he fun q v₁ he => nomatch v₁
theorem SS.bot {e : Stmt} : SS W n F si e .bot := by
  intro A h₀ L env m cm s Q E inj σ C V Y Z ρ fl ρ' σ' act st fr S he hp
  cases he

noncomputable def isComp (e : Expr) : Bool := e.ctorIdx == (Expr.ListComp default default default default).ctorIdx || (e.ctorIdx == (Expr.SetComp default default default default).ctorIdx || e.ctorIdx == (Expr.DictComp default default default default default).ctorIdx)
theorem swaps_no {e : Expr} {t : Option Expr} {k : Nat} {env : Env} (h : isComp e = false) : swapsWith e t k env = pure false := by
  cases e <;> first | rfl | exact nomatch h
theorem SS.asg {x : Str} {px pos : Pos} {e : Expr} {t : T} {i : Nat} (h : SE W n F si e t) (hi : i < si.nf) (hx : si.nm[i]? = some x) (hk : storable si x = true)
    (hs : ∀ env : Env, env.scope = si.scope → swapsWith e (some (.Name x px)) pos.line env = pure false) : SS W n F si (.Assign [.Name x px] e pos) (.asg i t) := by
  intro A h₀ L env m cm s Q E inj σ C V Y Z ρ fl ρ' σ' act st fr S he hp
  refine of_mapS (K := fun fl ρ' σ' => SPost W si env h₀ L Y inj Z fl ρ' σ' s Q) he hp fun p v₁ hp => ?_
  refine wpAny_Assign_Name (h act (fr.eh st) S v₁ fun v h' tk' inj' C' Z' S' g r => ?_) (hs env st.scope)
  exact store_ok (s := { s with heap := h', toks := tk' }) st (fr.mono g) S' hi hx hk r fun h'' tk m' cm' V' S'' fr'' => hp.fin S'' g fr''
theorem SS.ret {pos : Pos} {e : Expr} {t : T} (h : SE W n F si e t) : SS W n F si (.Return (some e) pos) (.ret t) := by
  intro A h₀ L env m cm s Q E inj σ C V Y Z ρ fl ρ' σ' act st fr S he hp
  refine of_mapS (K := fun fl ρ' σ' => SPost W si env h₀ L Y inj Z fl ρ' σ' s Q) he hp fun p v₁ hp => ?_
  exact wpAny_Return_some (h act (fr.eh st) S v₁ fun v h' tk' inj' C' Z' S' g r => hp _ h' tk' inj' C' V Z' m cm S' g (fr.mono g) (.ret r))
theorem SS.iff {pos : Pos} {e : Expr} {t : T} {b₁ b₂ : List Stmt} {t₁ t₂ : List S} (h : SB W n F si e t) (h₁ : SX W n F si b₁ t₁) (h₂ : SX W n F si b₂ t₂) : SS W n F si (.If e b₁ b₂ pos) (.iff t t₁ t₂) := by
  intro A h₀ L env m cm s Q E inj σ C V Y Z ρ fl ρ' σ' act st fr S he hp
  refine of_bindC he fun p v₁ he => of_bindC he fun c hc he => wpAny_If (h act (fr.eh st) S v₁ ⟨hc, fun h' tk' inj' C' Z' S' g => of_condC he (fun ec he => ?_) fun ec he => ?_⟩)
  · refine ite_t ec ?_
    exact h₁ (s := { s with heap := h', toks := tk' }) act st (fr.mono g) S' he (hp.trans g)
  · refine ite_f ec ?_
    exact h₂ (s := { s with heap := h', toks := tk' }) act st (fr.mono g) S' he (hp.trans g)
end
end Mine

namespace Mine
open PySem PySem.W PySem.Calls PyProof.Rows

section
variable {W : Wo} {n : Nat} {F : Fns} {si : SI} {inj inj' : List Addr} {σ σ' : Store} {C C₁ C₂ : List Led} {e e' V Y Z Z' O : Led} {h₀ h h' : Heap} {L : Addr} {m cm m' : Str → Option Value}

theorem St.recell (S : St W inj σ (C₁ ++ e :: C₂) V Y Z h₀ L m h) (hk : ∀ p ∈ e', (∃ q ∈ e, q.1 = p.1) ∨ ∀ q ∈ (C₁ ++ e :: C₂).flatten ++ (V ++ (Y ++ Z)), q.1 ≠ p.1) (nd' : (e'.map (·.1)).Nodup) (F' : Fr h₀ L h' m')
    (N' : News h₀ L h' ((C₁ ++ e' :: C₂).flatten ++ (V ++ (Y ++ Z)))) (cs : Cells W Z σ' inj (C₁ ++ e' :: C₂)) : St W inj σ' (C₁ ++ e' :: C₂) V Y Z h₀ L m' h' := by
  have nd := S.nd
  simp only [List.flatten_append, List.flatten_cons, List.map_append, List.append_assoc, List.nodup_append, List.mem_append, List.mem_map, ne_eq] at nd hk ⊢
  obtain ⟨n1, ⟨n2, ⟨n3, n4, n5⟩, n6⟩, n7⟩ := nd
  have off : ∀ p ∈ e', ∀ q, q ∈ C₁.flatten ∨ q ∈ C₂.flatten ∨ q ∈ V → q.1 ≠ p.1 := by
    intro p hp q hq ee
    rcases hk p hp with ⟨p', hp', e1⟩ | hf
    · rcases hq with hq | hq
      · exact n7 q.1 ⟨q, hq, rfl⟩ p.1 (.inl ⟨p', hp', e1⟩) ee
      · exact n6 p.1 ⟨p', hp', e1⟩ q.1 (hq.imp (fun h => ⟨q, h, rfl⟩) fun h => ⟨q, h, rfl⟩) ee.symm
    · rcases hq with hq | hq | hq
      · exact hf q (.inl hq) ee
      · exact hf q (.inr (.inr (.inl hq))) ee
      · exact hf q (.inr (.inr (.inr (.inl hq)))) ee
  have offYZ : ∀ p ∈ e', ∀ q ∈ Y ++ Z, p.1 ≠ q.1 := by
    intro p hp q hq ee
    rcases hk p hp with ⟨p', hp', e1⟩ | hf
    · exact S.ap p' (by simp [hp']) q hq (e1.trans ee)
    · refine hf q ?_ ee.symm
      rcases List.mem_append.mp hq with h | h
      · exact .inr (.inr (.inr (.inr (.inl h))))
      · exact .inr (.inr (.inr (.inr (.inr h))))
  refine ⟨F', N', ?_, fun p hp q hq => ?_, S.ay, cs⟩
  · simp only [List.flatten_append, List.flatten_cons, List.map_append, List.append_assoc, List.nodup_append, List.mem_append, List.mem_map, ne_eq]
    refine ⟨n1, ⟨nd', ⟨n3, n4, n5⟩, ?_⟩, ?_⟩
    · rintro a ⟨p, hp, rfl⟩ b hb ee
      rcases hb with ⟨q, hq, rfl⟩ | ⟨q, hq, rfl⟩
      · exact off p hp q (.inr (.inl hq)) ee.symm
      · exact off p hp q (.inr (.inr hq)) ee.symm
    · rintro a ⟨p, hp, rfl⟩ b hb ee
      rcases hb with ⟨q, hq, rfl⟩ | hb
      · exact off q hq p (.inl hp) ee
      · exact n7 p.1 ⟨p, hp, rfl⟩ b (.inr hb) ee
  · simp only [List.flatten_append, List.flatten_cons, List.mem_append] at hp
    rcases hp with (hp | hp | hp) | hp
    · exact S.ap p (by simp [hp]) q hq
    · exact offYZ p hp q hq
    · exact S.ap p (by simp [hp]) q hq
    · exact S.ap p (by simp [hp]) q hq

theorem cell_only {a : Addr} {o o' : Obj} (S : St W inj σ (C₁ ++ [(a, o)] :: C₂) V Y Z h₀ L m h) {p : Addr × Obj} (hp : p ∈ (C₁ ++ [(a, o')] :: C₂).flatten ++ (V ++ (Y ++ Z))) (hpa : p.1 = a) : p = (a, o') := by
  have nd := S.nd
  have ap := S.ap
  clear S
  simp only [List.flatten_append, List.flatten_cons, List.mem_append, List.mem_singleton] at hp
  simp only [List.flatten_append, List.flatten_cons, List.map_append, List.append_assoc, List.nodup_append, List.mem_append, List.mem_map, ne_eq, List.map_cons, List.map_nil, List.mem_singleton] at nd
  obtain ⟨n1, ⟨n2, n3, n6⟩, n7⟩ := nd
  rcases hp with (hp | hp | hp) | hp | hp
  · exact (n7 p.1 ⟨p, hp, rfl⟩ p.1 (.inl hpa) rfl).elim
  · exact hp
  · exact (n6 a rfl p.1 (.inl ⟨p, hp, rfl⟩) hpa.symm).elim
  · exact (n6 a rfl p.1 (.inr ⟨p, hp, rfl⟩) hpa.symm).elim
  · exact (ap (a, o) (by simp) p (List.mem_append.mpr hp) hpa.symm).elim
theorem cell_old {a : Addr} {o o' : Obj} {p : Addr × Obj} (hp : p ∈ (C₁ ++ [(a, o')] :: C₂).flatten ++ (V ++ (Y ++ Z))) (hpa : p.1 ≠ a) : p ∈ (C₁ ++ [(a, o)] :: C₂).flatten ++ (V ++ (Y ++ Z)) := by
  simp only [List.flatten_append, List.flatten_cons, List.mem_append, List.mem_singleton] at hp ⊢
  rcases hp with (hp | hp | hp) | hp
  · exact .inl (.inl hp)
  · exact (hpa (by rw [hp])).elim
  · exact .inl (.inr (.inr hp))
  · exact .inr hp
/-- a list cell, and what it may be written to -/
theorem St.cellList (S : St W inj σ C V Y Z h₀ L m h) {i : Nat} {a : Addr} {l : List D} (hc : σ[i]? = some (.list l)) (hi : inj[i]? = some a) :
    X2 fun vs k => A3 (h.get? a = some (lstO vs k)) (Reps W Z vs l) (∀ h' vs' k' l', Heap.SameBut a h h' → h'.get? a = some (lstO vs' k') → Reps W Z vs' l' → ∃ C', St W inj (σ.set i (.list l')) C' V Y Z h₀ L m h') := by
  obtain ⟨C₁, e, C₂, a', hC, ha, hr, put⟩ := S.cells.split _ _ hc
  rw [← Option.some.inj (hi.symm.trans ha)] at hr put
  obtain ⟨vs, k, he, r⟩ := hr.of_list
  rw [hC, he] at S
  have hm := S.news _ (mem_cell (List.mem_singleton.mpr rfl))
  refine ⟨vs, k, hm.1, r, fun h' vs' k' l' hs hg rr => ⟨C₁ ++ [(a, lstO vs' k')] :: C₂, ?_⟩⟩
  refine S.recell (fun p hp => .inl ⟨_, List.mem_singleton.mpr rfl, by rw [List.mem_singleton.mp hp]⟩) (by simp) (S.fr.change hs hm.2.1 hm.2.2) (fun p hp => ?_) (put _ _ Z (fun _ h => h) (.list rr))
  by_cases hpa : p.1 = a
  · rw [cell_only S hp hpa]; exact ⟨hg, hm.2⟩
  · have n := S.news p (cell_old hp hpa)
    exact ⟨hs.extBut _ _ hpa n.1, n.2⟩
/-- a fresh cell at the end -/
theorem St.fresh (S : St W inj σ C V Y Z h₀ L m h) {a : Addr} {c : D} {e : Led} (F' : Fr h₀ L h' m) (N' : News h₀ L h' (e ++ (C.flatten ++ (V ++ (Y ++ Z))))) (lt : ∀ x ∈ e, ∀ p ∈ C.flatten ++ (V ++ (Y ++ Z)), p.1 ≠ x.1) (nd' : (e.map (·.1)).Nodup) (r : CellRep W Z c a e) :
    St W (inj ++ [a]) (σ ++ [c]) (C ++ [e]) V Y Z h₀ L m h' := by
  have nd := S.nd
  refine ⟨F', fun p hp => N' p ?_, ?_, fun p hp q hq => ?_, S.ay, S.cells.append (.cons r .nil)⟩
  · simp only [List.flatten_append, List.flatten_cons, List.flatten_nil, List.append_nil, List.mem_append] at hp ⊢
    rcases hp with (h | h) | h | h | h <;> simp [h]
  · simp only [List.flatten_append, List.flatten_cons, List.flatten_nil, List.append_nil, List.map_append, List.append_assoc, List.nodup_append, List.mem_append, List.mem_map, ne_eq] at nd ⊢
    obtain ⟨n1, n2, n3⟩ := nd
    refine ⟨n1, ⟨nd', n2, ?_⟩, ?_⟩
    · rintro a ⟨p, hp, rfl⟩ b ⟨q, hq, rfl⟩ ee
      exact lt p hp q (by simp [hq]) ee.symm
    · rintro a ⟨p, hp, rfl⟩ b hb ee
      rcases hb with ⟨q, hq, rfl⟩ | ⟨q, hq, rfl⟩
      · exact lt q hq p (by simp [hp]) ee
      · exact n3 p.1 ⟨p, hp, rfl⟩ q.1 ⟨q, hq, rfl⟩ ee
  · simp only [List.flatten_append, List.flatten_cons, List.flatten_nil, List.append_nil, List.mem_append] at hp
    rcases hp with (h | h) | h
    · exact S.ap p (by simp [h]) q hq
    · exact fun ee => lt p h q (by simp only [List.mem_append] at hq ⊢; rcases hq with h | h <;> simp [h]) ee.symm
    · exact S.ap p (by simp [h]) q hq
theorem Grow.snoc {a : Addr} : Grow inj (inj ++ [a]) Z Z := ⟨⟨[a], Eq.refl _⟩, fun _ h => h⟩

theorem SS.asgL {x : Str} {px pos lpos : Pos} {es : List Expr} {ts : List T} {i : Nat} (h : SEs W n F si es ts) (hst : starless es = true) (hl : es.length ≤ 1000) (hi : i < si.nf) (hx : si.nm[i]? = some x) (hk : storable si x = true) : SS W n F si (.Assign [.Name x px] (.List es lpos) pos) (.asgL i ts) := by
  intro A h₀ L env m cm s Q E inj σ C V Y Z ρ fl ρ' σ' act st fr S he hp
  refine of_bindC he fun p v₁ he => of_mapS (K := fun fl ρ' σ' => SPost W si env h₀ L Y inj Z fl ρ' σ' s Q) he hp fun ds hd hp => ?_
  refine wpAny_Assign_Name (List_ (SEs.run _ h hst act (fr.eh st) S v₁ fun vs h' tk' inj' C' Z' S' g rs => ?_)) (swaps_no rfl)
  have rr := rs.vals hd
  refine newList_K S'.fr S'.news (fun l h'' F' N' lt => ?_) (seq_len h v₁ hd rr hl)
  have S'' := S'.fresh (e := [(l, lstO vs 0)]) F' N' (fun x hx p hp => by rw [List.mem_singleton.mp hx]; exact Nat.ne_of_lt (lt p hp)) (by simp) (.list rr)
  have e1 : inj'.length = p.2.length := S'.cells.len.1
  have g' := g.trans (Grow.snoc (a := l))
  refine store_ok (s := { s with heap := h'', toks := tk' }) st (fr.mono g') S'' hi hx hk (.loc (i := p.2.length) (by rw [← e1, List.getElem?_append_right (Nat.le_refl _), Nat.sub_self]; rfl)) fun h3 tk3 m3 cm3 V3 S3 fr3 => hp.fin S3 g' fr3
theorem SS.asgN {x y : Str} {px py pos cpos : Pos} {es : List Expr} {ts : List T} {i c : Nat} (ok : CallOk W n F) (h : SEs W n F si es ts) (hst : starless es = true) (hi : i < si.nf) (hx : si.nm[i]? = some x) (hk : storable si x = true)
    (hg : si.scope.names.lookup y = some .globalImplicit) (hd : (y == ("__debug__" : Str)) = false) (hv : nsIn W.K mainGlobals y = some (some (.ref (W.nm.fa (1000 + c))))) (hkeep : keepIn W.K (.ref (W.nm.fa (1000 + c))) = true) :
    SS W n F si (.Assign [.Name x px] (.Call (.Name y py) es [] cpos) pos) (.asgN i c ts) := by
  have hE : SE W n F si (.Call (.Name y py) es [] cpos) (.call (1000 + c) ts) := SE.call ok h hst hg hd hv hkeep
  intro A h₀ L env m cm s Q E inj σ C V Y Z ρ fl ρ' σ' act st fr S he hp
  refine of_bindC he fun p v₁ he => of_mapS (K := fun fl ρ' σ' => SPost W si env h₀ L Y inj Z fl ρ' σ' s Q) he hp fun q v₂ hp => ?_
  refine wpAny_Assign_Name (hE act (fr.eh st) S (a := q.1) (σ' := q.2) (by show (evs F ts ρ σ).bind _ = _; rw [v₁]; exact v₂) fun v h' tk' inj' C' Z' S' g r => ?_) (swaps_no rfl)
  exact store_ok (s := { s with heap := h', toks := tk' }) st (fr.mono g) S' hi hx hk r fun h'' tk m' cm' V' S'' fr'' => hp.fin S'' g fr''
end
end Mine

namespace Mine
open PySem PySem.W PySem.Calls PyProof.Rows

noncomputable def nameTo (si : SI) : List Expr → List Nat → Bool
  | [], is => is.isEmpty
  | e :: es, is => rName (fun x _ => l1 (fun i is => decide (i < si.nf) && (si.nm[i]? == some x && (storable si x && nameTo si es is))) is) e

section
variable {W : Wo} {n : Nat} {F : Fns} {si : SI} {inj inj' : List Addr} {σ σ' : Store} {C C₁ C₂ : List Led} {e e' V Y Z Z' O : Led} {h₀ h h' : Heap} {L : Addr} {m cm m' : Str → Option Value}

theorem nameTo_cons {M : Expr → List Nat → Prop} {e : Expr} {es : List Expr} {is : List Nat} (k : ∀ x px i js, i < si.nf → si.nm[i]? = some x → storable si x = true → nameTo si es js = true → M (.Name x px) (i :: js)) (h : nameTo si (e :: es) is = true) : M e is :=
  of_rName (M := fun e => M e is) (fun x px h => of_l1 (M := fun is => M (.Name x px) is) (fun i js h => k x px i js (bDec (bAnd h).1) (eq_of_beq (bAnd (bAnd h).2).1) (bAnd (bAnd (bAnd h).2).2).1 (bAnd (bAnd (bAnd h).2).2).2) h) h
theorem nameTo_each {env : Env} {es : List Expr} : ∀ {is : List Nat}, nameTo si es is = true → A3 ((assignEach es env).length = es.length) ((assignEach es env).findIdx? (·.1) = none) (es.length = is.length) := by
  induction es with
  | nil => intro is h; exact nilE (M := fun is => A3 ((assignEach [] env).length = 0) ((assignEach [] env).findIdx? (·.1) = none) (0 = is.length)) ⟨rfl, rfl, rfl⟩ h
  | cons e es ih =>
    intro is h
    refine nameTo_cons (M := fun e is => A3 ((assignEach (e :: es) env).length = es.length + 1) ((assignEach (e :: es) env).findIdx? (·.1) = none) (es.length + 1 = is.length)) (fun x px i js _ _ _ h => ?_) h
    obtain ⟨h1, h2, h3⟩ := ih h
    refine ⟨congrArg (· + 1) h1, ?_, congrArg (· + 1) h3⟩
    show ((false, assign (.Name x px) env) :: assignEach es env).findIdx? (·.1) = none
    rw [List.findIdx?_cons, h2]; rfl
theorem setSlots_len {is : List Nat} : ∀ {ds : List D} {ρ ρ' : Slots}, setSlots is ds ρ = some ρ' → is.length = ds.length := by
  induction is with
  | nil => intro ds ρ ρ' h; cases ds with | nil => rfl | cons _ _ => cases h
  | cons i is ih => intro ds ρ ρ' h; cases ds with | nil => cases h | cons d ds => exact congrArg (· + 1) (ih h)
theorem asgEach_ok {A : Around} {E : Value → Shared → Prop} {env : Env} {M : Model} {ρ' : Slots} (st : Stat si env L) (es : List Expr) : ∀ {is : List Nat} {ds : List D} {vs : List Value} {ρ : Slots} {m cm : Str → Option Value} {V : Led} {s : Shared} {Q : Unit → Shared → Prop},
    nameTo si es is = true → Reps W Z vs ds → setSlots is ds ρ = some ρ' → FRel W si env L m cm V inj Z ρ → St W inj σ C V Y Z h₀ L m s.heap →
    (∀ h' tk m' cm' V', St W inj σ C V' Y Z h₀ L m' h' → FRel W si env L m' cm' V' inj Z ρ' → Q () { s with heap := h', toks := tk }) →
    wpAny M A (assignInOrder ((assignEach es env).map (·.2)) vs) Q E s := by
  induction es with
  | nil =>
    intro is ds vs ρ m cm V s Q hn rs hs fr S h
    cases is with
    | cons _ _ => cases hn
    | nil =>
      cases ds with
      | cons _ _ => cases hs
      | nil => rw [rs.of_nil]; exact wpAny_assignInOrder_none (h s.heap s.toks m cm V S (Option.some.inj hs ▸ fr))
  | cons e es ih =>
    intro is ds vs ρ m cm V s Q hn rs hs fr S h
    refine nameTo_cons (M := fun e is => setSlots is ds ρ = some ρ' → wpAny M A (assignInOrder ((assignEach (e :: es) env).map (·.2)) vs) Q E s) (fun x px i js h1 h2 h3 h4 hs => ?_) hn hs
    cases ds with
    | nil => cases hs
    | cons d ds =>
      refine rs.cps (fun vs => wpAny M A (assignInOrder ((assignEach (.Name x px :: es) env).map (·.2)) vs) Q E s) fun v vs r rs => ?_
      refine wpAny_assignInOrder_more (wpAny_assign_Name (store_ok st fr S h1 h2 h3 (.val r) fun h' tk m' cm' V' S' fr' => ?_))
      exact ih (s := { s with heap := h', toks := tk }) h4 rs hs fr' S' h

noncomputable def isCall (e : Expr) : Bool := rCall (fun _ _ _ _ => true) e
theorem SS.asgT {elts : List Expr} {k : Nat} {tpos pos : Pos} {e : Expr} {t : T} {is : List Nat} (h : SE W n F si e t) (hc : isCall e = true) (hn : nameTo si elts is = true) : SS W n F si (.Assign [.Tuple elts k tpos] e pos) (.asgT is t) := by
  intro A h₀ L env m cm s Q E inj σ C V Y Z ρ fl ρ' σ' act st fr S he hp
  have hsw : swapsWithSole [.Tuple elts k tpos] e pos.line env = pure false := of_rCall (M := fun e => swapsWithSole [.Tuple elts k tpos] e pos.line env = pure false) (fun _ _ _ _ _ => rfl) hc
  have hss : swappedStores [.Tuple elts k tpos] e env = pure none := of_rCall (M := fun e => swappedStores [.Tuple elts k tpos] e env = pure none) (fun _ _ _ _ _ => rfl) hc
  obtain ⟨n1, n2, n3⟩ := nameTo_each (env := env) hn
  refine of_bindC he fun p v₁ he => of_mapS (K := fun fl ρ' σ' => SPost W si env h₀ L Y inj Z fl ρ' σ' s Q) he hp fun ρ1 hρ hp => of_bindC hρ fun ds hds hs => ?_
  refine Assign_Tuple (h act (fr.eh st) S v₁ fun v h' tk' inj' C' Z' S' g r => ?_) hsw hss
  have l1 := setSlots_len hs
  rcases of_tupList hds with e | e
  · rw [e] at r
    obtain ⟨x, vs, j, ev, hm, rs⟩ := r.of_val.of_tup
    rw [ev]
    refine unpackN_ S'.fr S'.news (S'.isTup hm) act.hd (by rw [n1, n3, l1, ← rs.length]; rfl) n2 fun h'' F' N' => ?_
    exact asgEach_ok (s := { s with heap := h'', toks := tk' }) st _ hn rs hs (fr.mono g) (S'.keep F' N') fun h3 tk3 m3 cm3 V3 S3 fr3 => hp.fin S3 g fr3
  · rw [e] at r
    obtain ⟨x, vs, j, ev, hm, rs⟩ := r.of_val.of_list
    rw [ev]
    refine kun_list S'.fr S'.news (S'.isList hm) act.hd (by rw [n1, n3, l1, ← rs.length]; rfl) n2 fun h'' F' N' => ?_
    exact asgEach_ok (s := { s with heap := h'', toks := tk' }) st _ hn rs hs (fr.mono g) (S'.keep F' N') fun h3 tk3 m3 cm3 V3 S3 fr3 => hp.fin S3 g fr3

theorem aug_ok {op : Bop} {A : Around} {s : Shared} {Q E : Value → Shared → Prop} {v u : Value} {x y : AV} {z : AV} (hop : op = .add ∨ op = .sub) (r : RepA W inj Z v x) (q : RepA W inj Z u y) (h : augAV op x y = some z)
    (fin : ∀ w tk, RepA W inj Z w z → Q w { s with toks := tk }) : wpAny (model W.prog W.w) A (inplaceOp (opOf op) v u) Q E s := by
  refine of_condC h (fun _ h => nomatch h) fun hL h => of_bindC h fun d hd h => of_bindC h fun e he h => ?_
  obtain ⟨c, hc, hz⟩ := of_map h
  have r := r.at hd
  have q := q.at he
  rw [hd] at hL
  rcases hop with ho | ho
  · rw [ho] at hc ⊢
    cases d with
    | int a =>
      obtain ⟨b, hb, e⟩ := of_map hc
      exact r.cps (fun v => wpAny (model W.prog W.w) A (inplaceOp .Add v u) Q E s) fun t => q.eInt (M := fun u => wpAny (model W.prog W.w) A (inplaceOp .Add (.int a t) u) Q E s) hb fun t' => wpAny_iadd_int (fin _ _ (hz ▸ e ▸ .val (.int _ _)))
    | str a =>
      obtain ⟨b, hb, hc⟩ := of_bind hc
      obtain ⟨hl, e⟩ := of_if hc
      exact r.cps (fun v => wpAny (model W.prog W.w) A (inplaceOp .Add v u) Q E s) fun t => q.eStr (M := fun u => wpAny (model W.prog W.w) A (inplaceOp .Add (.str a t) u) Q E s) hb fun t' => PyProof.Rows.iadd_str (fun t tk => fin _ _ (hz ▸ e ▸ .val (.str _ t))) (by rw [sizeLine_eq]; exact Nat.le_trans hl (by decide))
    | list a => exact nomatch hL
    | _ => exact nomatch hc
  · rw [ho] at hc ⊢
    exact intsE (P := fun v u => wpAny (model W.prog W.w) A (inplaceOp .Sub v u) Q E s) r q hc fun a b t t' h => PyProof.Rows.isub_int (fin _ _ (hz ▸ Option.some.inj h ▸ .val (.int _ _)))
theorem SS.aug {x : Str} {px pos : Pos} {e : Expr} {t : T} {op : Bop} {i : Nat} (hop : op = .add ∨ op = .sub) (h : SE W n F si e t) (hi : i < si.nf) (hx : si.nm[i]? = some x) (hk : storable si x = true) :
    SS W n F si (.AugAssign (.Name x px) (opOf op) e pos) (.aug i op t) := by
  intro A h₀ L env m cm s Q E inj σ C V Y Z ρ fl ρ' σ' act st fr S he hp
  refine of_bindC he fun a hsl he => of_bindC he fun p v₁ he => of_mapS (K := fun fl ρ' σ' => SPost W si env h₀ L Y inj Z fl ρ' σ' s Q) he hp fun z hz hp => ?_
  have H : EH W si env h₀ L m V Y inj Z ρ := fr.eh st
  obtain ⟨v, hn, r⟩ := H.read i a x (by unfold SI.rd; rw [st.comp]) hsl hx
  refine wpAny_AugAssign_Name (hn _ _ _ _ _ S.fr S.vy (h act H S v₁ fun u h' tk' inj' C' Z' S' g q => ?_))
  exact aug_ok hop (r.mono g.z g.inj) q hz fun w tk3 rw' => store_ok (s := { s with heap := h', toks := tk3 }) st (fr.mono g) S' hi hx hk rw' fun h3 tk3 m3 cm3 V3 S3 fr3 => hp.fin S3 g fr3

/-! lists of the def's own -/
theorem size_ok {k : Nat} (h : k ≤ lim) : k ≤ sizeLine := by rw [sizeLine_eq]; exact Nat.le_trans h (by decide)
theorem RepA.isLoc {v : Value} {x : AV} {i : Nat} (r : RepA W inj Z v x) (h : x.loc? = some i) : ∃ a, v = .ref a ∧ inj[i]? = some a := r.eLoc (M := fun v => ∃ a, v = .ref a ∧ inj[i]? = some a) h fun a h => ⟨a, rfl, h⟩
theorem grow_at {i : Nat} {a : Addr} (g : Grow inj inj' Z Z') (h : inj[i]? = some a) : inj'[i]? = some a := by
  obtain ⟨⟨x, rfl⟩, _⟩ := g
  rw [List.getElem?_append_left (List.getElem?_eq_some_iff.mp h).1]; exact h
theorem list_method {A : Around} {env : Env} {s : Shared} {Q : Flow → Shared → Prop} {E : Value → Shared → Prop} {o : Expr} {name : Str} {apos cpos pos : Pos} {es : List Expr} {id : String} (hint : env.scope.kind = .function) (hb : plainBase o = true) (hs : starless es = true) (hlen : es.length < 29) (hpos : (apos.endLine == cpos.line) = true)
    (sl : Slot "list" name id) (ty : typeOf (.builtin id) = pure (.type "method_descriptor"))
    (hk : wpAny (model W.prog W.w) A (eval o env) (fun ov s₁ => X3 fun l vs k => A3 (ov = .ref l) (s₁.heap.get? l = some (lstO vs k)) (wpAny (model W.prog W.w) A (callWith cpos (.builtin id) [ov] (backTo cpos (starEach es env)) []) (fun _ => Q .next) E s₁)) E s) :
    wpAny (model W.prog W.w) A (exec (.Expr (.Call (.Attribute o name apos) es [] cpos) pos) env) Q E s := by
  refine wpAny_Expr_any (method_at hb hs hlen hpos PySem.F.plainAttrs_list sl ty (wpAny_mono hk (fun ov s₁ h => ?_) fun _ _ x => x)) (by unfold interactive; rw [hint]; rfl) rfl
  obtain ⟨l, vs, k, rfl, ho, hq⟩ := h
  exact ⟨⟨_, ho, rfl⟩, (fun a e => by cases e; exact ⟨_, ho, rfl⟩), hq⟩

theorem SS.app {o e : Expr} {apos cpos pos : Pos} {t u : T} (ho : SE W n F si o t) (h : SE W n F si e u) (hs : starless [e] = true) (hb : plainBase o = true) (hpos : (apos.endLine == cpos.line) = true) :
    SS W n F si (.Expr (.Call (.Attribute o "append" apos) [e] [] cpos) pos) (.app t u) := by
  intro A h₀ L env m cm s Q E inj σ C V Y Z ρ fl ρ' σ' act st fr S he hp
  have H : EH W si env h₀ L m V Y inj Z ρ := fr.eh st
  refine of_bindC he fun p v₁ he => of_bindC he fun i hi he => of_ifC he fun hL he => of_bindC he fun q v₂ he => of_bindC he fun d hd he => of_mapS (K := fun fl ρ' σ' => SPost W si env h₀ L Y inj Z fl ρ' σ' s Q) he hp fun c hc hp => of_bindC hc fun c0 hc hA => ?_
  obtain ⟨l₁, hc₁⟩ := of_isL hL
  obtain ⟨l, e0, hl, ec⟩ := of_cellA hA
  rw [e0] at hc
  rw [ec] at hp
  refine list_method H.kind hb hs (by simp) hpos PySem.F.slot_list_append PySem.F.type_list_append (ho act H S v₁ fun v h' tk' inj' C' Z' S' g r => ?_)
  obtain ⟨a, ev, hi⟩ := r.isLoc hi
  obtain ⟨vs₁, k₁, hg₁, _, _⟩ := S'.cellList hc₁ hi
  refine ⟨a, vs₁, k₁, ev, hg₁, ?_⟩
  rw [(starEach_cons (env := env) hs).1, ev]
  refine PySem.P.append_list (h (s := { s with heap := h', toks := tk' }) act (H.mono g) S' v₂ fun u h'' tk'' inj'' C'' Z'' S'' g' q => ?_)
  obtain ⟨vs, k, hg, rs, put⟩ := S''.cellList hc (grow_at g' hi)
  refine ⟨vs.toArray, k, size_ok (by rw [List.size_toArray, rs.length]; exact hl), hg, ?_⟩
  obtain ⟨C3, S3⟩ := put _ (vs ++ [u]) _ (l ++ [d]) (Heap.SameBut.update ..) (by have := IsL.update hg (·.push u); rw [List.push_toArray] at this; exact this) (rs.append (.cons (q.at hd) .nil))
  exact hp.fin S3 (g.trans g') (fr.mono (g.trans g'))
theorem SS.ext {o e : Expr} {apos cpos pos : Pos} {t u : T} (ho : SE W n F si o t) (h : SE W n F si e u) (hs : starless [e] = true) (hb : plainBase o = true) (hpos : (apos.endLine == cpos.line) = true) :
    SS W n F si (.Expr (.Call (.Attribute o "extend" apos) [e] [] cpos) pos) (.ext t u) := by
  intro A h₀ L env m cm s Q E inj σ C V Y Z ρ fl ρ' σ' act st fr S he hp
  have H : EH W si env h₀ L m V Y inj Z ρ := fr.eh st
  refine of_bindC he fun p v₁ he => of_bindC he fun i hi he => of_ifC he fun hL he => of_bindC he fun q v₂ he => of_bindC he fun d hd he => of_mapS (K := fun fl ρ' σ' => SPost W si env h₀ L Y inj Z fl ρ' σ' s Q) he hp fun c hc hp => of_bindC hc fun c0 hc hA => ?_
  obtain ⟨l₁, hc₁⟩ := of_isL hL
  obtain ⟨l, e0, hl, ec⟩ := of_cellE hA
  rw [e0] at hc
  rw [ec] at hp
  refine list_method H.kind hb hs (by simp) hpos PySem.F.slot_list_extend PySem.F.type_list_extend (ho act H S v₁ fun v h' tk' inj' C' Z' S' g r => ?_)
  obtain ⟨a, ev, hi⟩ := r.isLoc hi
  obtain ⟨vs₁, k₁, hg₁, _, _⟩ := S'.cellList hc₁ hi
  refine ⟨a, vs₁, k₁, ev, hg₁, ?_⟩
  rw [(starEach_cons (env := env) hs).1, ev]
  refine PySem.P.extend_list (h (s := { s with heap := h', toks := tk' }) act (H.mono g) S' v₂ fun u h'' tk'' inj'' C'' Z'' S'' g' q => ?_)
  rw [of_listV hd] at q
  obtain ⟨b, us, kb, eu, hm, q2⟩ := q.of_val.of_list
  obtain ⟨vs, k, hg, rs, put⟩ := S''.cellList hc (grow_at g' hi)
  have hz : vs.toArray.size + us.toArray.size ≤ sizeLine := size_ok (by rw [List.size_toArray, List.size_toArray, rs.length, q2.length]; exact hl)
  rw [eu]
  refine ⟨b, vs.toArray, us.toArray, k, kb, Nat.le_trans (Nat.le_add_right _ _) hz, Nat.le_succ_of_le hz, extend_door hz, rfl, hg, S''.zmem hm, ?_⟩
  obtain ⟨C3, S3⟩ := put _ (vs ++ us) _ (l ++ d) (Heap.SameBut.update ..) (by have := IsL.update hg (· ++ us.toArray); rw [List.append_toArray] at this; exact this) (rs.append q2)
  exact hp.fin S3 (g.trans g') (fr.mono (g.trans g'))
theorem SS.rev {o : Expr} {apos cpos pos : Pos} {t : T} (ho : SE W n F si o t) (hb : plainBase o = true) (hpos : (apos.endLine == cpos.line) = true) :
    SS W n F si (.Expr (.Call (.Attribute o "reverse" apos) [] [] cpos) pos) (.rev t) := by
  intro A h₀ L env m cm s Q E inj σ C V Y Z ρ fl ρ' σ' act st fr S he hp
  have H : EH W si env h₀ L m V Y inj Z ρ := fr.eh st
  refine of_bindC he fun p v₁ he => of_bindC he fun i hi he => of_mapS (K := fun fl ρ' σ' => SPost W si env h₀ L Y inj Z fl ρ' σ' s Q) he hp fun c hc hp => of_bindC hc fun c0 hc hA => ?_
  obtain ⟨l, e0, hl, ec⟩ := of_cellR hA
  rw [e0] at hc
  rw [ec] at hp
  refine list_method H.kind hb rfl (by simp) hpos PySem.F.slot_list_reverse PySem.F.type_list_reverse (ho act H S v₁ fun v h' tk' inj' C' Z' S' g r => ?_)
  obtain ⟨a, ev, hi⟩ := r.isLoc hi
  obtain ⟨vs, k, hg, rs, put⟩ := S'.cellList hc hi
  refine ⟨a, vs, k, ev, hg, ?_⟩
  rw [ev]
  refine PySem.P.reverse_list hg ?_ (size_ok (by rw [List.size_toArray, rs.length]; exact hl))
  obtain ⟨C3, S3⟩ := put _ vs.reverse _ l.reverse (Heap.SameBut.update ..) (by have := IsL.update hg (·.reverse); rw [List.reverse_toArray] at this; exact this) rs.reverse
  exact hp.fin S3 g (fr.mono g)
end
end Mine

namespace Mine
open PySem PySem.W PySem.Calls PyProof.Rows

section
variable {W : Wo} {n : Nat} {F : Fns} {si : SI} {inj inj' : List Addr} {σ σ' : Store} {C C₁ C₂ : List Led} {e e' V Y Z Z' O : Led} {h₀ h h' : Heap} {L : Addr} {m cm m' : Str → Option Value}

theorem iadd_lists {A : Around} {E : Value → Shared → Prop} {prog : Program} {w : World} {s : Shared} {a b : Addr} {vs ws : List Value} {k kb : Nat} {Q : Value → Shared → Prop} (ha : s.heap.get? a = some (lstO vs k)) (hb : s.heap.get? b = some (lstO ws kb)) (hsz : vs.length + ws.length ≤ sizeLine)
    (h : Q (.ref a) { s with heap := s.heap.update a (Obj.mapSeq fun x => x ++ ws.toArray) }) : wpAny (model prog w) A (inplaceOp .Add (.ref a) (.ref b)) Q E s := by
  have ta : s.TypeIs (.ref a) "list" := ⟨_, ha, rfl⟩
  have tb : s.TypeIs (.ref b) "list" := ⟨_, hb, rfl⟩
  unfold inplaceOp
  refine wpAny_holding ?_
  have hfi : fillsInplaceSlot (.type "list") "add" (Operator.Add == .Add) = pure false := by
    unfold fillsInplaceSlot
    show (typeLookup (.type "list") (dunderI "add") >>= fun fi => pure (fi.isSome && !isSeqSlot fi)) = pure false
    rw [PySem.F.slot_list_iadd.lookup]
    show (pure _ : Sem Bool) = pure false
    congr 1
    try decide +kernel
  have hsi : seqSlot? (.type "list") (dunderI "add") = pure (some (.builtin "list.__iadd__")) := PySem.seqSlot_of PySem.F.slot_list_iadd.lookup (by decide +kernel)
  refine wpAny_bind (wpAny_typeOf ta (wpAny_bind (wpAny_of_eq hfi ?_)))
  show wpAny _ A (if false = true then _ else _) Q E s
  rw [if_neg Bool.false_ne_true]
  refine wpAny_bind (wpAny_binaryOp1_none (nm := "add") ta tb PySem.noFill_list_add ?_)
  refine wpAny_bind (wpAny_of_eq hsi ?_)
  have hz : vs.toArray.size + ws.toArray.size ≤ sizeLine := by simpa using hsz
  exact wpAny_bind (wpAny_rule (call_meets PySem.F.slot_list_iadd ta PySem.F.entry_list_iadd (PySem.F.args_list_iadd_2 _ _) (AutoSeq1.list___iadd___list_list_0 a vs.toArray k b ws.toArray kb (extend_door hz) (by omega) (by omega)) ⟨ha, hb, h⟩))

theorem SS.augL {x : Str} {px pos : Pos} {e : Expr} {t : T} {i : Nat} (h : SE W n F si e t) (hi : i < si.nf) (hx : si.nm[i]? = some x) (hk : storable si x = true) :
    SS W n F si (.AugAssign (.Name x px) .Add e pos) (.augL i t) := by
  intro A h₀ L env m cm s Q E inj σ C V Y Z ρ fl ρ' σ' act st fr S he hp
  refine of_bindC he fun j hj he => of_bindC hj fun b hsl hj => of_bindC he fun p v₁ he => of_bindC he fun l hl he => of_mapS (K := fun fl ρ' σ' => SPost W si env h₀ L Y inj Z fl ρ' σ' s Q) he hp fun c hc hp => of_bindC hc fun c0 hc hA => ?_
  obtain ⟨k, e0, hlim, ec⟩ := of_cellE hA
  rw [e0] at hc
  rw [ec] at hp
  rw [of_loc? hj] at hsl
  have H : EH W si env h₀ L m V Y inj Z ρ := fr.eh st
  obtain ⟨v, hn, r⟩ := H.read i _ x (by unfold SI.rd; rw [st.comp]) hsl hx
  refine wpAny_AugAssign_Name (hn _ _ _ _ _ S.fr S.vy (h act H S v₁ fun u h' tk' inj' C' Z' S' g q => ?_))
  obtain ⟨a, ev, hj⟩ := (r.mono g.z g.inj).of_loc
  rw [of_listV hl] at q
  obtain ⟨b, us, kb, eu, hm, q2⟩ := q.of_val.of_list
  obtain ⟨vs, kk, hg, rs, put⟩ := S'.cellList hc hj
  rw [ev, eu]
  refine iadd_lists hg (S'.zmem hm) (size_ok (by rw [rs.length, q2.length]; exact hlim)) ?_
  obtain ⟨C3, S3⟩ := put _ (vs ++ us) _ (k ++ l) (Heap.SameBut.update ..) (by have := IsL.update hg (· ++ us.toArray); rw [List.append_toArray] at this; exact this) (rs.append q2)
  exact store_ok st (fr.mono g) S3 hi hx hk (.loc hj) fun h3 tk3 m3 cm3 V3 S4 fr3 => hp.fin S4 g fr3

theorem isComp_sub {e : Expr} {t : Option Expr} {k : Nat} {env : Env} (h : isComp e = false) : swapsWith e t k env = pure false := swaps_no h
theorem swaps_sub {e o i : Expr} {p : Pos} {k : Nat} {env : Env} : swapsWith e (some (.Subscript o i p)) k env = pure false := by
  cases e <;> rfl
theorem swaps_attr {e o : Expr} {x : Str} {p : Pos} {k : Nat} {env : Env} : swapsWith e (some (.Attribute o x p)) k env = pure false := by
  cases e <;> rfl

theorem SS.sidx {o ix e : Expr} {spos pos : Pos} {t u w : T} (h : SE W n F si e t) (ho : SE W n F si o u) (hi : SE W n F si ix w) :
    SS W n F si (.Assign [.Subscript o ix spos] e pos) (.sidx u w t) := by
  intro A h₀ L env m cm s Q E inj σ C V Y Z ρ fl ρ' σ' act st fr S he hp
  have H : EH W si env h₀ L m V Y inj Z ρ := fr.eh st
  refine of_bindC he fun p v₁ he => of_bindC he fun d hd he => of_bindC he fun q v₂ he => of_bindC he fun j hj he => of_bindC he fun p3 v₃ he => of_bindC he fun k hk he => of_mapS (K := fun fl ρ' σ' => SPost W si env h₀ L Y inj Z fl ρ' σ' s Q) he hp fun c hc hp => of_bindC hc fun c0 hc hA => ?_
  obtain ⟨l, e0, ⟨_, hl⟩, ec⟩ := of_cellI hA
  rw [e0] at hc
  rw [ec] at hp
  refine wpAny_Assign_Subscript (h act H S v₁ fun v h1 tk1 inj1 C1 Z1 S1 g1 r1 => ?_) swaps_sub
  refine ho (s := { s with heap := h1, toks := tk1 }) act (H.mono g1) S1 v₂ fun ov h2 tk2 inj2 C2 Z2 S2 g2 r2 => ?_
  refine hi (s := { s with heap := h2, toks := tk2 }) act (H.mono (g1.trans g2)) S2 v₃ fun iv h3 tk3 inj3 C3 Z3 S3 g3 r3 => ?_
  obtain ⟨a, ev, hj⟩ := (r2.mono g3.z g3.inj).isLoc hj
  have r1 := (r1.at hd).mono (g2.trans g3).z
  obtain ⟨vs, kk, hg, rs, put⟩ := S3.cellList hc hj
  have hlen := rs.length
  have hlim := hl.2.2
  unfold lim at hlim
  rw [ev]
  refine r3.eInt (M := fun iv => wpAny (model W.prog W.w) A (setItem (.ref a) iv v) (fun _ => Q .next) E { s with heap := h3, toks := tk3 }) hk fun t3 => ?_
  refine ki_setAt hg hl.1 (by omega) (by simp; omega) ?_
  obtain ⟨C4, S4⟩ := put _ (vs.set k.toNat v) _ (l.set k.toNat _) (Heap.SameBut.update ..) (by have := IsL.update hg (·.setIfInBounds k.toNat v); rw [List.setIfInBounds_toArray] at this; exact this) (rs.set _ r1)
  exact hp.fin S4 ((g1.trans g2).trans g3) (fr.mono ((g1.trans g2).trans g3))
end
end Mine

namespace Mine
open PySem PySem.W PySem.Calls PyProof.Rows

section
variable {W : Wo} {n : Nat} {F : Fns} {si : SI} {inj inj' : List Addr} {σ σ' : Store} {C C₁ C₂ : List Led} {e e' V Y Z Z' O : Led} {h₀ h h' : Heap} {L : Addr} {m cm m' : Str → Option Value}

theorem upd_of {d : Addr} {o o' : Obj} {post : Led} (h2 : ∀ p ∈ post, p.1 ≠ d) : ∀ {pre : Led}, (∀ p ∈ pre, p.1 ≠ d) → Upd d o o' (pre ++ (d, o) :: post) (pre ++ (d, o') :: post)
  | [], _ => .head h2
  | p :: r, h1 => .tail (h1 p (.head _)) (upd_of h2 fun q hq => h1 q (.tail _ hq))
/-- an entry of a cell is apart from all others -/
theorem St.apart (S : St W inj σ (C₁ ++ e :: C₂) V Y Z h₀ L m h) {d : Addr} {o : Obj} {e₁ e₂ : Led} (he : e = e₁ ++ (d, o) :: e₂) :
    (∀ p ∈ C₁.flatten ++ e₁, p.1 ≠ d) ∧ ∀ p ∈ e₂ ++ (C₂.flatten ++ (V ++ (Y ++ Z))), p.1 ≠ d := by
  subst he
  have nd := S.nd
  have ap : ∀ q ∈ Y ++ Z, d ≠ q.1 := fun q hq => S.ap (d, o) (by simp) q hq
  simp only [List.flatten_append, List.flatten_cons, List.map_append, List.map_cons, List.append_assoc, List.cons_append, List.nodup_append, List.nodup_cons, List.mem_append, List.mem_cons, List.mem_map, ne_eq] at nd ⊢
  obtain ⟨n1, ⟨n2, ⟨n3, n4⟩, n5⟩, n6⟩ := nd
  refine ⟨fun p hp => ?_, fun p hp => ?_⟩
  · rcases hp with hp | hp
    · exact n6 p.1 ⟨p, hp, rfl⟩ d (.inr (.inl rfl))
    · exact n5 p.1 ⟨p, hp, rfl⟩ d (.inl rfl)
  · intro ee
    rcases hp with hp | hp | hp | hp
    · exact n3 (.inl ⟨p, hp, ee⟩)
    · exact n3 (.inr (.inl ⟨p, hp, ee⟩))
    · exact n3 (.inr (.inr ⟨p, hp, ee⟩))
    · exact ap p (List.mem_append.mpr hp) ee.symm
theorem St.yin (S : St W inj σ C V Y Z h₀ L m h) {d : Addr} {o : Obj} (F' : Fr h₀ L h' m) (N' : News h₀ L h' ((d, o) :: (C.flatten ++ (V ++ (Y ++ Z))))) (off : ∀ p ∈ C.flatten ++ (V ++ (Y ++ Z)), p.1 ≠ d) : St W inj σ C V ((d, o) :: Y) Z h₀ L m h' := by
  refine ⟨F', fun p hp => N' p ?_, S.nd, fun p hp q hq => ?_, fun p hp q hq => ?_, S.cells⟩
  · simp only [List.mem_append, List.mem_cons] at hp ⊢
    rcases hp with hp | hp | (hp | hp) | hp <;> simp [hp]
  · simp only [List.cons_append, List.mem_cons] at hq
    rcases hq with rfl | hq
    · exact off p (by simp only [List.mem_append] at hp ⊢; rcases hp with h | h <;> simp [h])
    · exact S.ap p hp q hq
  · rcases List.mem_cons.mp hp with rfl | hp
    · exact fun ee => off q (by simp [hq]) ee.symm
    · exact S.ay p hp q hq
theorem St.ychange {d : Addr} {o o' : Obj} (S : St W inj σ C V ((d, o) :: Y) Z h₀ L m h) (hd : ∀ q ∈ Y, q.1 ≠ d) (hs : Heap.SameBut d h h') (ho : h'.get? d = some o') : St W inj σ C V ((d, o') :: Y) Z h₀ L m h' := by
  have hm := S.news (d, o) (by simp)
  refine ⟨S.fr.change hs hm.2.1 hm.2.2, fun p hp => ?_, S.nd, fun p hp q hq => ?_, fun p hp q hq => ?_, S.cells⟩
  · have old : p ∈ C.flatten ++ (V ++ ((d, o) :: Y ++ Z)) → p.1 ≠ d → _ := fun hp hpd => (⟨hs.extBut _ _ hpd (S.news p hp).1, (S.news p hp).2⟩ : h'.get? p.1 = some p.2 ∧ p.1 ≠ L ∧ h₀.get? p.1 = none)
    simp only [List.mem_append, List.mem_cons, List.cons_append] at hp
    rcases hp with hp | hp | hp | hp | hp
    · exact old (by simp [hp]) (S.ap p (by simp [hp]) (d, o) (by simp))
    · exact old (by simp [hp]) (S.ap p (by simp [hp]) (d, o) (by simp))
    · rw [hp]; exact ⟨ho, hm.2⟩
    · exact old (by simp [hp]) (hd p hp)
    · exact old (by simp [hp]) fun ee => S.ay (d, o) (by simp) p hp ee.symm
  · simp only [List.cons_append, List.mem_cons] at hq
    rcases hq with rfl | hq
    · exact S.ap p hp (d, o) (by simp)
    · exact S.ap p hp q (by simp only [List.cons_append, List.mem_cons]; exact .inr hq)
  · rcases List.mem_cons.mp hp with rfl | hp
    · exact S.ay (d, o) (by simp) q hq
    · exact S.ay p (by simp [hp]) q hq
/-- an object of the others' becomes a cell's own -/
theorem St.adopt {d : Addr} {o : Obj} (S : St W inj σ (C₁ ++ e :: C₂) V ((d, o) :: Y) Z h₀ L m h) (hd : ∀ q ∈ Y, q.1 ≠ d) (cs : Cells W Z σ inj (C₁ ++ (e ++ [(d, o)]) :: C₂)) : St W inj σ (C₁ ++ (e ++ [(d, o)]) :: C₂) V Y Z h₀ L m h := by
  have nd := S.nd
  have dis : ∀ p ∈ (C₁ ++ e :: C₂).flatten ++ V, p.1 ≠ d := fun p hp => S.ap p hp (d, o) (by simp)
  have S0 : St W inj σ (C₁ ++ e :: C₂) V Y Z h₀ L m h := ⟨S.fr, fun p hp => S.news p (by simp only [List.mem_append, List.mem_cons, List.cons_append] at hp ⊢; exact hp.imp id (Or.imp id .inr)), S.nd, fun p hp q hq => S.ap p hp q (by simp only [List.mem_append, List.mem_cons, List.cons_append] at hq ⊢; rcases hq with h | h <;> simp [h]), fun p hp q hq => S.ay p (by simp [hp]) q hq, S.cells⟩
  refine S0.recell (fun p hp => ?_) ?_ S.fr (fun p hp => S.news p ?_) cs
  · rcases List.mem_append.mp hp with hp | hp
    · exact .inl ⟨p, hp, rfl⟩
    · rw [List.mem_singleton.mp hp]
      refine .inr fun q hq => ?_
      simp only [List.mem_append] at hq
      rcases hq with hq | hq | hq | hq
      · exact dis q (by simp only [List.mem_append]; exact .inl hq)
      · exact dis q (by simp [hq])
      · exact hd q hq
      · exact fun ee => S.ay (d, o) (by simp) q hq ee.symm
  · simp only [List.flatten_append, List.flatten_cons, List.map_append, List.append_assoc, List.nodup_append, List.mem_append, List.mem_map, ne_eq] at nd
    rw [List.map_append, List.nodup_append]
    refine ⟨nd.2.1.1, by simp, ?_⟩
    intro a ha b hb
    obtain ⟨p, hp, rfl⟩ := List.mem_map.mp ha
    simp only [List.map_cons, List.map_nil, List.mem_singleton] at hb
    subst hb
    exact dis p (by simp [hp])
  · simp only [List.flatten_append, List.flatten_cons, List.mem_append, List.mem_cons, List.mem_singleton, List.cons_append] at hp ⊢
    rcases hp with (hp | (hp | hp) | hp) | hp | hp | hp
    · simp [hp]
    · simp [hp]
    · rcases hp with rfl | hp
      · simp
      · cases hp
    · simp [hp]
    · simp [hp]
    · simp [hp]
    · simp [hp]

/-- an attribute of a cell's object is set -/
theorem set_ok {A : Around} {fenv : Env} {E : Value → Shared → Prop} {s : Shared} {i c k : Nat} {a dx : Addr} {es : List DictEntry} {kk : Nat} {l : List (Nat × D)} {v : Value} {d : D} {Q : Unit → Shared → Prop} (ck : ClsOk W) (act : Act W n A h₀ L fenv)
    (S : St W inj σ (C₁ ++ ((a, instObj (W.nm.ca c) dx) :: (dx, dictOf es kk) :: O) :: C₂) V Y Z h₀ L m s.heap)
    (put : ∀ (c' : D) (e' : Led) (Z' : Led), (∀ p ∈ Z, p ∈ Z') → CellRep W Z' c' a e' → Cells W Z' (σ.set i c') inj (C₁ ++ e' :: C₂)) (ks : KsO W Z O es l) (r : RepO W Z O v d) (hc : c < 3) (hk : k < 12) (hl : l.length < 900)
    (h : ∀ h' tk C', St W inj (σ.set i (.inst c (setN k d l))) C' V Y Z h₀ L m h' → Q () { s with heap := h', toks := tk }) : wpAny (model W.prog W.w) A (setAttr (.ref a) (W.nm.an k) v) Q E s := by
  obtain ⟨h1, h2⟩ := S.apart (e₁ := [(a, instObj (W.nm.ca c) dx)]) (d := dx) (o := dictOf es kk) (e₂ := O) rfl
  obtain ⟨s1, s2, s3⟩ := ck.set c k hc hk
  obtain ⟨g1, g2, _⟩ := ck.get c k hc hk
  have hnews : (C₁ ++ ((a, instObj (W.nm.ca c) dx) :: (dx, dictOf es kk) :: O) :: C₂).flatten ++ (V ++ (Y ++ Z)) = (C₁.flatten ++ [(a, instObj (W.nm.ca c) dx)]) ++ (dx, dictOf es kk) :: (O ++ (C₂.flatten ++ (V ++ (Y ++ Z)))) := by simp
  have N := S.news
  rw [hnews] at N
  have hlen := ks.len
  refine set_dict (x := a) (C := W.nm.ca c) (dx := dx) (ox := instObj (W.nm.ca c) dx) (es := es) (n := kk) S.fr act.K N ⟨(N (a, instObj (W.nm.ca c) dx) (by simp)).1, rfl, rfl, (N (dx, dictOf es kk) (by simp)).1⟩ rfl s1 s2 s3 g2 (ks.look ck.inj).2 rfl (upd_of h2 h1) ?_ fun h' F' N' => ?_
  · have := putL_len (W.nm.an k) (PyData.keyHash W.w.params (W.nm.an k)) (.str (W.nm.an k) (s.toks + 1)) v es
    omega
  · refine h h' _ (C₁ ++ ((a, instObj (W.nm.ca c) dx) :: (dx, dictOf (putL (W.nm.an k) (PyData.keyHash W.w.params (W.nm.an k)) (.str (W.nm.an k) (s.toks + 1)) v es) (putN (W.nm.an k) es kk)) :: O) :: C₂) ?_
    refine S.recell (fun p hp => .inl ?_) ?_ F' ?_ (put _ _ Z (fun _ h => h) (.inst (ks.put ck.inj r)))
    · rcases List.mem_cons.mp hp with rfl | hp
      · exact ⟨(a, instObj (W.nm.ca c) dx), by simp, rfl⟩
      · rcases List.mem_cons.mp hp with rfl | hp
        · exact ⟨(dx, dictOf es kk), by simp, rfl⟩
        · exact ⟨p, by simp [hp], rfl⟩
    · have nd := S.nd
      simp only [List.flatten_append, List.flatten_cons, List.map_append, List.append_assoc, List.nodup_append, List.map_cons] at nd ⊢
      exact nd.2.1.1
    · have e2 : (C₁ ++ ((a, instObj (W.nm.ca c) dx) :: (dx, dictOf (putL (W.nm.an k) (PyData.keyHash W.w.params (W.nm.an k)) (.str (W.nm.an k) (s.toks + 1)) v es) (putN (W.nm.an k) es kk)) :: O) :: C₂).flatten ++ (V ++ (Y ++ Z)) = (C₁.flatten ++ [(a, instObj (W.nm.ca c) dx)]) ++ (dx, dictOf (putL (W.nm.an k) (PyData.keyHash W.w.params (W.nm.an k)) (.str (W.nm.an k) (s.toks + 1)) v es) (putN (W.nm.an k) es kk)) :: (O ++ (C₂.flatten ++ (V ++ (Y ++ Z)))) := by simp
      rw [e2]; exact N'

theorem SS.sattr {o e : Expr} {x : Str} {apos pos : Pos} {t u : T} {k : Nat} (ck : ClsOk W) (h : SE W n F si e t) (ho : SE W n F si o u) (hx : x = W.nm.an k) :
    SS W n F si (.Assign [.Attribute o x apos] e pos) (.sattr u k t) := by
  intro A h₀ L env m cm s Q E inj σ C V Y Z ρ fl ρ' σ' act st fr S he hp
  rw [hx]
  have H : EH W si env h₀ L m V Y inj Z ρ := fr.eh st
  refine of_bindC he fun p v₁ he => of_bindC he fun d hd he => of_bindC he fun q v₂ he => of_bindC he fun j hj he => of_mapS (K := fun fl ρ' σ' => SPost W si env h₀ L Y inj Z fl ρ' σ' s Q) he hp fun c0 hc hp => of_bindC hc fun c1 hc hA => ?_
  obtain ⟨c, l, e0, hcn, ec⟩ := of_cellN hA
  rw [e0] at hc
  rw [ec] at hp
  refine plainObj_wpAny_Assign_Attribute (h act H S v₁ fun v h1 tk1 inj1 C1 Z1 S1 g1 r1 => ?_) swaps_attr
  refine ho (s := { s with heap := h1, toks := tk1 }) act (H.mono g1) S1 v₂ fun ov h2 tk2 inj2 C2 Z2 S2 g2 r2 => ?_
  obtain ⟨a, ev, hj⟩ := r2.isLoc hj
  obtain ⟨D₁, ee, D₂, a', hC, ha, hr, put⟩ := S2.cells.split _ _ hc
  rw [← Option.some.inj (hj.symm.trans ha)] at hr put
  obtain ⟨dx, es, kk, O, he, ks⟩ := hr.of_inst
  rw [hC, he] at S2
  rw [ev]
  exact set_ok (s := { s with heap := h2, toks := tk2 }) ck act S2 put ks (.val ((r1.at hd).mono g2.z)) (Nat.lt_of_not_le fun h => hcn (.inr (.inl h))) (Nat.lt_of_not_le fun h => hcn (.inr (.inr (.inl h)))) (Nat.lt_of_not_le fun h => hcn (.inr (.inr (.inr h)))) fun h3 tk3 C3 S3 => hp.fin S3 (g1.trans g2) (fr.mono (g1.trans g2))
end
end Mine

namespace Mine
open PySem PySem.W PySem.Calls PyProof.Rows

section
variable {W : Wo} {n : Nat} {F : Fns} {si : SI} {inj inj' : List Addr} {σ σ' : Store} {C C₁ C₂ : List Led} {e e' V Y Z Z' O O' : Led} {h₀ h h' : Heap} {L : Addr} {m cm m' : Str → Option Value}

theorem set_same {c : D} {σ : Store} {i : Nat} (h : σ[i]? = some c) : σ.set i c = σ := by
  obtain ⟨hi, e⟩ := List.getElem?_eq_some_iff.mp h
  rw [← e, List.set_getElem_self]
noncomputable abbrev dictN : Obj := { cls := .type "dict", data := .dict #[] }
theorem newDict {a : Addr} {C : List Led} {V Y Z : Led} {m : Str → Option Value} {h : Heap} (S : St W inj σ C V ((a, dictN) :: Y) Z h₀ L m h) : Heap.DictOf (strKind W.prog W.w) h a [] := by
  refine Heap.dictOf_iff.mpr ⟨dictN, (S.news (a, dictN) (by simp)).1, ?_⟩
  obtain ⟨o, ho, hd⟩ := Heap.dictOf_iff.mp (Heap.DictOf.new (knd := strKind W.prog W.w) h)
  rw [Heap.get?_push_size _ rfl] at ho
  cases ho
  exact hd
theorem SS.sattrD {o e : Expr} {x k : Str} {apos pos dpos kpos : Pos} {kk : Nat} {t u : T} {i : Nat} (ck : ClsOk W) (h : SE W n F si e t) (ho : SE W n F si o u) (hx : x = W.nm.an i) :
    SS W n F si (.Assign [.Attribute o x apos] (.Dict [some (.Constant (.str k) kk kpos)] [e] dpos) pos) (.sattrD u i k t) := by
  intro A h₀ L env m cm s Q E inj σ C V Y Z ρ fl ρ' σ' act st fr S he hp
  rw [hx]
  refine of_bindC he fun p v₁ he => of_bindC he fun d hd he => of_bindC he fun q v₂ he => of_bindC he fun j hj he => of_mapS (K := fun fl ρ' σ' => SPost W si env h₀ L Y inj Z fl ρ' σ' s Q) he hp fun c0 hc hp => of_bindC hc fun c1 hc hA => ?_
  obtain ⟨c, l, e0, hcn, ec⟩ := of_cellD hA
  rw [e0] at hc
  rw [ec] at hp
  have lo := S.fr.notModules (modules_low act.top.nolimit)
  have apN := S.news.apart
  refine plainObj_wpAny_Assign_Attribute (wpAny_Dict_walk (knd := strKind W.prog W.w) rfl rfl (by simp) (by simp) (pairTrees_cons_walk (wpAny_Constant_str ?_))) swaps_attr
  have Sy : St W inj σ C V ((s.heap.objs.size, dictN) :: Y) Z h₀ L m (s.heap.push dictN) := S.yin (S.fr.push _) (News.push S.fr S.news _) apN
  refine h (s := { s with heap := s.heap.push dictN, toks := s.toks + 1 }) act (fr.eh st) Sy v₁ fun v h1 tk1 inj1 C1 Z1 S1 g1 r1 => ?_
  refine pairTrees_nil_walk ⟨[(k, v)], ⟨strKind_is _ _ _ _, rfl, trivial⟩, newDict S1, fun h2 D2 hs2 => ?_⟩
  obtain ⟨o2, ho2, hd2⟩ := Heap.dictOf_iff.mp D2
  have offY : ∀ q ∈ Y, q.1 ≠ s.heap.objs.size := fun q hq => apN q (by simp [hq])
  have S2 := S1.ychange offY hs2 ho2
  refine ho (s := { s with heap := h2, toks := _ }) act ((fr.mono g1).eh st) S2 v₂ fun ov h3 tk3 inj3 C3 Z3 S3 g3 r3 => ?_
  obtain ⟨a, ev, hj⟩ := r3.isLoc hj
  obtain ⟨D₁, ee, D₂, a', hC, ha, hr, put⟩ := S3.cells.split _ _ hc
  rw [← Option.some.inj (hj.symm.trans ha)] at hr put
  obtain ⟨dx, es, kn, O, he, ks⟩ := hr.of_inst
  rw [hC, he] at S3
  rw [ev]
  have ks' : KsO W Z3 (O ++ [(s.heap.objs.size, o2)]) es l := ks.mono (fun _ h => h) fun p hp => List.mem_append_left _ hp
  have cs := put (.inst c l) ((a, instObj (W.nm.ca c) dx) :: (dx, dictOf es kn) :: (O ++ [(s.heap.objs.size, o2)])) Z3 (fun _ h => h) (.inst ks')
  rw [set_same hc] at cs
  exact set_ok (s := { s with heap := h3, toks := tk3 }) (O := O ++ [(s.heap.objs.size, o2)]) (d := .odict [(k, d)]) ck act (S3.adopt offY cs) put ks' (.own (List.mem_append_right _ (.head _)) hd2 lo (.cons ((r1.at hd).mono g3.z) .nil)) (Nat.lt_of_not_le fun h => hcn (.inr (.inl h))) (Nat.lt_of_not_le fun h => hcn (.inr (.inr (.inl h)))) (Nat.lt_of_not_le fun h => hcn (.inr (.inr (.inr h)))) fun h4 tk4 C4 S5 => hp.fin S5 (g1.trans g3) (fr.mono (g1.trans g3))

theorem KsO.noO {l : List (Nat × D)} : ∀ {es : List DictEntry}, KsO W Z O es l → (l.all fun p => !isO p.2) = true → KsO W Z O' es l := by
  induction l with
  | nil => intro es r _; exact r.cps (fun es => KsO W Z O' es []) .nil
  | cons p l ih =>
    intro es r h
    have h := Bool.and_eq_true_iff.mp h
    exact r.cps (fun es => KsO W Z O' es (p :: l)) fun hs t v es a q => .cons (.val (a.not_odict (by simpa using h.1))) (ih q h.2)
theorem KsO.own (ci : ∀ a b, W.nm.an a = W.nm.an b → a = b) {i : Nat} {e : List (Str × D)} {l : List (Nat × D)} : ∀ {es : List DictEntry}, KsO W Z O es l → lookN i l = some (.odict e) → oneO i l = true →
    X3 fun a oo ke => A6 (getL (W.nm.an i) es = some (some (.ref a))) ((a, oo) ∈ O) (oo.IsDictOf (strKind W.prog W.w) ke) ((a == sysModules) = false) (RepEs W Z ke e) (∀ O' o' ke' e', (a, o') ∈ O' → o'.IsDictOf (strKind W.prog W.w) ke' → RepEs W Z ke' e' → KsO W Z O' es (setN i (.odict e') l)) := by
  induction l with
  | nil => intro es r h; cases h
  | cons p l ih =>
    intro es r
    have f1 : lookN i (p :: l) = if p.1 == i then some p.2 else lookN i l := rfl
    have f2 : oneO i (p :: l) = if p.1 == i then (l.all fun p => !isO p.2) else !isO p.2 && oneO i l := rfl
    have f3 : ∀ d, setN i d (p :: l) = if p.1 == i then (p.1, d) :: l else p :: setN i d l := fun d => rfl
    rw [f1, f2]
    refine r.cps (fun es => _ → _ → X3 fun a oo ke => A6 (getL (W.nm.an i) es = some (some (.ref a))) ((a, oo) ∈ O) (oo.IsDictOf (strKind W.prog W.w) ke) ((a == sysModules) = false) (RepEs W Z ke e) (∀ O' o' ke' e', (a, o') ∈ O' → o'.IsDictOf (strKind W.prog W.w) ke' → RepEs W Z ke' e' → KsO W Z O' es (setN i (.odict e') (p :: l)))) fun hsh t v es x q h h1 => ?_
    have hk := isStr_an ci (k := p.1) (i := i) (t := t)
    cases hki : (p.1 == i) with
    | true =>
      rw [hki] at hk h h1 f3
      rw [if_pos rfl] at h h1
      have e1 : getL (W.nm.an i) (⟨hsh, .str (W.nm.an p.1) t, v⟩ :: es) = some (some v) := by
        unfold getL; rw [List.find?_cons]; simp only [hk]
      rw [Option.some.inj h] at x
      refine x.cps (fun v => getL (W.nm.an i) (⟨hsh, .str (W.nm.an p.1) t, v⟩ :: es) = some (some v) → X3 fun a oo ke => A6 (getL (W.nm.an i) (⟨hsh, .str (W.nm.an p.1) t, v⟩ :: es) = some (some (.ref a))) ((a, oo) ∈ O) (oo.IsDictOf (strKind W.prog W.w) ke) ((a == sysModules) = false) (RepEs W Z ke e) (∀ O' o' ke' e', (a, o') ∈ O' → o'.IsDictOf (strKind W.prog W.w) ke' → RepEs W Z ke' e' → KsO W Z O' (⟨hsh, .str (W.nm.an p.1) t, v⟩ :: es) (setN i (.odict e') (p :: l)))) ⟨fun v r => (nomatch r), fun l' el a oo ke hm hd hs re e1 => ⟨a, oo, ke, e1, hm, hd, hs, D.odict.inj el ▸ re, fun O' o' ke' e' hm' hd' re' => ?_⟩⟩ e1
      rw [f3, if_pos rfl]
      exact .cons (.own hm' hd' hs re') (q.noO h1)
    | false =>
      rw [hki] at hk h h1 f3
      rw [if_neg Bool.false_ne_true] at h h1
      have e1 : getL (W.nm.an i) (⟨hsh, .str (W.nm.an p.1) t, v⟩ :: es) = getL (W.nm.an i) es := by
        unfold getL; rw [List.find?_cons, List.any_cons]; simp only [hk, show DictEntry.refKey ⟨hsh, .str (W.nm.an p.1) t, v⟩ = false from rfl, Bool.false_or]
      have h1 := Bool.and_eq_true_iff.mp h1
      obtain ⟨a, oo, ke, g1, g2, g3, g4, g5, g6⟩ := ih q h h1.2
      refine ⟨a, oo, ke, e1.trans g1, g2, g3, g4, g5, fun O' o' ke' e' hm' hd' re' => ?_⟩
      rw [f3, if_neg Bool.false_ne_true]
      exact .cons (.val (x.not_odict (by simpa using h1.1))) (g6 O' o' ke' e' hm' hd' re')
theorem RepEs.len {l : List (Str × D)} : ∀ {es : List (Str × Value)}, RepEs W Z es l → es.length = l.length := by
  induction l with
  | nil => intro es r; exact r.cps (fun es => es.length = 0) rfl
  | cons p l ih => intro es r; exact r.cps (fun es => es.length = l.length + 1) fun _ _ _ q => congrArg (· + 1) (ih q)
theorem stored_map {v : Value} {k : Str} {es : List (Str × Value)} (h : k ∉ es.map (·.1)) : (es.map fun kv => if kv.1 = k then (kv.1, v) else kv) = es := by
  induction es with
  | nil => rfl
  | cons p r ih =>
    simp only [List.map_cons, List.mem_cons, not_or] at h
    rw [List.map_cons, ih h.2, if_neg (fun q => h.1 q.symm)]
theorem RepEs.stored {v : Value} {d : D} {k : Str} (rv : Rep W Z v d) {l : List (Str × D)} : ∀ {es : List (Str × Value)}, RepEs W Z es l → (es.map (·.1)).Nodup → RepEs W Z (PySem.stored es k v) (setS k d l) := by
  induction l with
  | nil => intro es r; exact r.cps (fun es => _ → RepEs W Z (PySem.stored es k v) (setS k d [])) fun _ => .cons rv .nil
  | cons p l ih =>
    intro es r
    refine r.cps (fun es => (es.map (·.1)).Nodup → RepEs W Z (PySem.stored es k v) (setS k d (p :: l))) fun v' es x q hn => ?_
    rw [List.map_cons, List.nodup_cons] at hn
    have ih := ih q hn.2
    have f1 : setS k d (p :: l) = if p.1 == k then (p.1, d) :: l else p :: setS k d l := rfl
    rw [f1]
    unfold PySem.stored at ih ⊢
    rw [List.any_cons]
    by_cases hk : p.1 = k
    · rw [if_pos (c := (p.1 == k) = true) (by rw [hk]; exact beq_self_eq_true k)]
      simp only [hk, decide_true, Bool.true_or, if_true, List.map_cons]
      rw [stored_map (hk ▸ hn.1)]
      exact .cons rv q
    · rw [if_neg (c := (p.1 == k) = true) (fun h => hk (eq_of_beq h))]
      simp only [hk, decide_false, Bool.false_or, if_false, List.map_cons]
      split at ih
      · rename_i hh
        rw [if_pos hh]; exact .cons x ih
      · rename_i hh
        rw [if_neg hh]; exact .cons x ih

theorem entry_flat {e₁ e₂ R : Led} {q : Addr × Obj} : (C₁ ++ (e₁ ++ q :: e₂) :: C₂).flatten ++ R = (C₁.flatten ++ e₁) ++ q :: (e₂ ++ (C₂.flatten ++ R)) := by simp
theorem nodup_entry {e : Led} (nd : (((C₁ ++ e :: C₂).flatten ++ V).map (·.1)).Nodup) : (e.map (·.1)).Nodup := by
  simp only [List.flatten_append, List.flatten_cons, List.map_append, List.append_assoc, List.nodup_append] at nd
  exact nd.2.1.1
/-- one object of a cell's entry is changed -/
theorem St.entry {e₁ e₂ : Led} {b : Addr} {o o' : Obj} (S : St W inj σ (C₁ ++ (e₁ ++ (b, o) :: e₂) :: C₂) V Y Z h₀ L m h) (hs : Heap.SameBut b h h') (ho : h'.get? b = some o') (cs : Cells W Z σ' inj (C₁ ++ (e₁ ++ (b, o') :: e₂) :: C₂)) : St W inj σ' (C₁ ++ (e₁ ++ (b, o') :: e₂) :: C₂) V Y Z h₀ L m h' := by
  obtain ⟨w1, w2⟩ := S.apart (e₁ := e₁) (d := b) (o := o) (e₂ := e₂) rfl
  have N := S.news
  rw [entry_flat] at N
  have hm := N (b, o) (by simp)
  have N' := N.setAt w1 w2 hs ho
  rw [← entry_flat] at N'
  refine S.recell (fun p hp => .inl ?_) ?_ (S.fr.change hs hm.2.1 hm.2.2) N' cs
  · rcases List.mem_append.mp hp with hp | hp
    · exact ⟨p, List.mem_append.mpr (.inl hp), rfl⟩
    · rcases List.mem_cons.mp hp with rfl | hp
      · exact ⟨(b, o), List.mem_append.mpr (.inr (.head _)), rfl⟩
      · exact ⟨p, List.mem_append.mpr (.inr (.tail _ hp)), rfl⟩
  · have e : (e₁ ++ (b, o') :: e₂).map (·.1) = (e₁ ++ (b, o) :: e₂).map (·.1) := by simp
    rw [e]
    exact nodup_entry S.nd
theorem SS.sidx2 {o e : Expr} {x k : Str} {apos spos pos kpos : Pos} {kk : Nat} {t u : T} {i : Nat} (ck : ClsOk W) (h : SE W n F si e t) (ho : SE W n F si o u) (hx : x = W.nm.an i) (hb : plainBase o = true) :
    SS W n F si (.Assign [.Subscript (.Attribute o x apos) (.Constant (.str k) kk kpos) spos] e pos) (.sidx2 u i k t) := by
  intro A h₀ L env m cm s Q E inj σ C V Y Z ρ fl ρ' σ' act st fr S he hp
  rw [hx]
  have H : EH W si env h₀ L m V Y inj Z ρ := fr.eh st
  refine of_bindC he fun p v₁ he => of_bindC he fun d hd he => of_bindC he fun q v₂ he => of_bindC he fun j hj he => of_mapS (K := fun fl ρ' σ' => SPost W si env h₀ L Y inj Z fl ρ' σ' s Q) he hp fun c0 hc hp => of_bindC hc fun c1 hc hA => ?_
  obtain ⟨c, l, ee, e0, hl, hcn, ec⟩ := of_cellK hA
  rw [e0] at hc
  rw [ec] at hp
  refine wpAny_Assign_Subscript (h act H S v₁ fun v h1 tk1 inj1 C1 Z1 S1 g1 r1 => ?_) swaps_sub
  refine Attribute_any_ (ho (s := { s with heap := h1, toks := tk1 }) act (H.mono g1) S1 v₂ fun ov h2 tk2 inj2 C2 Z2 S2 g2 r2 => ?_) (attr_eq hb)
  obtain ⟨a, ev, hj⟩ := r2.isLoc hj
  have r1 := (r1.at hd).mono g2.z
  obtain ⟨D₁, e1, D₂, a', hC, ha, hr, put⟩ := S2.cells.split _ _ hc
  rw [← Option.some.inj (hj.symm.trans ha)] at hr put
  obtain ⟨dx, es, kn, O, he, ks⟩ := hr.of_inst
  rw [hC, he] at S2
  rw [ev]
  simp only [not_or, Nat.not_le, Bool.not_eq_false] at hcn
  obtain ⟨b, oo, ke, q1, q2, q3, q4, q5, q6⟩ := ks.own ck.inj hl hcn.2.2.2.2
  obtain ⟨O₁, O₂, eO⟩ := List.append_of_mem q2
  rw [eO] at S2
  obtain ⟨p1, p2, attr, p3, p4⟩ := ck.get c i hcn.2.1 hcn.2.2.1
  have nw := fun q (hq : q ∈ (a, instObj (W.nm.ca c) dx) :: (dx, dictOf es kn) :: (O₁ ++ (b, oo) :: O₂)) => (S2.news q (mem_cell hq)).1
  have hI : PySem.W.InstAt h2 a (instObj (W.nm.ca c) dx) (W.nm.ca c) (some (dictOf es kn)) := ⟨nw _ (.head _), rfl, rfl, nw _ (.tail _ (.head _))⟩
  refine get_own (s := { s with heap := h2, toks := tk2 }) S2.fr act.K hI p1 p2 p3 p4 q1 rfl ?_
  refine wpAny_Constant_str ?_
  have hDD : Heap.DictOf (strKind W.prog W.w) h2 b ke := Heap.dictOf_iff.mpr ⟨oo, nw (b, oo) (.tail _ (.tail _ (List.mem_append_right _ (.head _)))), q3⟩
  have hlen := q5.len
  have hnd : (ke.map (·.1)).Nodup := by obtain ⟨_, _, _, _, _, _, hn⟩ := q3; exact hn
  refine wpAny_setItem_pairs (strKind_is _ _ _ _) hDD (fun h3 D3 hs3 => ?_) (size_ok (by rw [hlen]; exact Nat.le_trans (Nat.le_of_lt hcn.2.2.2.1) (show 900 ≤ lim by decide)))
  obtain ⟨o3, ho3, hd3⟩ := Heap.dictOf_iff.mp D3
  have S3 := St.entry (e₁ := (a, instObj (W.nm.ca c) dx) :: (dx, dictOf es kn) :: O₁) (b := b) (o := oo) (e₂ := O₂) S2 hs3 ho3 (put _ _ Z2 (fun _ h => h) (.inst (q6 (O₁ ++ (b, o3) :: O₂) o3 _ _ (List.mem_append_right _ (.head _)) hd3 (q5.stored r1 hnd))))
  exact hp.fin S3 (g1.trans g2) (fr.mono (g1.trans g2))
end
end Mine

namespace Mine
open PySem PySem.W PySem.Calls PyProof.Rows

section
variable {W : Wo} {n : Nat} {F : Fns} {si : SI} {inj inj' : List Addr} {σ σ' : Store} {C C₁ C₂ : List Led} {e e' V Y Z Z' O O' : Led} {h₀ h h' : Heap} {L : Addr} {m cm m' : Str → Option Value}

theorem St.yout {d : Addr} {o : Obj} (S : St W inj σ C V ((d, o) :: Y) Z h₀ L m h) : St W inj σ C V Y Z h₀ L m h :=
  ⟨S.fr, fun p hp => S.news p (by simp only [List.mem_append, List.mem_cons, List.cons_append] at hp ⊢; exact hp.imp id (Or.imp id .inr)), S.nd, fun p hp q hq => S.ap p hp q (by simp only [List.mem_append, List.mem_cons, List.cons_append] at hq ⊢; exact .inr hq), fun p hp q hq => S.ay p (by simp [hp]) q hq, S.cells⟩

/-- a comprehension's list stored from within -/
theorem SS.asgC {y : Str} {py pos cpos : Pos} {elt iter : Expr} {t ti : T} {scope : Scope} {x i : Nat} {xs : Str} {px : Pos} (ck : CompOk si scope x xs) (he : SE W n F (si.inner scope x) elt t) (hi : SE W n F si iter ti) (hns : noSet iter = true)
    (hsw : ∀ env : Env, env.scope = si.scope → swapsWith (.ListComp elt [⟨.Name xs px, iter, [], 0⟩] scope cpos) (some (.Name y py)) pos.line env = pure true) (hin : i < si.nf) (hy : si.nm[i]? = some y) (hk : si.scope.names.lookup y = some .local) :
    SS W n F si (.Assign [.Name y py] (.ListComp elt [⟨.Name xs px, iter, [], 0⟩] scope cpos) pos) (.asg i (.lc t x ti)) := by
  intro A h₀ L env m cm s Q E inj σ C V Y Z ρ fl ρ' σ' act st fr S hev hp
  have H : EH W si env h₀ L m V Y inj Z ρ := fr.eh st
  refine of_mapS (K := fun fl ρ' σ' => SPost W si env h₀ L Y inj Z fl ρ' σ' s Q) hev hp fun z hz hp => ?_
  refine of_bindC hz fun p v₁ hz => of_bindC hz fun ds hds hz => of_ifC hz fun hlen hz => ?_
  obtain ⟨r, hl, ez⟩ := of_map hz
  rw [← ez] at hp
  have hke : env.scope.kind = .function := H.kind
  have hyk : env.kindOf y = some .local := by show env.scope.names.lookup y = _; rw [st.scope]; exact hk
  rw [exec_Assign_Name_used _ _ _ _ (hsw env st.scope)]
  refine wpAny_bind (wpAny_standAt (wpAny_bind ?_))
  show wpAny _ A (do let _ ← comprehension (.ListComp elt [⟨.Name xs px, iter, [], 0⟩] scope cpos) scope env _ (newList []) false (eval iter env) (some (assign (.Name y py) env))) _ _ s
  refine wpAny_bind (wpAny_mono (wpAny_comprehension_free (use := some (assign (.Name y py) env)) (Q := fun _ s' => Q .next s') rfl (noSet_eq hns) (closure_ok (cells_some ck fr)) ck.kind ck.names
    (lc_core (RR := fun acc Cn r s' => compPost _ A E (some (assign (.Name y py) env)) (fun _ s' => Q .next s') acc Cn r s') act H S ck he hi v₁ hds hlen hl ?_)) (fun _ s' hq => wpAny_pure (wpAny_pure hq)) fun _ _ e => e)
  intro Da Cn h tk mC inj' C' Z' S' g rr hn hC₀ hCL off
  show wpAny _ A (assign (.Name y py) env (.ref Da)) _ _ _
  refine wpAny_assign_Name (wpAny_storeName_local hyk (by rw [st.loc]; exact S'.fr.ns) (fun h₂ hn₂ hs₂ => ?_) (by rw [hke]; rfl))
  rw [st.loc] at hn₂ hs₂
  have S3 := S'.keep (S'.fr.set hn₂ hs₂) (S'.news.set hs₂)
  refine ⟨mC, hn.sameBut hs₂ hCL, fun h3 hs3 => ?_⟩
  exact hp.fin (S3.but hs3 hCL hC₀ off) g ((fr.mono g).store hin hy (.val rr) fr.are (.inl ⟨hyk, by simp⟩) fun z hz => ⟨by simp [hz], rfl⟩)
theorem SS.whl {pos : Pos} {e : Expr} {t : T} {b : List Stmt} {tb : List S} (h : SB W n F si e t) (hb : SX W n F si b tb) : SS W n F si (.While e b [] pos) (.whl t tb) := by
  intro A h₀ L env m cm s Q E inj σ C V Y Z ρ fl ρ' σ' act st fr S he hp
  refine wpAny_While (codeAny_whileLoop (I := fun k s₁ => X10 fun h tk inj₁ σ₁ C₁ V₁ Z₁ m₁ cm₁ ρ₁ => A5 (s₁ = { s with heap := h, toks := tk }) (St W inj₁ σ₁ C₁ V₁ Y Z₁ h₀ L m₁ h) (Grow inj inj₁ Z Z₁) (FRel W si env L m₁ cm₁ V₁ inj₁ Z₁ ρ₁) (whLoop (ev F t) (evSs F tb) k ρ₁ σ₁ = some (fl, ρ', σ'))) ?_ 24
    ⟨s.heap, s.toks, inj, σ, C, V, Z, m, cm, ρ, rfl, S, Grow.rfl, fr, he⟩)
  rintro k s₁ ⟨h₁, tk₁, inj₁, σ₁, C₁, V₁, Z₁, m₁, cm₁, ρ₁, rfl, S₁, g₁, fr₁, he₁⟩
  cases k with
  | zero => exact nomatch he₁
  | succ k =>
    refine of_bindC he₁ fun p v₁ he₁ => of_bindC he₁ fun c hc he₁ => h (s := { s with heap := h₁, toks := tk₁ }) act (fr₁.eh st) S₁ v₁ ⟨hc, fun h2 tk2 inj2 C2 Z2 S2 g2 => of_condC he₁ (fun ec he₁ => ite_t ec ?_) fun ec he₁ => ite_f ec ?_⟩
    · refine of_bindC he₁ fun q v₂ he₁ => hb (s := { s with heap := h2, toks := tk2 }) act st (fr₁.mono g2) S2 v₂ fun f h3 tk3 inj3 C3 V3 Z3 m3 cm3 S3 g3 fr3 fl3 => ?_
      obtain ⟨f1, ρ₂, σ₃⟩ := q
      cases f1 with
      | next =>
        rw [fl3.of_next]
        exact ⟨k, Nat.lt_succ_self _, h3, tk3, inj3, _, C3, V3, Z3, m3, cm3, ρ₂, rfl, S3, (g₁.trans g2).trans g3, fr3, he₁⟩
      | ret a =>
        obtain ⟨v, ef, r⟩ := fl3.of_ret
        rw [ef]
        exact of_someS (K := fun fl ρ' σ' => SPost W si env h₀ L Y inj Z fl ρ' σ' s Q) he₁ hp _ h3 tk3 inj3 C3 V3 Z3 m3 cm3 S3 ((g₁.trans g2).trans g3) fr3 (.ret r)
    · exact wpAny_execs_nil (SPost.fin (of_someS (K := fun fl ρ' σ' => SPost W si env h₀ L Y inj Z fl ρ' σ' s Q) he₁ hp) S2 (g₁.trans g2) (fr₁.mono g2))

theorem SS.forr {pos px : Pos} {x : Str} {iter : Expr} {t : T} {b : List Stmt} {tb : List S} {i : Nat} (h : SE W n F si iter t) (hb : SX W n F si b tb) (hns : noSet iter = true) (hi : i < si.nf) (hx : si.nm[i]? = some x) (hk : si.scope.names.lookup x = some .local) :
    SS W n F si (.For (.Name x px) iter b [] pos) (.forr i t tb) := by
  intro A h₀ L env m cm s Q E inj σ C V Y Z ρ fl ρ' σ' act st fr S he hp
  have H : EH W si env h₀ L m V Y inj Z ρ := fr.eh st
  have hke : env.scope.kind = .function := H.kind
  have hxk : env.kindOf x = some .local := by show env.scope.names.lookup x = _; rw [st.scope]; exact hk
  refine of_bindC he fun pp v₁ he => of_bindC he fun ds hds he => of_ifC he fun hlen he => ?_
  refine wpAny_mono (E := fun _ _ => False) (Q := Q) ?_ (fun _ _ q => q) fun _ _ q => q.elim
  refine For_invV h₀ hxk (by rw [hke]; rfl) (h act H S v₁ fun v h1 tk1 inj1 C1 Z1 S1 g1 r1 => iter_src (s := { s with heap := h1, toks := tk1 }) S1 r1 hds fun oI fp R ok h0 => ?_) (noSet_eq hns) PassesOwn.never
  have K := ok A act.hd
  have S2 : St W inj1 pp.2 C1 V Y Z1 h₀ L m (h1.push oI) := S1.keep (S1.fr.push _) (S1.news.pushKeep _)
  have hIn : h₀.get? h1.objs.size = none := Heap.get?_none_of_le (Nat.le_trans S1.fr.above (Nat.le_of_lt S1.fr.ns.lt))
  have nI : ∀ p ∈ C1.flatten ++ (V ++ (Y ++ Z1)), p.1 ∉ [h1.objs.size] := fun p hp hq => absurd (Heap.lt_size (S1.news p hp).1) (by rw [List.mem_singleton.mp hq]; exact Nat.lt_irrefl _)
  refine ⟨h1.objs.size, fp, [h1.objs.size], ds.length, _, R, m, C1.flatten ++ (V ++ (Y ++ Z1)),
    fun k m₂ news₂ => X7 fun inj₂ σ₂ C₂ V₂ Z₂ cm₂ ρ₂ => A5 (news₂ = C₂.flatten ++ (V₂ ++ (Y ++ Z₂))) (Stk W inj₂ σ₂ C₂ V₂ Y Z₂) (Grow inj1 inj₂ Z1 Z₂) (FRel W si env L m₂ cm₂ V₂ inj₂ Z₂ ρ₂) (forLoop (evSs F tb) i (ds.drop k) ρ₂ σ₂ = some (fl, ρ', σ')),
    rfl, K.walks, ?_, ?_, nI, h0, by rw [st.loc]; exact S2.fr, by rw [st.loc]; exact S2.news, ⟨inj1, pp.2, C1, V, Z1, cm, ρ, rfl, S1.stk, Grow.rfl, fr.mono g1, he⟩, ?_, ?_⟩
  · intro hL
    rw [st.loc] at hL
    rcases K.fp _ hL with e | ⟨o, ho⟩
    · exact absurd S1.fr.ns.lt (by rw [e]; exact Nat.lt_irrefl _)
    · exact (S1.news (L, o) (by simp [ho])).2.1 rfl
  · intro b hb
    rw [List.mem_singleton.mp hb]; exact hIn
  · rintro k v m₁ news₁ s₁ own ⟨h2, tk2, rfl⟩ hlt ⟨d, hd, rv⟩ ⟨inj₂, σ₂, C₂, V₂, Z₂, cm₂, ρ₂, rfl, K2, g2, fr2, he2⟩ hnw hsub hget hall hst F2 N2
    rw [st.loc] at F2 N2
    obtain ⟨hk1, hk2⟩ := List.getElem?_eq_some_iff.mp hd
    rw [List.drop_eq_getElem_cons hk1, hk2] at he2
    obtain ⟨q, v₂, he2⟩ := of_bind he2
    obtain ⟨f1, ρ₃, σ₃⟩ := q
    obtain ⟨oI2, hoI2⟩ := K.hI _ _ hst
    have hown : (h1.objs.size, oI2) ∈ own := hall _ (K.walks.sub _ (.head _)) hIn _ hoI2
    have Nn : News h₀ L h2 (C₂.flatten ++ (V₂ ++ (Y ++ Z₂))) := fun p hp => N2 p (List.mem_append.mpr (.inr hp))
    have S3 : St W inj₂ σ₂ C₂ V₂ Y Z₂ h₀ L _ h2 := K2.st F2 Nn
    have S4 : St W inj₂ σ₂ C₂ V₂ ((h1.objs.size, oI2) :: Y) Z₂ h₀ L _ h2 := S3.yin F2 (fun p hp => by
      rcases List.mem_cons.mp hp with rfl | hp
      · exact N2 _ (List.mem_append.mpr (.inl hown))
      · exact Nn p hp) fun p hp e => hnw p hp (by rw [e]; exact .head _)
    have fr3 : FRel W si env L (fun y => if y = x then some v else m₁ y) cm₂ V₂ inj₂ Z₂ (ρ₂.set i (some (.val d))) := fr2.store hi hx (.val (rv.mono g2.z)) fr2.are (.inl ⟨hxk, by simp⟩) fun y hy => ⟨by simp [hy], rfl⟩
    refine hb (s := { s with heap := h2, toks := tk2 }) act st fr3 S4 v₂ fun f h3 tk3 inj3 C3 V3 Z3 m3 cm3 S5 g3 fr4 fl3 => ?_
    cases f1 with
    | next =>
      rw [fl3.of_next]
      refine LoopStepV.next (LoopStepU.intro (by rw [st.loc]; exact S5.fr) (news₂ := C3.flatten ++ (V3 ++ (Y ++ Z3))) ?_ ?_ ⟨inj3, _, C3, V3, Z3, cm3, ρ₃, rfl, S5.yout.stk, g2.trans g3, by exact fr4, he2⟩)
      · rw [st.loc]
        intro p hp
        rcases List.mem_append.mp hp with hp | hp
        · rcases K.fp _ (hsub p hp) with e | ⟨o, ho⟩
          · have e2 := hget p hp
            rw [e] at e2
            have : oI2 = p.2 := Option.some.inj (hoI2.symm.trans e2)
            have hp' : p = (h1.objs.size, oI2) := Prod.ext e this.symm
            rw [hp']
            exact S5.news _ (by simp)
          · have ho2 := S3.zmem (g2.z _ ho)
            have e2 := hget p hp
            have e3 : h2.get? p.1 = some p.2 := e2
            have : o = p.2 := Option.some.inj (ho2.symm.trans e3)
            have hp' : p = (p.1, o) := Prod.ext rfl this.symm
            rw [hp']
            exact S5.news _ (by simp [g3.z _ (g2.z _ ho)])
        · exact S5.yout.news p hp
      · intro p hp hq
        have e := List.mem_singleton.mp hq
        simp only [List.mem_append] at hp
        have ap := S5.ap
        have ay := S5.ay
        rcases hp with hp | hp | hp | hp
        · exact ap p (by simp only [List.mem_append]; exact .inl hp) (h1.objs.size, oI2) (by simp) e
        · exact ap p (by simp [hp]) (h1.objs.size, oI2) (by simp) e
        · exact hnw p (by simp [hp]) hq
        · exact ay (h1.objs.size, oI2) (by simp) p hp e.symm
    | ret a =>
      obtain ⟨w, ef, r⟩ := fl3.of_ret
      rw [ef]
      exact LoopStepV.ret (of_someS (K := fun fl ρ' σ' => SPost W si env h₀ L Y inj Z fl ρ' σ' s Q) he2 hp _ h3 tk3 inj3 C3 V3 Z3 m3 cm3 S5.yout ((g1.trans g2).trans g3) fr4 (.ret r))
  · rintro h2 tk2 m2 news2 F2 N2 hnw ⟨inj₂, σ₂, C₂, V₂, Z₂, cm₂, ρ₂, rfl, K2, g2, fr2, he2⟩
    rw [List.drop_length] at he2
    rw [st.loc] at F2 N2
    exact SPost.fin (of_someS (K := fun fl ρ' σ' => SPost W si env h₀ L Y inj Z fl ρ' σ' s Q) he2 hp) (K2.st F2 N2) (g1.trans g2) fr2
end
end Mine

namespace Mine
open PySem PySem.W PySem.Calls PyProof.Rows

/-! tables by whole numbers and None -/
noncomputable def nilV : Value → Bool
  | .none => true
  | _ => false
noncomputable def intV (i : Int) : Value → Bool
  | .int j _ => j == i
  | _ => false
noncomputable def oiIs (k : Option Int) (v : Value) : Bool := k.elim (nilV v) fun i => intV i v
noncomputable def oiHash (k : Option Int) : Int := k.elim 0xFCA86420 hashInt
theorem of_nilV {v : Value} (h : nilV v = true) : v = .none := by cases v <;> first | rfl | cases h
theorem of_intV {i : Int} {v : Value} (h : intV i v = true) : ∃ t, v = .int i t := by cases v <;> first | exact ⟨_, congrArg (Value.int · _) (eq_of_beq h)⟩ | cases h
theorem oiIs_shape {k : Option Int} {v : Value} (h : oiIs k v = true) : (k = none ∧ v = .none) ∨ ∃ i t, k = some i ∧ v = .int i t := by
  cases k with
  | none => exact .inl ⟨rfl, of_nilV h⟩
  | some i => exact .inr ⟨i, (of_intV h).elim fun t h => ⟨t, rfl, h⟩⟩
section
variable {prog : Program} {w : World} {A : Around} {E : Value → Shared → Prop} {s : Shared}
theorem pyHash_none {Q : Int → Shared → Prop} (h : Q 0xFCA86420 { s with toks := s.toks + 1 }) : wpAny (model prog w) A (pyHash .none) Q E s := by
  have hT : s.TypeIs .none "NoneType" := rfl
  unfold pyHash
  have hv : [Value.none].any Value.onHeap = false := rfl
  refine wpAny_bind ?_
  rw [cRoomFor, if_neg (by rw [hv]; exact Bool.false_ne_true)]; refine wpAny_pure ?_
  refine wpAny_bind (wpAny_specialOf hT PySem.F.slot_NoneType_hash.lookup ?_)
  show wpAny _ _ (if (some (Value.builtin "NoneType.__hash__") == some Value.none) = true then _ else _) Q E s
  rw [if_neg (by rw [beq_builtin_none]; exact Bool.false_ne_true)]
  refine wpAny_bind (wpAny_specialOf hT PySem.F.slot_NoneType_hash.lookup ?_)
  show wpAny _ _ (callSpecialIfBoundUnlessNone? .none "__hash__" _ >>= _) Q E s
  refine wpAny_bind (wpAny_callSpecialIfBoundUnlessNone?_slot hT PySem.F.slot_NoneType_hash
    (wpAny_call_entry PySem.F.slot_NoneType_hash hT PySem.F.entry_NoneType_hash
      (show wpAny _ _ (do ret (← mkInt 0xFCA86420)) _ _ s from wpAny_ret_mkInt ?_) (PySem.F.args_NoneType_hash_1 _)))
  show wpAny _ _ (if (decide (-(2 : Int) ^ 63 ≤ 0xFCA86420) && decide ((0xFCA86420 : Int) < 2 ^ 63)) = true then _ else _) Q E _
  rw [if_pos (by decide)]
  exact wpAny_pure h
theorem eqBool_none {Q : Bool → Shared → Prop} (h : Q true s) : wpAny (model prog w) A (eqBool .none .none) Q E s := by
  unfold eqBool
  refine wpAny_holding ?_
  show wpAny _ _ (if (Value.none == Value.none) = true then _ else _) Q E s
  rw [if_pos (show (Value.none == Value.none) = true from rfl)]
  exact wpAny_bind (wpAny_rule (wpAny_pure h))
end
noncomputable def oiKind (prog : Program) (w : World) : KeyKind prog w (Option Int) where
  is := oiIs
  hash := oiHash
  inj := fun v a b h1 h2 => by
    rcases oiIs_shape h1 with ⟨rfl, rfl⟩ | ⟨i, t, rfl, rfl⟩ <;> rcases oiIs_shape h2 with ⟨rfl, h⟩ | ⟨j, u, rfl, h⟩ <;> first | rfl | (cases h; rfl) | cases h
  byValue := fun k v h => by rcases oiIs_shape h with ⟨rfl, rfl⟩ | ⟨i, t, rfl, rfl⟩ <;> rfl
  pyHash := fun hv h => by
    rcases oiIs_shape hv with ⟨rfl, rfl⟩ | ⟨i, t, rfl, rfl⟩
    · exact pyHash_none h
    · exact wpAny_pyHash_int h
  eqBool := fun hu hv h => by
    rcases oiIs_shape hu with ⟨rfl, rfl⟩ | ⟨i, t, rfl, rfl⟩ <;> rcases oiIs_shape hv with ⟨rfl, rfl⟩ | ⟨j, u, rfl, rfl⟩
    · exact eqBool_none (by simpa using h)
    · exact PySem.SeqAt.EqAt.none_int j u _ _ _ _ (by simpa using h)
    · exact PySem.SeqAt.EqAt.int_none i t _ _ _ _ (by simpa using h)
    · exact wpAny_eqBool_int (by rw [show (i == j) = decide (some i = some j) from by by_cases hh : i = j <;> simp [hh]]; exact h)
  «strs» := fun k x t v h => by cases k <;> exact (Bool.false_ne_true h).elim

noncomputable def keyD : Option Int → D
  | none => .none
  | some i => .int i
noncomputable def litE (d : D) (e : Expr) : Bool := rConstant (fun c _ _ => kOf d == some c) e
noncomputable def keysE : List (Option Int) → List (Option Expr) → Bool
  | [], l => l.isEmpty
  | k :: ks, l => l1 (fun o r => oS (litE (keyD k)) o && keysE ks r) l
noncomputable def valsE : List D → List Expr → Bool
  | [], l => l.isEmpty
  | d :: vs, l => l1 (fun e r => litE d e && valsE vs r) l
section
variable {W : Wo} {n : Nat} {F : Fns} {si : SI} {inj inj' : List Addr} {σ σ' : Store} {C C₁ C₂ : List Led} {e e' V Y Z Z' O O' : Led} {h₀ h h' : Heap} {L : Addr} {m cm m' : Str → Option Value}

inductive KV (W : Wo) : List (Option Int × Value) → List (Option Int) → List D → Prop
  | nil : KV W [] [] []
  | cons {k : Option Int} {v : Value} {d : D} {kvs : List (Option Int × Value)} {ks : List (Option Int)} {vs : List D} : (∀ Z, Rep W Z v d) → KV W kvs ks vs → KV W ((k, v) :: kvs) (k :: ks) (d :: vs)
theorem KV.keys {kvs : List (Option Int × Value)} {ks : List (Option Int)} {vs : List D} (h : KV W kvs ks vs) : kvs.map (·.1) = ks := by
  induction h with
  | nil => rfl
  | cons _ _ ih => rw [List.map_cons, ih]
theorem keyIs_of {k : Option Int} {i : D} (h : keyIs (keyD k) i = true) : i = keyD k := by
  cases k with
  | none => exact D.of_isNone h
  | some a => exact D.of_int (eq_of_beq h)
theorem keyIs_self (k : Option Int) : keyIs (keyD k) (keyD k) = true := by
  cases k with
  | none => rfl
  | some a => exact beq_self_eq_true (some a)
theorem valueAt_tail {kvs : List (Option Int × Value)} {k j : Option Int} {v w : Value} (hne : k ≠ j) (h : valueAt kvs j = some w) : valueAt ((k, v) :: kvs) j = some w := by simpa [valueAt, hne] using h
theorem KV.look {i : D} {d : D} {kvs : List (Option Int × Value)} {ks : List (Option Int)} {vs : List D} (r : KV W kvs ks vs) : tblOf (ks.map keyD) vs i = some d → X2 fun k v => A3 (i = keyD k) (valueAt kvs k = some v) (∀ Z, Rep W Z v d) := by
  induction r with
  | nil => intro h; cases h
  | @cons k v d' kvs ks vs hr r ih =>
    intro h
    refine of_condC (show cond (keyIs (keyD k) i) (some d') (tblOf (ks.map keyD) vs i) = some d from h) (fun e h => ?_) fun e h => ?_
    · exact ⟨k, v, keyIs_of e, by simp [valueAt], Option.some.inj h ▸ hr⟩
    · obtain ⟨j, w, e1, e2, e3⟩ := ih h
      refine ⟨j, w, e1, valueAt_tail (fun q => ?_) e2, e3⟩
      rw [e1, ← q, keyIs_self] at e
      cases e
theorem Rep.key {Z : Led} {v : Value} {k : Option Int} (h : Rep W Z v (keyD k)) : oiIs k v = true := by
  cases k with
  | none => exact h.cps (fun u => oiIs Option.none u = true) rfl
  | some i => exact h.cps (fun u => oiIs (Option.some i) u = true) fun t => beq_self_eq_true i
theorem lit_any {e : Expr} {d : D} {A : Around} {env : Env} {s : Shared} {Q E : Value → Shared → Prop} (hl : litE d e = true) (h : ∀ v tk, (∀ Z, Rep W Z v d) → Q v { s with toks := tk }) : wpAny (model W.prog W.w) A (eval e env) Q E s :=
  of_rConstant (M := fun e => wpAny (model W.prog W.w) A (eval e env) Q E s) (fun c n p hc => const_any (eq_of_beq hc) h) hl
theorem tab_pairs {A : Around} {env : Env} {E : Value → Shared → Prop} {pos : Pos} : ∀ {ks : List (Option Int)} {vs : List D} {keys : List (Option Expr)} {vals : List Expr} {s : Shared} {Q : List (Value × Value) → Shared → Prop}, keysE ks keys = true → valsE vs vals = true → ks.length = vs.length →
    (∀ tk pairs kvs, Carries (oiKind W.prog W.w) pairs kvs → KV W kvs ks vs → Q pairs { s with toks := tk }) → wpAny (model W.prog W.w) A (evalPairs (pairTrees keys vals env pos)) Q E s := by
  intro ks
  induction ks with
  | nil =>
    intro vs keys vals s Q h1 h2 h3 h
    cases vs with
    | cons _ _ => cases h3
    | nil =>
      refine nilE (M := fun keys => wpAny (model W.prog W.w) A (evalPairs (pairTrees keys vals env pos)) Q E s) (nilE (M := fun vals => wpAny (model W.prog W.w) A (evalPairs (pairTrees [] vals env pos)) Q E s) ?_ h2) h1
      exact pairTrees_nil_walk (h s.toks [] [] trivial .nil)
  | cons k ks ih =>
    intro vs keys vals s Q h1 h2 h3 h
    cases vs with
    | nil => cases h3
    | cons d vs =>
      refine of_l1 (M := fun keys => wpAny (model W.prog W.w) A (evalPairs (pairTrees keys vals env pos)) Q E s) (fun o keys h1 => ?_) h1
      refine of_l1 (M := fun vals => wpAny (model W.prog W.w) A (evalPairs (pairTrees (o :: keys) vals env pos)) Q E s) (fun v vals h2 => ?_) h2
      refine of_oS (M := fun o => wpAny (model W.prog W.w) A (evalPairs (pairTrees (o :: keys) (v :: vals) env pos)) Q E s) (fun e he => ?_) (bAnd h1).1
      refine pairTrees_cons_walk (lit_any he fun kv tk rk => lit_any (bAnd h2).1 fun vv tk' rv => ?_)
      exact ih (bAnd h1).2 (bAnd h2).2 (Nat.succ.inj h3) fun tk'' pairs kvs cc kk => h tk'' ((kv, vv) :: pairs) ((k, vv) :: kvs) ⟨(rk []).key, rfl, cc⟩ (.cons rv kk)
theorem keysE_all : ∀ {ks : List (Option Int)} {keys : List (Option Expr)}, keysE ks keys = true → keys.all (·.isSome) = true ∧ keys.length = ks.length := by
  intro ks
  induction ks with
  | nil => exact fun {keys} h => nilE (M := fun keys => keys.all (·.isSome) = true ∧ keys.length = 0) ⟨rfl, rfl⟩ h
  | cons k ks ih =>
    exact fun {keys} h => of_l1 (M := fun keys => keys.all (·.isSome) = true ∧ keys.length = ks.length + 1) (fun o r h => of_oS (M := fun o => (o :: r).all (·.isSome) = true ∧ r.length + 1 = ks.length + 1) (fun e _ => ⟨(ih (bAnd h).2).1, congrArg (· + 1) (ih (bAnd h).2).2⟩) (bAnd h).1) h
theorem valsE_len : ∀ {vs : List D} {vals : List Expr}, valsE vs vals = true → vals.length = vs.length := by
  intro vs
  induction vs with
  | nil => exact fun {vals} h => nilE (M := fun vals => vals.length = 0) rfl h
  | cons d vs ih => exact fun {vals} h => of_l1 (M := fun vals => vals.length = vs.length + 1) (fun e r h => congrArg (· + 1) (ih (bAnd h).2)) h
theorem EH.yin {env : Env} {ρ : Slots} {q : Addr × Obj} (H : EH W si env h₀ L m V Y inj Z ρ) : EH W si env h₀ L m V (q :: Y) inj Z ρ :=
  ⟨H.kinds, H.kind, H.glob, H.blt, fun i a x h0 h1 h2 => let ⟨v, nm, r⟩ := H.read i a x h0 h1 h2; ⟨v, nm.mono fun p hp => by rcases List.mem_append.mp hp with h | h <;> simp [h], r⟩, H.fn⟩
theorem SE.tbl {keys : List (Option Expr)} {vals : List Expr} {ix : Expr} {dpos pos : Pos} {kk : List (Option Int)} {vs : List D} {t : T} (h1 : keysE kk keys = true) (h2 : valsE vs vals = true) (h3 : kk.length = vs.length) (hne : keys ≠ []) (hle : keys.length ≤ 15) (hnd : kk.Nodup)
    (h : SE W n F si ix t) (hx : itemExpr ix = true) : SE W n F si (.Subscript (.Dict keys vals dpos) ix pos) (.tbl (kk.map keyD) vs t) := by
  intro A h₀ L fenv env m s Q E inj σ C V Y Z ρ a σ' act H S he hp
  refine of_bindC he fun p v₁ he => of_bindC he fun pd hvd he => of_mapP (K := fun a σ' => Post W h₀ L m V Y inj Z σ' a s Q) he hp fun x hx1 hp => ?_
  have apN := S.news.apart
  obtain ⟨k1, k2⟩ := keysE_all h1
  refine Subscript_ (wpAny_Dict_walk (knd := oiKind W.prog W.w) k1 (by rw [k2, h3, valsE_len h2]) hne hle (tab_pairs h1 h2 h3 fun tk pairs kvs cc kv => ⟨kvs, cc, Heap.DictOf.new _, fun h' D' hs' => ?_⟩))
  have hkn : (kvs.map (·.1)).Nodup := by rw [kv.keys]; exact hnd
  rw [merged_nil_of_nodup _ hkn] at D'
  obtain ⟨o, ho, hd⟩ := Heap.dictOf_iff.mp D'
  have Sy : St W inj σ C V ((s.heap.objs.size, dictN) :: Y) Z h₀ L m (s.heap.push dictN) := S.yin (S.fr.push _) (News.push S.fr S.news _) apN
  have Sz := Sy.ychange (fun q hq => apN q (by simp [hq])) hs' ho
  refine h (s := { s with heap := h', toks := _ }) act (EH.yin H) Sz v₁ fun u h2 tk2 inj2 C2 Z2 S2 g2 q => ?_
  obtain ⟨k, w, e1, e2, e3⟩ := kv.look hx1
  have D2 : Heap.DictOf (oiKind W.prog W.w) h2 s.heap.objs.size kvs := Heap.dictOf_iff.mpr ⟨o, (S2.news (s.heap.objs.size, o) (by simp)).1, hd⟩
  have hk : (oiKind W.prog W.w).is k u = true := (e1 ▸ q.at hvd).key
  refine tail_any D2.typeIs slot_dict_getitem.lookup (wpAny_getItem_of (s := { s with heap := h2, toks := tk2 }) hk D2.mapOf e2 ?_) (sub_item hx)
  exact hp w h2 _ inj2 C2 Z2 S2.yout g2 (.val (e3 _))

/-- a slot's value is told otherwise -/
theorem FRel.retell {env : Env} {ρ : Slots} {i : Nat} {a b : AV} (f : FRel W si env L m cm V inj Z ρ) (hsl : slot ρ i = some a) (k : ∀ v, RepA W inj Z v a → RepA W inj Z v b) : FRel W si env L m cm V inj Z (ρ.set i (some b)) := by
  refine ⟨f.scope, f.loc, f.cells, f.are, fun j c y hs hn => ?_, fun j hk => ?_, f.nodup⟩
  · rw [slot_set] at hs
    by_cases hij : i = j ∧ i < ρ.length
    · rw [if_pos hij] at hs
      obtain ⟨v, r, hv⟩ := f.slots i a y hsl (hij.1 ▸ hn)
      exact ⟨v, Option.some.inj hs ▸ k v r, hv⟩
    · rw [if_neg hij] at hs; exact f.slots j c y hs hn
  · rw [slot_set]
    by_cases hij : i = j ∧ i < ρ.length
    · have h0 := f.own j hk
      rw [← hij.1, hsl] at h0
      cases h0
    · rw [if_neg hij]; exact f.own j hk
theorem St.die (S : St W inj σ (C₁ ++ e :: C₂) V Y Z h₀ L m h) {j : Nat} (cs : Cells W (e ++ Z) (σ.set j .none) inj (C₁ ++ [] :: C₂)) : St W inj (σ.set j .none) (C₁ ++ [] :: C₂) V Y (e ++ Z) h₀ L m h := by
  have nd := S.nd
  have hsub : ∀ p ∈ (C₁ ++ [] :: C₂).flatten ++ V, p ∈ (C₁ ++ e :: C₂).flatten ++ V := fun p hp => by
    simp only [List.flatten_append, List.flatten_cons, List.mem_append, List.not_mem_nil, false_or] at hp ⊢
    rcases hp with (h | h) | h
    · exact .inl (.inl h)
    · exact .inl (.inr (.inr h))
    · exact .inr h
  refine ⟨S.fr, fun p hp => S.news p ?_, ?_, fun p hp q hq => ?_, fun p hp q hq => ?_, cs⟩
  · simp only [List.flatten_append, List.flatten_cons, List.mem_append, List.not_mem_nil, false_or] at hp ⊢
    rcases hp with (h | h) | h | h | h | h
    · exact .inl (.inl h)
    · exact .inl (.inr (.inr h))
    · exact .inr (.inl h)
    · exact .inr (.inr (.inl h))
    · exact .inl (.inr (.inl h))
    · exact .inr (.inr (.inr h))
  · simp only [List.flatten_append, List.flatten_cons, List.map_append, List.append_assoc, List.nodup_append, List.mem_append, List.mem_map, ne_eq, List.nil_append] at nd ⊢
    obtain ⟨n1, ⟨n2, n3, n6⟩, n7⟩ := nd
    exact ⟨n1, n3, fun a ha b hb => n7 a ha b (.inr hb)⟩
  · simp only [List.mem_append] at hq
    rcases hq with h | h | h
    · exact S.ap p (hsub p hp) q (by simp [h])
    · intro ee
      obtain ⟨e₁, e₂, he⟩ := List.append_of_mem h
      obtain ⟨w1, w2⟩ := S.apart (e₁ := e₁) (d := q.1) (o := q.2) (e₂ := e₂) he
      simp only [List.flatten_append, List.flatten_cons, List.mem_append, List.not_mem_nil, false_or] at hp w1 w2
      rcases hp with (h | h) | h
      · exact w1 p (.inl h) ee
      · exact w2 p (.inr (.inl h)) ee
      · exact w2 p (.inr (.inr (.inl h))) ee
    · exact S.ap p (hsub p hp) q (by simp [h])
  · rcases List.mem_append.mp hq with h | h
    · exact fun ee => S.ap q (by simp only [List.flatten_append, List.flatten_cons, List.mem_append]; exact .inl (.inr (.inl h))) p (by simp [hp]) ee.symm
    · exact S.ay p hp q h
/-- a cell becomes a tree -/
theorem SX.frz {es : List Stmt} {ts : List S} {i : Nat} (h : SX W n F si es ts) : SX W n F si es (.frzv i :: ts) := by
  intro A h₀ L env m cm s Q E inj σ C V Y Z ρ fl ρ' σ' act st fr S he hp
  refine of_bindC he fun q v₁ he => of_bindC v₁ fun b hsl v₁ => ?_
  cases b with
  | val d =>
    rw [← Option.some.inj v₁] at he
    exact h act st (fr.retell hsl fun _ r => r) S he hp
  | loc j =>
    refine of_bindC v₁ fun c hc v₁ => ?_
    obtain ⟨d, hd, eq⟩ := of_map v₁
    rw [← eq] at he
    obtain ⟨C₁, e, C₂, a, hC, ha, hr, put⟩ := S.cells.split _ _ hc
    rw [hC] at S
    have hz : ∀ p ∈ Z, p ∈ e ++ Z := fun p hp => List.mem_append_right _ hp
    have rd := hr.frz hz (fun p hp => List.mem_append_left _ hp) hd
    have g : Grow inj inj Z (e ++ Z) := ⟨⟨[], (List.append_nil _).symm⟩, hz⟩
    refine h act st ((fr.mono g).retell (b := .val d) hsl fun v r => ?_) (S.die (put _ _ _ hz .dead)) he (hp.trans g)
    obtain ⟨a', ev, ha'⟩ := r.of_loc
    rw [ev, ← Option.some.inj (ha.symm.trans ha')]
    exact .val rd

theorem SS.asgCF {y : Str} {py pos cpos : Pos} {ct elt iter : Expr} {tc t ti : T} {scope : Scope} {x i : Nat} {xs : Str} {px : Pos} (ck : CompOk si scope x xs) (hc : SB W n F (si.inner scope x) ct tc) (he : SE W n F (si.inner scope x) elt t) (hi : SE W n F si iter ti) (hns : noSet iter = true)
    (hsw : ∀ env : Env, env.scope = si.scope → swapsWith (.ListComp elt [⟨.Name xs px, iter, [ct], 0⟩] scope cpos) (some (.Name y py)) pos.line env = pure true) (hin : i < si.nf) (hy : si.nm[i]? = some y) (hk : si.scope.names.lookup y = some .local) :
    SS W n F si (.Assign [.Name y py] (.ListComp elt [⟨.Name xs px, iter, [ct], 0⟩] scope cpos) pos) (.asg i (.lcf t x ti tc)) := by
  intro A h₀ L env m cm s Q E inj σ C V Y Z ρ fl ρ' σ' act st fr S hev hp
  have H : EH W si env h₀ L m V Y inj Z ρ := fr.eh st
  refine of_mapS (K := fun fl ρ' σ' => SPost W si env h₀ L Y inj Z fl ρ' σ' s Q) hev hp fun z hz hp => ?_
  refine of_bindC hz fun p v₁ hz => of_bindC hz fun ds hds hz => of_ifC hz fun hlen hz => ?_
  obtain ⟨r, hl, ez⟩ := of_map hz
  rw [← ez] at hp
  have hke : env.scope.kind = .function := H.kind
  have hyk : env.kindOf y = some .local := by show env.scope.names.lookup y = _; rw [st.scope]; exact hk
  rw [exec_Assign_Name_used _ _ _ _ (hsw env st.scope)]
  refine wpAny_bind (wpAny_standAt (wpAny_bind ?_))
  show wpAny _ A (do let _ ← comprehension (.ListComp elt [⟨.Name xs px, iter, [ct], 0⟩] scope cpos) scope env _ (newList []) false (eval iter env) (some (assign (.Name y py) env))) _ _ s
  refine wpAny_bind (wpAny_mono (wpAny_comprehension_free (use := some (assign (.Name y py) env)) (Q := fun _ s' => Q .next s') rfl (noSet_eq hns) (closure_ok (cells_some ck fr)) ck.kind ck.names
    (lcf_core (RR := fun acc Cn r s' => compPost _ A E (some (assign (.Name y py) env)) (fun _ s' => Q .next s') acc Cn r s') act H S ck hc he hi v₁ hds hlen hl ?_)) (fun _ s' hq => wpAny_pure (wpAny_pure hq)) fun _ _ e => e)
  intro Da Cn h tk mC inj' C' Z' S' g rr hn hC₀ hCL off
  show wpAny _ A (assign (.Name y py) env (.ref Da)) _ _ _
  refine wpAny_assign_Name (wpAny_storeName_local hyk (by rw [st.loc]; exact S'.fr.ns) (fun h₂ hn₂ hs₂ => ?_) (by rw [hke]; rfl))
  rw [st.loc] at hn₂ hs₂
  have S3 := S'.keep (S'.fr.set hn₂ hs₂) (S'.news.set hs₂)
  refine ⟨mC, hn.sameBut hs₂ hCL, fun h3 hs3 => ?_⟩
  exact hp.fin (S3.but hs3 hCL hC₀ off) g ((fr.mono g).store hin hy (.val rr) fr.are (.inl ⟨hyk, by simp⟩) fun z hz => ⟨by simp [hz], rfl⟩)
end
end Mine

namespace Mine
open PySem PySem.W PySem.Calls PyProof.Rows

inductive Dflt (W : Wo) : List Value → List D → Prop
  | nil : Dflt W [] []
  | cons {v : Value} {d : D} {vs : List Value} {ds : List D} : (∀ Z, Rep W Z v d) → Dflt W vs ds → Dflt W (v :: vs) (d :: ds)

/-- a def of the text as the heap holds it -/
structure FnOk (W : Wo) (fa : Addr) (si : SI) (body : List Stmt) (fd : Fun) : Prop where
  ex : X14 fun (oc : Value) (od : Option Addr) (osl : Array (Option Value)) (name qual : Str) (params : Arguments) (dV kV doc pm : Value) (an : Option Addr) (cdv ct : Value) (dvals : List Value) => A4 (W.K.lookup fa = some ⟨oc, od, .func (fnOf name qual params body si.scope dV kV doc pm an cdv ct), osl⟩) (codeIn W.K cdv qual = true) (Dflt W dvals fd.dflt) (∀ (s : Shared) (vs : List Value), W.K.In s.heap → vs.length + dvals.length = fd.np → BindsTo s (fnOf name qual params body si.scope dV kV doc pm an cdv ct) ⟨vs, []⟩ ((si.nm.take fd.np).zip (vs ++ dvals)))
  comp : si.comp = none
  kind : si.scope.kind = .function
  co : si.scope.isCoroutine = false
  gen : si.scope.isGenerator = false
  hnd : ((cellsFrom 0 si.scope.names []).map (·.1)).Nodup
  kinds : ∀ x ∈ si.nm.take fd.np, storable si x = true
  np : fd.np ≤ si.nf
  nf : si.nf ≤ si.nm.length
  nodup : (si.nm.take si.nf).Nodup

theorem cellsFrom_vals : ∀ (names : List (Str × NameKind)) (n : Nat) (acc : List (Str × Addr)), (∀ p ∈ acc, p.2 < n) → (acc.map (·.2)).Nodup → (∀ p ∈ cellsFrom n names acc, p ∈ acc ∨ n ≤ p.2) ∧ ((cellsFrom n names acc).map (·.2)).Nodup
  | [], n, acc, h1, h2 => ⟨fun p hp => .inl hp, h2⟩
  | (x, k) :: r, n, acc, h1, h2 => by
    unfold cellsFrom
    split
    · have h3 : ∀ p ∈ (x, n) :: acc, p.2 < n + 1 := fun p hp => by
        rcases List.mem_cons.mp hp with rfl | hp
        · exact Nat.lt_succ_self _
        · exact Nat.lt_succ_of_lt (h1 p hp)
      have h4 : (((x, n) :: acc).map (·.2)).Nodup := by
        rw [List.map_cons, List.nodup_cons]
        refine ⟨fun hm => ?_, h2⟩
        obtain ⟨p, hp, e⟩ := List.mem_map.mp hm
        exact absurd (h1 p hp) (by rw [e]; exact Nat.lt_irrefl _)
      obtain ⟨a, b⟩ := cellsFrom_vals r (n + 1) ((x, n) :: acc) h3 h4
      refine ⟨fun p hp => ?_, b⟩
      rcases a p hp with hp | hp
      · rcases List.mem_cons.mp hp with rfl | hp
        · exact .inr (Nat.le_refl _)
        · exact .inl hp
      · exact .inr (by omega)
    · exact cellsFrom_vals r n acc h1 h2
theorem bindL_at {kindOf : Str → Option NameKind} {x : Str} {v : Value} (hk : kindOf x = some .local) : ∀ {binds : List (Str × Value)} {m : Str → Option Value}, (binds.map (·.1)).Nodup → ((x, v) ∈ binds ∨ (m x = some v ∧ x ∉ binds.map (·.1))) → bindL kindOf binds m x = some v
  | [], m, _, h => by
    rcases h with h | h
    · cases h
    · exact h.1
  | (n, w) :: r, m, hn, h => by
    rw [List.map_cons, List.nodup_cons] at hn
    unfold bindL
    refine bindL_at hk hn.2 ?_
    rcases h with h | h
    · rcases List.mem_cons.mp h with h | h
      · cases h
        exact .inr ⟨by rw [if_pos hk]; simp, hn.1⟩
      · exact .inl h
    · simp only [List.map_cons, List.mem_cons, not_or] at h
      refine .inr ⟨?_, h.2.2⟩
      split
      · simp [h.2.1, h.1]
      · exact h.1
theorem bindC_at {kindOf : Str → Option NameKind} {x : Str} {v : Value} (hk : ¬ kindOf x = some .local) : ∀ {binds : List (Str × Value)} {m : Str → Option Value}, (binds.map (·.1)).Nodup → ((x, v) ∈ binds ∨ (m x = some v ∧ x ∉ binds.map (·.1))) → bindC kindOf binds m x = some v
  | [], m, _, h => by
    rcases h with h | h
    · cases h
    · exact h.1
  | (n, w) :: r, m, hn, h => by
    rw [List.map_cons, List.nodup_cons] at hn
    unfold bindC
    refine bindC_at hk hn.2 ?_
    rcases h with h | h
    · rcases List.mem_cons.mp h with h | h
      · cases h
        exact .inr ⟨by rw [if_neg hk]; simp, hn.1⟩
      · exact .inl h
    · simp only [List.map_cons, List.mem_cons, not_or] at h
      refine .inr ⟨?_, h.2.2⟩
      split
      · exact h.1
      · simp [h.2.1, h.1]

section
variable {W : Wo} {n : Nat} {F : Fns} {si : SI} {inj inj' : List Addr} {σ σ' : Store} {C C₁ C₂ : List Led} {e e' V Y Z Z' O O' : Led} {h₀ h h' : Heap} {L : Addr} {m cm m' : Str → Option Value}

theorem RepAs.dflt : ∀ {vs : List Value} {ds : List D}, Dflt W vs ds → RepAs W inj Z vs (ds.map .val) := by
  intro vs ds h
  induction h with
  | nil => exact .nil
  | cons h _ ih => exact .cons (.val (h _)) ih
theorem RepAs.app : ∀ {vs ws : List Value} {as bs : List AV}, RepAs W inj Z vs as → RepAs W inj Z ws bs → RepAs W inj Z (vs ++ ws) (as ++ bs) := by
  intro vs ws as bs h b
  induction h with
  | nil => exact b
  | cons a _ ih => exact .cons a ih
theorem RepAs.at {a : AV} : ∀ {vs : List Value} {as : List AV}, RepAs W inj Z vs as → ∀ i : Nat, as[i]? = some a → ∃ v, vs[i]? = some v ∧ RepA W inj Z v a := by
  intro vs as h
  induction h with
  | nil => intro i h; cases h
  | cons x _ ih =>
    intro i h
    cases i with
    | zero => exact ⟨_, rfl, Option.some.inj h ▸ x⟩
    | succ i => exact ih i h
theorem pad_slot {ns : Nat} {as : List AV} {i : Nat} {a : AV} (h : slot (pad ns as) i = some a) : as[i]? = some a := by
  unfold slot pad at h
  rcases Nat.lt_or_ge i as.length with hi | hi
  · rw [List.getElem?_append_left (by simpa using hi), List.getElem?_map] at h
    cases q : as[i]? with
    | none => rw [q] at h; cases h
    | some b => rw [q] at h; simpa using h
  · rw [List.getElem?_append_right (by simpa using hi)] at h
    split at h
    · rename_i b hb
      rw [List.getElem?_replicate] at hb
      split at hb <;> simp at hb
    · cases h

/-- into a def and back -/
theorem enter {A : Around} {s : Shared} {fa : Addr} {env : Env} {body : List Stmt} {fd : Fun} {vs : List Value} {as : List AV} {R : Result → Shared → Prop} {fl : Fl} {ρ' : Slots} (ok : FnOk W fa si body fd) (hb : SX W n F si body fd.body)
    (below : X3 fun A₀ base outer => Below A₀ base outer h₀ ∧ A.frames = some (env :: outer)) (hK : W.K.In h₀) (hT : Top W.p W.loose W.mean W.mg W.mb h₀) (hf : env.frame = some L) (hke : env.scope.kind = .function) (hdp : A.depth + 2 * n + 1 < recursionLimit) (hun : A.units + 3 + 8 * n + 100 < cLine) (hhd : A.handled = none)
    (S : St W inj σ C V Y Z h₀ L m s.heap) (rs : RepAs W inj Z vs as) (hlen : as.length + fd.dflt.length = fd.np) (he : evSs F fd.body (pad fd.ns (as ++ fd.dflt.map .val)) σ = some (fl, ρ', σ'))
    (fin : ∀ v h' tk' inj' C' Z', St W inj' σ' C' V Y Z' h₀ L m h' → Grow inj inj' Z Z' → (match fl with | .ret a => RepA W inj' Z' v a | .next => v = .none) → R (.ok (.ret v)) { s with heap := h', toks := tk' }) :
    codeAny (model W.prog W.w) A (.call (.ref fa) ⟨vs, []⟩) R s := by
  obtain ⟨A₀, base, outer, B, hA⟩ := below
  obtain ⟨oc, od, osl, name, qual, params, dV, kV, doc, pm, an, cdv, ct, dvals, hlk, hcd, hdf, hbd⟩ := ok.ex
  have rall : RepAs W inj Z (vs ++ dvals) (as ++ fd.dflt.map .val) := rs.app (RepAs.dflt hdf)
  have hl1 := rs.length
  have hl2 : dvals.length = fd.dflt.length := by
    have := (RepAs.dflt (W := W) (inj := inj) (Z := Z) hdf).length
    simpa using this
  have hnp : (si.nm.take fd.np).length = fd.np := by rw [List.length_take]; have := ok.np; have := ok.nf; omega
  have hzk : ((si.nm.take fd.np).zip (vs ++ dvals)).map (·.1) = si.nm.take fd.np := by
    rw [List.map_fst_zip]; rw [hnp]; simp; omega
  have hkn : (si.nm.take fd.np).Nodup := by
    have e : si.nm.take fd.np = (si.nm.take si.nf).take fd.np := by rw [List.take_take, Nat.min_eq_left ok.np]
    rw [e]; exact ok.nodup.sublist (List.take_sublist _ _)
  refine code_defC B S.fr hK S.news hT hA hf hke hlk hcd (by omega) (hbd s vs (hK.keeps S.fr.keep) (by omega)) ?_ ok.hnd ?_ ok.co ok.gen ok.kind
  · rw [List.all_eq_true]
    intro y hy
    have : y.1 ∈ si.nm.take fd.np := by rw [← hzk]; exact List.mem_map_of_mem hy
    exact ok.kinds _ this
  · intro g L' h₁ tk cells FG F' N' are B' K' T' lt
    have hcv := cellsFrom_vals si.scope.names (L' + 1) [] (fun p hp => nomatch hp) (by simp)
    have ckeys := CellsAre.keys are
    have cgt : ∀ p ∈ cells, L' < p.1 := fun p hp => by
      have : p.1 ∈ cells.map (·.1) := List.mem_map_of_mem hp
      rw [ckeys] at this
      obtain ⟨q, hq, e⟩ := List.mem_map.mp this
      rcases hcv.1 q hq with h | h
      · cases h
      · rw [← e]; exact h
    have S' : St W inj σ C cells (V ++ Y) Z g L' (bindL (envOfC qual si.scope L' fa cdv).kindOf ((si.nm.take fd.np).zip (vs ++ dvals)) fun _ => none) h₁ := by
      have nd := S.nd
      refine ⟨F', fun p hp => N' p ?_, ?_, fun p hp q hq => ?_, fun p hp q hq => ?_, S.cells⟩
      · simp only [List.mem_append] at hp ⊢
        rcases hp with h | h | (h | h) | h <;> simp [h]
      · rw [List.map_append] at nd ⊢
        obtain ⟨n1, _, _⟩ := List.nodup_append.mp nd
        refine List.nodup_append.mpr ⟨n1, by rw [ckeys]; exact hcv.2, ?_⟩
        intro a ha b hb e
        obtain ⟨p, hp, rfl⟩ := List.mem_map.mp ha
        obtain ⟨q, hq, rfl⟩ := List.mem_map.mp hb
        have h1 := lt p (by simp only [List.mem_append]; exact .inl hp)
        have h2 := cgt q hq
        rw [e] at h1
        exact absurd (Nat.lt_trans h1 h2) (Nat.lt_irrefl _)
      · rcases List.mem_append.mp hp with hp | hp
        · simp only [List.mem_append] at hq
          rcases hq with (hq | hq) | hq
          · intro e
            rw [List.map_append] at nd
            exact (List.nodup_append.mp nd).2.2 p.1 (mem_keys hp) q.1 (mem_keys hq) e
          · exact S.ap p (List.mem_append.mpr (.inl hp)) q (List.mem_append.mpr (.inl hq))
          · exact S.ap p (List.mem_append.mpr (.inl hp)) q (List.mem_append.mpr (.inr hq))
        · intro e
          have h1 := lt q (by simp only [List.mem_append] at hq ⊢; rcases hq with (h | h) | h <;> simp [h])
          have h2 := cgt p hp
          rw [← e] at h1
          exact absurd (Nat.lt_trans h1 h2) (Nat.lt_irrefl _)
      · rcases List.mem_append.mp hp with hp | hp
        · exact S.ap p (List.mem_append.mpr (.inr hp)) q (List.mem_append.mpr (.inr hq))
        · exact S.ay p hp q hq
    have act' : Act W n (A.deeper (envOfC qual si.scope L' fa cdv)) g L' (envOfC qual si.scope L' fa cdv) := by
      refine ⟨⟨_, _, _, B', Around.frames_deeper hA⟩, K', T', rfl, ok.kind, ?_, ?_, hhd⟩
      · rw [depth_deeper]; omega
      · rw [units_deeper]; omega
    have stt : Stat si (envOfC qual si.scope L' fa cdv) L' := by
      refine ⟨rfl, rfl, ok.kind, rfl, rfl, ok.comp, ?_⟩
      show ((cellsFrom (L' + 1) si.scope.names []).map (·.1)).Nodup
      rw [cellsFrom_names si.scope.names (L' + 1) 0 [] [] rfl]
      exact ok.hnd
    have fr : FRel W si (envOfC qual si.scope L' fa cdv) L' (bindL (envOfC qual si.scope L' fa cdv).kindOf ((si.nm.take fd.np).zip (vs ++ dvals)) fun _ => none) (bindC (envOfC qual si.scope L' fa cdv).kindOf ((si.nm.take fd.np).zip (vs ++ dvals)) fun _ => none) cells inj Z (pad fd.ns (as ++ fd.dflt.map .val)) := by
      refine ⟨rfl, rfl, rfl, are, fun i a x hs hn => ?_, fun i hi => ?_, ok.nodup⟩
      · have ha := pad_slot hs
        obtain ⟨v, hv, r⟩ := RepAs.at rall i ha
        refine ⟨v, r, ?_⟩
        have hi : i < fd.np := by
          have := (List.getElem?_eq_some_iff.mp ha).1
          simp at this; omega
        have hx : (si.nm.take fd.np)[i]? = some x := by rw [List.getElem?_take_of_lt hi]; exact hn
        have hm : (x, v) ∈ (si.nm.take fd.np).zip (vs ++ dvals) := by
          refine List.mem_of_getElem? (i := i) ?_
          rw [List.getElem?_zip_eq_some]
          exact ⟨hx, hv⟩
        have hst := ok.kinds x (List.mem_of_getElem? hx)
        unfold storable at hst
        simp only [Bool.or_eq_true, beq_iff_eq] at hst
        have hnd2 : (((si.nm.take fd.np).zip (vs ++ dvals)).map (·.1)).Nodup := by rw [hzk]; exact hkn
        rcases hst with hst | hst
        · exact .inl ⟨hst, bindL_at hst hnd2 (.inl hm)⟩
        · exact .inr ⟨hst, bindC_at (by show ¬ si.scope.names.lookup x = _; rw [hst]; simp) hnd2 (.inl hm)⟩
      · cases hq : slot (pad fd.ns (as ++ fd.dflt.map .val)) i with
        | none => rfl
        | some a =>
          have ha := pad_slot hq
          have := (List.getElem?_eq_some_iff.mp ha).1
          simp at this
          have := ok.np
          omega
    refine hb (s := { s with heap := h₁, toks := tk }) act' stt fr S' he fun f h2 tk2 inj2 C2 V2 Z2 m2 cm2 S2 g2 fr2 fl2 => ?_
    refine leaveK_ S2.fr S2.news fun F3 N3 => ?_
    have S3 : St W inj2 σ' C2 V Y Z2 h₀ L m h2 := by
      refine ⟨F3, fun p hp => N3 p ?_, ?_, fun p hp q hq => ?_, fun p hp q hq => S2.ay p (List.mem_append.mpr (.inr hp)) q hq, S2.cells⟩
      · simp only [List.mem_append] at hp ⊢
        rcases hp with h | h | h | h <;> simp [h]
      · have nd := S.nd
        have nd2 := S2.nd
        rw [List.map_append] at nd nd2 ⊢
        refine List.nodup_append.mpr ⟨(List.nodup_append.mp nd2).1, (List.nodup_append.mp nd).2.1, ?_⟩
        intro a ha b hb e
        obtain ⟨p, hp, rfl⟩ := List.mem_map.mp ha
        obtain ⟨q, hq, rfl⟩ := List.mem_map.mp hb
        exact S2.ap p (List.mem_append.mpr (.inl hp)) q (List.mem_append.mpr (.inl (List.mem_append.mpr (.inl hq)))) e
      · rcases List.mem_append.mp hp with hp | hp
        · refine S2.ap p (List.mem_append.mpr (.inl hp)) q ?_
          simp only [List.mem_append] at hq ⊢
          rcases hq with h | h
          · exact .inl (.inr h)
          · exact .inr h
        · rcases List.mem_append.mp hq with hq | hq
          · exact S.ap p (List.mem_append.mpr (.inr hp)) q (List.mem_append.mpr (.inl hq))
          · exact S2.ay p (List.mem_append.mpr (.inl hp)) q hq
    cases fl2 with
    | next => exact fin .none h2 tk2 inj2 C2 Z2 S3 g2 rfl
    | ret r => exact fin _ h2 tk2 inj2 C2 Z2 S3 g2 r
end
end Mine

namespace Mine
open PySem PySem.W PySem.Calls PyProof.Rows

structure AllOk (W : Wo) (P C : Nat → Option Fun) : Prop where
  fns : ∀ f fd, f < 1000 → P f = some fd → X2 fun si body => FnOk W (W.nm.fa f) si body fd ∧ ∀ n F, CallOk W n F → SX W n F si body fd.body
  cls : ∀ c fd, C c = some fd → X3 fun fI si body => A6 (W.nm.ca c = W.nm.fa (1000 + c)) (makesIn W.K (W.nm.fa (1000 + c)) = true) (findIn W.K (.ref (W.nm.fa (1000 + c))) "__init__" = some (some (.ref fI))) (isFn W.K (.ref fI) = true) (FnOk W fI si body fd) (∀ n F, CallOk W n F → SX W n F si body fd.body)

section
variable {W : Wo} {n : Nat} {F : Fns} {si : SI} {inj inj' inj₂ : List Addr} {σ σ' σ₂ : Store} {C C₁ C₂ : List Led} {e e' V Y Z Z' O O' : Led} {h₀ h h' : Heap} {L : Addr} {m cm m' : Str → Option Value}

theorem sub_flat {α : Type} {a b : List (List α)} (h : a.Sublist b) : a.flatten.Sublist b.flatten := by
  induction h with
  | slnil => exact List.Sublist.refl _
  | cons x _ ih => rw [List.flatten_cons]; exact ih.trans (List.sublist_append_right _ _)
  | cons_cons x _ ih => rw [List.flatten_cons, List.flatten_cons]; exact (List.Sublist.refl _).append ih
theorem St.pick (S : St W inj σ C V Y Z h₀ L m h) (hs : C₂.Sublist C) (cs : Cells W Z σ₂ inj₂ C₂) : St W inj₂ σ₂ C₂ V Y Z h₀ L m h := by
  have hf : C₂.flatten.Sublist C.flatten := sub_flat hs
  have hfV : (C₂.flatten ++ V).Sublist (C.flatten ++ V) := hf.append (List.Sublist.refl _)
  exact ⟨S.fr, fun p hp => S.news p ((hf.append (List.Sublist.refl _)).subset hp), S.nd.sublist (hfV.map _), fun p hp q hq => S.ap p (hfV.subset hp) q hq, S.ay, cs⟩
theorem leave_ok {b : Nat} {v : Value} {a a' : AV} (S : St W inj' σ C V Y Z' h₀ L m h) (g : Grow inj inj' Z Z') (hb : inj.length = b) (r : RepA W inj' Z' v a) (hl : leave b a σ = some (a', σ')) :
    X3 fun inj3 C3 Z3 => A3 (St W inj3 σ' C3 V Y Z3 h₀ L m h) (Grow inj inj3 Z Z3) (RepA W inj3 Z3 v a') := by
  obtain ⟨⟨x, rfl⟩, hz⟩ := g
  have ht : (inj ++ x).take b = inj := by rw [← hb, List.take_left]
  have sunk : St W inj (σ.take b) (C.take b) V Y ((C.drop b).flatten ++ Z') h₀ L m h := by have := S.sink b; rwa [ht] at this
  have g2 : Grow inj inj Z ((C.drop b).flatten ++ Z') := ⟨⟨[], by simp⟩, fun p hp => List.mem_append.mpr (.inr (hz p hp))⟩
  cases a with
  | val d => cases hl; exact ⟨_, _, _, sunk, g2, .val (r.of_val.mono fun p hp => List.mem_append_right _ hp)⟩
  | loc i =>
    obtain ⟨a, ev, hi⟩ := r.of_loc
    rw [ev]
    by_cases hib : i < b
    · cases (if_pos hib).symm.trans hl
      exact ⟨_, _, _, sunk, g2, .loc (by rw [List.getElem?_append_left (hb ▸ hib)] at hi; exact hi)⟩
    · have hl := (if_neg hib).symm.trans hl
      obtain ⟨c, hc, hl⟩ := of_bind hl
      obtain ⟨a', e, h1, h2, h3⟩ := S.cells.at hc
      rw [← Option.some.inj (hi.symm.trans h1)] at h3
      rcases of_or hl with hl | hl
      · obtain ⟨l, hd, hl⟩ := of_map hl
        cases hl
        rw [D.of_list hd] at h3
        exact ⟨_, _, _, sunk, g2, .val (h3.frz (fun p hp => List.mem_append_right _ hp) (fun p hp => List.mem_append_left _ (drop_mem (Nat.le_of_not_lt hib) h2 p hp)) rfl)⟩
      · obtain ⟨p, hd, hl⟩ := of_map hl
        cases hl
        rw [D.of_inst hd] at h3
        have hsub : (C.take b ++ [e]).Sublist C := by
          have h4 : [e].Sublist (C.drop b) := by
            rw [List.singleton_sublist]
            refine List.mem_of_getElem? (i := i - b) ?_
            rw [List.getElem?_drop, Nat.add_sub_cancel' (Nat.le_of_not_lt hib)]; exact h2
          have h5 := (List.Sublist.refl (C.take b)).append h4
          rwa [List.take_append_drop] at h5
        have hcl := S.cells.take b
        rw [ht] at hcl
        refine ⟨inj ++ [a], C.take b ++ [e], Z', S.pick hsub (hcl.append (.cons h3 .nil)), ⟨⟨[a], Eq.refl _⟩, hz⟩, .loc ?_⟩
        rw [← hb, List.getElem?_append_right (Nat.le_refl _), Nat.sub_self]; rfl

theorem callOk {P Cc : Nat → Option Fun} (all : AllOk W P Cc) : ∀ n, CallOk W n (callN P Cc n)
  | 0 => by
    intro f A h₀ L fenv m s Q E inj σ C V Y Z vs as a σ' act S rs he hp
    cases he
  | n + 1 => by
    intro f A h₀ L fenv m s Q E inj σ C V Y Z vs as a σ' act S rs he hp
    have hinj : inj.length = σ.length := S.cells.len.1
    have dp := act.dp
    have un := act.un
    by_cases hf : f < 1000
    · have he := (if_pos hf).symm.trans he
      refine of_bindC he fun fd hP he => of_ifC he fun hlen he => of_bindC he fun q v₁ he => ?_
      obtain ⟨si, body, ok, hb⟩ := all.fns f fd hf hP
      refine wpAny_call (enter ok (hb n _ (callOk all n)) act.below act.K act.top act.frame act.kind (by omega) (by omega) act.hd S rs hlen v₁ fun v h' tk' inj' C' Z' S' g r => ?_)
      obtain ⟨f1, ρ1, σ1⟩ := q
      cases f1 with
      | ret b =>
        obtain ⟨inj3, C3, Z3, S3, g3, r3⟩ := leave_ok S' g hinj r he
        exact hp v h' tk' inj3 C3 Z3 S3 g3 r3
      | next =>
        obtain ⟨inj3, C3, Z3, S3, g3, r3⟩ := leave_ok S' g hinj (.val .none) he
        rw [(show v = .none from r)]
        exact hp .none h' tk' inj3 C3 Z3 S3 g3 r3
    · have he := (if_neg hf).symm.trans he
      refine of_bindC he fun fd hC he => of_ifC he fun hlen he => of_bindC he fun q v₁ he => ?_
      obtain ⟨fI, si, body, hca, hm, hi, hfn, ok, hb⟩ := all.cls _ fd hC
      have hfe : 1000 + (f - 1000) = f := by omega
      rw [hfe] at hca hm hi
      obtain ⟨f1, ρ1, σ1⟩ := q
      cases f1 with
      | ret b => exact nomatch he
      | next =>
        refine call_cls S.fr act.K S.news hm hi hfn fun x dx h' F' N' lt hlt => ?_
        have S2 : St W (inj ++ [x]) (σ ++ [.inst (f - 1000) []]) (C ++ [[(x, instObj (W.nm.ca (f - 1000)) dx), (dx, dictOf [] 0)]]) V Y Z h₀ L m h' := by
          refine S.fresh F' (by rw [hca]; exact N') (fun y hy p hp => ?_) ?_ (.inst .nil)
          · have := lt p hp
            simp only [List.mem_cons, List.not_mem_nil, or_false] at hy
            rcases hy with rfl | rfl
            · exact Nat.ne_of_lt (Nat.lt_trans this hlt)
            · exact Nat.ne_of_lt this
          · simp only [List.map_cons, List.map_nil, List.nodup_cons, List.mem_singleton, List.not_mem_nil, not_false_eq_true, List.nodup_nil, and_true]
            exact fun q => Nat.lt_irrefl _ (q ▸ hlt)
        have gs : Grow inj (inj ++ [x]) Z Z := Grow.snoc
        have rs2 : RepAs W (inj ++ [x]) Z (.ref x :: vs) (.loc σ.length :: as) := .cons (.loc (by rw [← hinj]; simp)) (rs.mono gs.z gs.inj)
        refine enter (s := { s with heap := h' }) ok (hb n _ (callOk all n)) (by obtain ⟨A₀, base, outer, B, hA⟩ := act.below; exact ⟨A₀, base, outer, B, hA⟩) act.K act.top act.frame act.kind (by rw [depth_under_make]; omega) (by rw [units_under_make]; omega) act.hd S2 rs2 (by simpa using hlen) (by simpa using v₁) fun v h2 tk2 inj2 C2 Z2 S3 g r => ?_
        refine ⟨r, ?_⟩
        have S4 := S3.pick (List.take_sublist (σ.length + 1) C2) (S3.cells.take (σ.length + 1))
        obtain ⟨⟨y, hy⟩, hz⟩ := g
        have hin : inj2[σ.length]? = some x := by rw [hy, ← hinj]; simp
        have g4 : Grow inj (inj2.take (σ.length + 1)) Z Z2 := by
          refine ⟨⟨[x], ?_⟩, hz⟩
          rw [hy, ← hinj]
          have : (inj ++ [x]).length = inj.length + 1 := by simp
          rw [← this, List.take_left]
        obtain ⟨inj3, C3, Z3, S5, g5, r5⟩ := leave_ok S4 g4 hinj (.loc (i := σ.length) (by rw [List.getElem?_take_of_lt (by omega)]; exact hin)) he
        exact hp (.ref x) h2 tk2 inj3 C3 Z3 S5 g5 r5
end
end Mine

namespace Mine
open PySem PySem.W PySem.Calls PyProof.Rows

noncomputable def n_get_attr : List Str := ["v", "name"]
noncomputable def s_get_attr : List S :=
  [.iff (.cmp .is (.attr (.v 0) 2) (.c .none))
    [.ret (.c .none)]
    [],
  .ret (.meth .get (.attr (.v 0) 2) [(.v 1)])]
noncomputable def f_get_attr : Fun := { np := 2, dflt := [], ns := 2, body := s_get_attr }
noncomputable def n_names_of : List Str := ["v", "tag", "dims", "rows", "names"]
noncomputable def s_names_of : List S :=
  [.iff (.cmp .eq (.attr (.v 0) 0) (.c (.str "language")))
    [.bot]
    [],
  .iff (.cmp .eq (.attr (.v 0) 0) (.c (.str "environment")))
    [.ret .bot]
    [],
  .asg 2 (.call 40 [(.v 0)]),
  .iff (.and (.cmp .isnot (.v 2) (.c .none)) (.cmp .eq (.bi .len [(.v 2)]) (.c (.int 1))))
    [.asg 3 (.call 45 [(.v 0)]),
    .ret (.ite (.cmp .is (.v 3) (.c .none)) (.c .none) (.idx (.v 3) (.c (.int 0))))]
    [],
  .asg 4 (.call 28 [(.v 0), (.c (.str "names"))]),
  .iff (.cmp .is (.v 4) (.c .none))
    [.ret (.c .none)]
    [],
  .ret (.bi .list1 [(.attr (.v 4) 1)])]
noncomputable def f_names_of : Fun := { np := 1, dflt := [], ns := 5, body := s_names_of }
noncomputable def n_dim_of : List Str := ["v", "dims"]
noncomputable def s_dim_of : List S :=
  [.asg 1 (.call 28 [(.v 0), (.c (.str "dim"))]),
  .iff (.cmp .is (.v 1) (.c .none))
    [.ret (.c .none)]
    [],
  .ret (.bi .list1 [(.attr (.v 1) 1)])]
noncomputable def f_dim_of : Fun := { np := 1, dflt := [], ns := 2, body := s_dim_of }
noncomputable def n_dimnames_of : List Str := ["v", "found", "part"]
noncomputable def e_dimnames_of_1 : T :=
  (.ite (.cmp .eq (.attr (.v 2) 0) (.c (.str "NULL"))) (.c .none) (.bi .list1 [(.attr (.v 2) 1)]))
noncomputable def s_dimnames_of : List S :=
  [.asg 1 (.call 28 [(.v 0), (.c (.str "dimnames"))]),
  .iff (.cmp .is (.v 1) (.c .none))
    [.ret (.c .none)]
    [],
  .ret (.lc e_dimnames_of_1 2 (.attr (.v 1) 1))]
noncomputable def f_dimnames_of : Fun := { np := 1, dflt := [], ns := 3, body := s_dimnames_of }
noncomputable def n_nearest_whole : List Str := ["n", "d", "low", "rest"]
noncomputable def s_nearest_whole : List S :=
  [.asg 2 (.bin .fdiv (.v 0) (.v 1)),
  .asg 3 (.bin .mul (.c (.int 2)) (.bin .sub (.v 0) (.bin .mul (.v 2) (.v 1)))),
  .iff (.or (.cmp .gt (.v 3) (.v 1)) (.and (.cmp .eq (.v 3) (.v 1)) (.cmp .eq (.bin .md (.v 2) (.c (.int 2))) (.c (.int 1)))))
    [.ret (.bin .add (.v 2) (.c (.int 1)))]
    [],
  .ret (.v 2)]
noncomputable def f_nearest_whole : Fun := { np := 2, dflt := [], ns := 4, body := s_nearest_whole }
noncomputable def n_exponent : List Str := ["x", "n", "d", "e"]
noncomputable def c_exponent_1 : T :=
  (.cmp .ge (.v 1) (.bin .mul (.c (.int 10)) (.v 2)))
noncomputable def b_exponent_2 : List S :=
  [.asg 2 (.bin .mul (.v 2) (.c (.int 10))),
  .aug 3 .add (.c (.int 1))]
noncomputable def c_exponent_3 : T :=
  (.cmp .lt (.v 1) (.v 2))
noncomputable def b_exponent_4 : List S :=
  [.asg 1 (.bin .mul (.v 1) (.c (.int 10))),
  .aug 3 .sub (.c (.int 1))]
noncomputable def s_exponent : List S :=
  [.asg 1 (.bi .abs [(.idx (.v 0) (.c (.int 0)))]),
  .asg 2 (.idx (.v 0) (.c (.int 1))),
  .asg 3 (.c (.int 0)),
  .whl c_exponent_1 b_exponent_2,
  .whl c_exponent_3 b_exponent_4,
  .ret (.v 3)]
noncomputable def f_exponent : Fun := { np := 1, dflt := [], ns := 4, body := s_exponent }
noncomputable def n_whole_text : List Str := ["n", "rest", "row", "part"]
noncomputable def c_whole_text_1 : T :=
  (.cmp .ge (.v 1) (.bin .pow (.c (.int 10)) (.c (.int 18))))
noncomputable def b_whole_text_2 : List S :=
  [.bot]
noncomputable def s_whole_text : List S :=
  [.asg 1 (.bi .abs [(.v 0)]),
  .asgL 2 [],
  .whl c_whole_text_1 b_whole_text_2,
  .app (.v 2) (.bi .str [(.v 1)]),
  .iff (.cmp .lt (.v 0) (.c (.int 0)))
    [.app (.v 2) (.c (.str "-"))]
    [],
  .rev (.v 2),
  .ret (.meth .join (.c (.str "")) [(.v 2)])]
noncomputable def f_whole_text : Fun := { np := 1, dflt := [], ns := 4, body := s_whole_text }
noncomputable def n_special_text : List Str := ["x"]
noncomputable def s_special_text : List S :=
  [.iff (.cmp .is (.v 0) (.c .none))
    [.ret (.c (.str "NA"))]
    [],
  .iff (.cmp .gt (.idx (.v 0) (.c (.int 1))) (.c (.int 0)))
    [.ret (.c .none)]
    [],
  .iff (.cmp .eq (.idx (.v 0) (.c (.int 0))) (.c (.int 0)))
    [.ret (.c (.str "NaN"))]
    [],
  .ret (.ite (.cmp .gt (.idx (.v 0) (.c (.int 0))) (.c (.int 0))) (.c (.str "Inf")) (.c (.str "-Inf")))]
noncomputable def f_special_text : Fun := { np := 1, dflt := [], ns := 1, body := s_special_text }
noncomputable def n_scaled : List Str := ["x", "e", "digits", "shift"]
noncomputable def s_scaled : List S :=
  [.asg 3 (.bin .sub (.bin .sub (.v 2) (.c (.int 1))) (.v 1)),
  .iff (.cmp .ge (.v 3) (.c (.int 0)))
    [.ret (.call 52 [(.bin .mul (.bi .abs [(.idx (.v 0) (.c (.int 0)))]) (.bin .pow (.c (.int 10)) (.v 3))), (.idx (.v 0) (.c (.int 1)))])]
    [],
  .ret (.call 52 [(.bi .abs [(.idx (.v 0) (.c (.int 0)))]), (.bin .mul (.idx (.v 0) (.c (.int 1))) (.bin .pow (.c (.int 10)) (.bin .sub (.c (.int 0)) (.v 3))))])]
noncomputable def f_scaled : Fun := { np := 3, dflt := [], ns := 4, body := s_scaled }
noncomputable def n_significant : List Str := ["x", "digits", "e", "n"]
noncomputable def s_significant : List S :=
  [.iff (.cmp .eq (.idx (.v 0) (.c (.int 0))) (.c (.int 0)))
    [.ret (.tup [(.c (.int 0)), (.bin .mul (.c (.str "0")) (.v 1)), (.c (.int 0))])]
    [],
  .asg 2 (.call 59 [(.v 0)]),
  .asg 3 (.call 80 [(.v 0), (.v 2), (.v 1)]),
  .iff (.cmp .ge (.v 3) (.bin .pow (.c (.int 10)) (.v 1)))
    [.aug 2 .add (.c (.int 1)),
    .asg 3 (.call 80 [(.v 0), (.v 2), (.v 1)])]
    [],
  .ret (.tup [(.ite (.cmp .gt (.idx (.v 0) (.c (.int 0))) (.c (.int 0))) (.c (.int 1)) (.neg (.c (.int 1)))), (.bi .str [(.v 3)]), (.v 2)])]
noncomputable def f_significant : Fun := { np := 2, dflt := [], ns := 4, body := s_significant }
noncomputable def n_without_tail : List Str := ["text", "end"]
noncomputable def c_without_tail_1 : T :=
  (.and (.cmp .gt (.v 1) (.c (.int 1))) (.cmp .eq (.idx (.v 0) (.bin .sub (.v 1) (.c (.int 1)))) (.c (.str "0"))))
noncomputable def b_without_tail_2 : List S :=
  [.aug 1 .sub (.c (.int 1))]
noncomputable def s_without_tail : List S :=
  [.asg 1 (.bi .len [(.v 0)]),
  .whl c_without_tail_1 b_without_tail_2,
  .ret (.sl (.v 0) (.c .none) (.v 1))]
noncomputable def f_without_tail : Fun := { np := 1, dflt := [], ns := 2, body := s_without_tail }
noncomputable def n_fixed_text : List Str := ["x", "places", "n", "text"]
noncomputable def s_fixed_text : List S :=
  [.asg 2 (.call 52 [(.bin .mul (.bi .abs [(.idx (.v 0) (.c (.int 0)))]) (.bin .pow (.c (.int 10)) (.v 1))), (.idx (.v 0) (.c (.int 1)))]),
  .asg 3 (.meth .rjustc (.call 66 [(.v 2)]) [(.bin .add (.v 1) (.c (.int 1))), (.c (.str "0"))]),
  .iff (.cmp .gt (.v 1) (.c (.int 0)))
    [.asg 3 (.bin .add (.bin .add (.sl (.v 3) (.c .none) (.bin .sub (.bi .len [(.v 3)]) (.v 1))) (.c (.str "."))) (.sl (.v 3) (.bin .sub (.bi .len [(.v 3)]) (.v 1)) (.c .none)))]
    [],
  .iff (.cmp .lt (.idx (.v 0) (.c (.int 0))) (.c (.int 0)))
    [.ret (.bin .add (.c (.str "-")) (.v 3))]
    [],
  .ret (.v 3)]
noncomputable def f_fixed_text : Fun := { np := 2, dflt := [], ns := 4, body := s_fixed_text }
noncomputable def n_measures : List Str := ["x", "digits", "side", "text", "e", "count", "left"]
noncomputable def s_measures : List S :=
  [.asgT [2, 3, 4] (.call 87 [(.v 0), (.v 1)]),
  .asg 5 (.bi .len [(.call 94 [(.v 3)])]),
  .asg 6 (.bin .add (.bi .max2 [(.v 4), (.c (.int 0))]) (.c (.int 1))),
  .iff (.cmp .lt (.idx (.v 0) (.c (.int 0))) (.c (.int 0)))
    [.aug 6 .add (.c (.int 1))]
    [],
  .ret (.tup [(.v 5), (.v 6), (.bi .max2 [(.bin .sub (.bin .sub (.v 5) (.c (.int 1))) (.v 4)), (.c (.int 0))]), (.v 4)])]
noncomputable def f_measures : Fun := { np := 2, dflt := [], ns := 7, body := s_measures }
noncomputable def n_chosen_form : List Str := ["xs", "digits", "count", "left", "places", "wide", "minus", "x", "row", "fixed_width", "scientific_width"]
noncomputable def b_chosen_form_1 : List S :=
  [.asg 8 (.call 115 [(.v 7), (.v 1)]),
  .asg 2 (.bi .max2 [(.v 2), (.idx (.v 8) (.c (.int 0)))]),
  .asg 3 (.bi .max2 [(.v 3), (.idx (.v 8) (.c (.int 1)))]),
  .asg 4 (.bi .max2 [(.v 4), (.idx (.v 8) (.c (.int 2)))]),
  .iff (.cmp .ge (.bi .abs [(.idx (.v 8) (.c (.int 3)))]) (.c (.int 100)))
    [.asg 5 (.bi .max2 [(.v 5), (.bin .sub (.bi .len [(.bi .str [(.bi .abs [(.idx (.v 8) (.c (.int 3)))])])]) (.c (.int 2)))])]
    [],
  .iff (.cmp .lt (.idx (.v 7) (.c (.int 0))) (.c (.int 0)))
    [.asg 6 (.c (.int 1))]
    []]
noncomputable def s_chosen_form : List S :=
  [.asg 2 (.c (.int 1)),
  .asg 3 (.c (.int 1)),
  .asg 4 (.c (.int 0)),
  .asg 5 (.c (.int 0)),
  .asg 6 (.c (.int 0)),
  .forr 7 (.v 0) b_chosen_form_1,
  .asg 9 (.bin .add (.v 3) (.ite (.cmp .gt (.v 4) (.c (.int 0))) (.bin .add (.v 4) (.c (.int 1))) (.c (.int 0)))),
  .asg 10 (.bin .add (.bin .add (.bin .add (.v 6) (.ite (.cmp .gt (.v 2) (.c (.int 1))) (.bin .add (.v 2) (.c (.int 1))) (.c (.int 1)))) (.c (.int 4))) (.v 5)),
  .iff (.cmp .le (.v 9) (.v 10))
    [.ret (.tup [(.c (.str "fixed")), (.v 4)])]
    [],
  .ret (.tup [(.c (.str "scientific")), (.v 2)])]
noncomputable def f_chosen_form : Fun := { np := 2, dflt := [], ns := 11, body := s_chosen_form }
noncomputable def n_formed : List Str := ["x", "form", "text"]
noncomputable def s_formed : List S :=
  [.asg 2 (.call 73 [(.v 0)]),
  .iff (.cmp .isnot (.v 2) (.c .none))
    [.ret (.v 2)]
    [],
  .iff (.cmp .eq (.idx (.v 1) (.c (.int 0))) (.c (.str "fixed")))
    [.ret (.call 108 [(.v 0), (.idx (.v 1) (.c (.int 1)))])]
    [],
  .ret (.call 101 [(.v 0), (.idx (.v 1) (.c (.int 1)))])]
noncomputable def f_formed : Fun := { np := 2, dflt := [], ns := 3, body := s_formed }
noncomputable def n_common_texts : List Str := ["xs", "digits", "fractions", "form", "x"]
noncomputable def e_common_texts_1 : T :=
  (.v 4)
noncomputable def c_common_texts_2 : T :=
  (.and (.cmp .isnot (.v 4) (.c .none)) (.cmp .gt (.idx (.v 4) (.c (.int 1))) (.c (.int 0))))
noncomputable def e_common_texts_3 : T :=
  (.call 129 [(.v 4), (.v 3)])
noncomputable def s_common_texts : List S :=
  [.asg 2 (.lcf e_common_texts_1 4 (.v 0) c_common_texts_2),
  .asg 3 (.call 122 [(.v 2), (.v 1)]),
  .ret (.lc e_common_texts_3 4 (.v 0))]
noncomputable def f_common_texts : Fun := { np := 2, dflt := [], ns := 5, body := s_common_texts }
noncomputable def n_is_atomic : List Str := ["v"]
noncomputable def s_is_atomic : List S :=
  [.ret (.cmp .isin (.attr (.v 0) 0) (.tup [(.c (.str "logical")), (.c (.str "integer")), (.c (.str "double")), (.c (.str "character"))]))]
noncomputable def f_is_atomic : Fun := { np := 1, dflt := [], ns := 1, body := s_is_atomic }
noncomputable def n_escaped_char : List Str := ["char", "quote", "code"]
noncomputable def s_escaped_char : List S :=
  [.asg 2 (.bi .ord [(.v 0)]),
  .iff (.cmp .eq (.v 0) (.c (.str "\\")))
    [.ret (.c (.str "\\\\"))]
    [],
  .iff (.and (.cmp .eq (.v 0) (.c (.str "\""))) (.v 1))
    [.ret (.c (.str "\\\""))]
    [],
  .iff (.and (.cmp .le (.c (.int 7)) (.v 2)) (.cmp .le (.v 2) (.c (.int 13))))
    [.ret (.bin .add (.c (.str "\\")) (.idx (.c (.str "abtnvfr")) (.bin .sub (.v 2) (.c (.int 7)))))]
    [],
  .iff (.or (.cmp .lt (.v 2) (.c (.int 32))) (.cmp .eq (.v 2) (.c (.int 127))))
    [.ret (.fs [(.c (.str "\\")), (.bi .str [(.bin .fdiv (.v 2) (.c (.int 64)))]), (.bi .str [(.bin .md (.bin .fdiv (.v 2) (.c (.int 8))) (.c (.int 8)))]), (.bi .str [(.bin .md (.v 2) (.c (.int 8)))])])]
    [],
  .ret (.v 0)]
noncomputable def f_escaped_char : Fun := { np := 2, dflt := [], ns := 3, body := s_escaped_char }
noncomputable def n_encode_text : List Str := ["s", "quote", "body", "char"]
noncomputable def e_encode_text_1 : T :=
  (.call 213 [(.v 3), (.v 1)])
noncomputable def s_encode_text : List S :=
  [.iff (.cmp .is (.v 0) (.c .none))
    [.ret (.ite (.v 1) (.c (.str "NA")) (.c (.str "<NA>")))]
    [],
  .asg 2 (.meth .join (.c (.str "")) [(.lc e_encode_text_1 3 (.v 0))]),
  .iff (.v 1)
    [.ret (.bin .add (.bin .add (.c (.str "\"")) (.v 2)) (.c (.str "\"")))]
    [],
  .ret (.v 2)]
noncomputable def f_encode_text : Fun := { np := 2, dflt := [], ns := 4, body := s_encode_text }
noncomputable def n_logical_text : List Str := ["item"]
noncomputable def s_logical_text : List S :=
  [.iff (.cmp .is (.v 0) (.c .none))
    [.ret (.c (.str "NA"))]
    [],
  .ret (.ite (.cmp .eq (.v 0) (.c (.int 1))) (.c (.str "TRUE")) (.c (.str "FALSE")))]
noncomputable def f_logical_text : Fun := { np := 1, dflt := [], ns := 1, body := s_logical_text }
noncomputable def n_integer_text : List Str := ["item"]
noncomputable def s_integer_text : List S :=
  [.iff (.cmp .is (.v 0) (.c .none))
    [.ret (.c (.str "NA"))]
    [],
  .ret (.call 66 [(.v 0)])]
noncomputable def f_integer_text : Fun := { np := 1, dflt := [], ns := 1, body := s_integer_text }
noncomputable def n_format_item : List Str := ["kind", "item", "digits", "quote"]
noncomputable def s_format_item : List S :=
  [.iff (.cmp .eq (.v 0) (.c (.str "logical")))
    [.ret (.call 225 [(.v 1)])]
    [],
  .iff (.cmp .eq (.v 0) (.c (.str "integer")))
    [.ret (.call 232 [(.v 1)])]
    [],
  .iff (.cmp .eq (.v 0) (.c (.str "double")))
    [.ret (.call 142 [(.v 1), (.v 2)])]
    [],
  .ret (.call 218 [(.v 1), (.v 3)])]
noncomputable def f_format_item : Fun := { np := 4, dflt := [], ns := 4, body := s_format_item }
noncomputable def n_item_texts : List Str := ["v", "digits", "quote", "item"]
noncomputable def e_item_texts_1 : T :=
  (.call 240 [(.attr (.v 0) 0), (.v 3), (.v 1), (.v 2)])
noncomputable def s_item_texts : List S :=
  [.iff (.cmp .eq (.attr (.v 0) 0) (.c (.str "double")))
    [.ret (.call 134 [(.attr (.v 0) 1), (.v 1)])]
    [],
  .ret (.lc e_item_texts_1 3 (.attr (.v 0) 1))]
noncomputable def f_item_texts : Fun := { np := 3, dflt := [], ns := 4, body := s_item_texts }
noncomputable def n_widest : List Str := ["texts", "found", "one"]
noncomputable def b_widest_1 : List S :=
  [.asg 1 (.bi .max2 [(.v 1), (.bi .len [(.v 2)])])]
noncomputable def s_widest : List S :=
  [.asg 1 (.c (.int 0)),
  .forr 2 (.v 0) b_widest_1,
  .ret (.v 1)]
noncomputable def f_widest : Fun := { np := 1, dflt := [], ns := 3, body := s_widest }
noncomputable def n_shown_names : List Str := ["names", "name"]
noncomputable def e_shown_names_1 : T :=
  (.call 218 [(.v 1), (.c (.bool false))])
noncomputable def s_shown_names : List S :=
  [.iff (.cmp .is (.v 0) (.c .none))
    [.ret (.c .none)]
    [],
  .ret (.lc e_shown_names_1 1 (.v 0))]
noncomputable def f_shown_names : Fun := { np := 1, dflt := [], ns := 2, body := s_shown_names }
noncomputable def n_row_offset : List Str := ["layout", "width"]
noncomputable def s_row_offset : List S :=
  [.iff (.cmp .is (.attr (.v 0) 9) (.c .none))
    [.ret (.c (.int 0))]
    [],
  .asg 1 (.call 319 [(.v 0)]),
  .ret (.bi .max2 [(.bin .sub (.bi .len [(.attr (.v 0) 9)]) (.v 1)), (.gv "LEAST_OFFSET" (.int 2))])]
noncomputable def f_row_offset : Fun := { np := 1, dflt := [], ns := 2, body := s_row_offset }
noncomputable def n_label_room : List Str := ["layout"]
noncomputable def s_label_room : List S :=
  [.iff (.cmp .isnot (.attr (.v 0) 7) (.c .none))
    [.ret (.call 253 [(.attr (.v 0) 7)])]
    [],
  .ret (.bin .add (.bi .len [(.bi .str [(.bin .add (.attr (.v 0) 5) (.c (.int 1)))])]) (.c (.int 3)))]
noncomputable def f_label_room : Fun := { np := 1, dflt := [], ns := 1, body := s_label_room }
noncomputable def n_row_label : List Str := ["layout", "place", "room", "offset"]
noncomputable def s_row_label : List S :=
  [.asg 2 (.call 319 [(.v 0)]),
  .asg 3 (.call 312 [(.v 0)]),
  .iff (.cmp .isnot (.attr (.v 0) 7) (.c .none))
    [.ret (.bin .add (.bin .mul (.c (.str " ")) (.v 3)) (.meth .ljust (.idx (.attr (.v 0) 7) (.v 1)) [(.v 2)]))]
    [],
  .ret (.bin .add (.bin .mul (.c (.str " ")) (.v 3)) (.meth .rjust (.fs [(.c (.str "[")), (.bi .str [(.bin .add (.v 1) (.c (.int 1)))]), (.c (.str ",]"))]) [(.v 2)]))]
noncomputable def f_row_label : Fun := { np := 2, dflt := [], ns := 4, body := s_row_label }
noncomputable def n_column_head : List Str := ["layout", "place"]
noncomputable def s_column_head : List S :=
  [.iff (.cmp .isnot (.attr (.v 0) 8) (.c .none))
    [.ret (.idx (.attr (.v 0) 8) (.v 1))]
    [],
  .ret (.fs [(.c (.str "[,")), (.bi .str [(.bin .add (.v 1) (.c (.int 1)))]), (.c (.str "]"))])]
noncomputable def f_column_head : Fun := { np := 2, dflt := [], ns := 2, body := s_column_head }
noncomputable def n_padded : List Str := ["text", "width", "to_left"]
noncomputable def s_padded : List S :=
  [.iff (.v 2)
    [.ret (.bin .add (.bin .mul (.c (.str " ")) (.gv "GAP" (.int 1))) (.meth .ljust (.v 0) [(.v 1)]))]
    [],
  .ret (.bin .add (.bin .mul (.c (.str " ")) (.gv "GAP" (.int 1))) (.meth .rjust (.v 0) [(.v 1)]))]
noncomputable def f_padded : Fun := { np := 3, dflt := [], ns := 3, body := s_padded }
noncomputable def n_block_rows : List Str := ["layout", "widths", "begin", "end", "labels", "rows", "title", "pieces", "place", "row"]
noncomputable def b_block_rows_1 : List S :=
  [.app (.v 7) (.call 340 [(.call 333 [(.v 0), (.v 8)]), (.idx (.v 1) (.v 8)), (.attr (.v 0) 11)])]
noncomputable def b_block_rows_2 : List S :=
  [.app (.v 7) (.call 340 [(.idx (.idx (.attr (.v 0) 6) (.v 8)) (.v 9)), (.idx (.v 1) (.v 8)), (.attr (.v 0) 11)])]
noncomputable def b_block_rows_3 : List S :=
  [.asgL 7 [(.call 326 [(.v 0), (.v 9)])],
  .forr 8 (.bi .range2 [(.v 2), (.v 3)]) b_block_rows_2,
  .app (.v 5) (.meth .join (.c (.str "")) [(.v 7)])]
noncomputable def s_block_rows : List S :=
  [.asg 4 (.bin .add (.call 319 [(.v 0)]) (.call 312 [(.v 0)])),
  .asgL 5 [],
  .iff (.cmp .isnot (.attr (.v 0) 10) (.c .none))
    [.app (.v 5) (.bin .add (.bin .mul (.c (.str " ")) (.v 4)) (.attr (.v 0) 10))]
    [],
  .asg 6 (.c (.str "")),
  .iff (.cmp .isnot (.attr (.v 0) 9) (.c .none))
    [.asg 6 (.attr (.v 0) 9)]
    [],
  .asgL 7 [(.meth .ljust (.v 6) [(.v 4)])],
  .forr 8 (.bi .range2 [(.v 2), (.v 3)]) b_block_rows_1,
  .app (.v 5) (.meth .join (.c (.str "")) [(.v 7)]),
  .forr 9 (.bi .range1 [(.attr (.v 0) 5)]) b_block_rows_3,
  .ret (.v 5)]
noncomputable def f_block_rows : Fun := { np := 4, dflt := [], ns := 10, body := s_block_rows }
noncomputable def n_layout_rows : List Str := ["layout", "width", "count", "labels", "widths", "place", "rows", "begin", "total", "end"]
noncomputable def b_layout_rows_1 : List S :=
  [.app (.v 4) (.bi .max2 [(.call 253 [(.idx (.attr (.v 0) 6) (.v 5))]), (.bi .len [(.call 333 [(.v 0), (.v 5)])])])]
noncomputable def c_layout_rows_2 : T :=
  (.cmp .lt (.v 7) (.v 2))
noncomputable def c_layout_rows_3 : T :=
  (.and (.cmp .lt (.v 9) (.v 2)) (.cmp .lt (.bin .add (.bin .add (.v 8) (.gv "GAP" (.int 1))) (.idx (.v 4) (.v 9))) (.v 1)))
noncomputable def b_layout_rows_4 : List S :=
  [.asg 8 (.bin .add (.bin .add (.v 8) (.gv "GAP" (.int 1))) (.idx (.v 4) (.v 9))),
  .asg 9 (.bin .add (.v 9) (.c (.int 1)))]
noncomputable def b_layout_rows_5 : List S :=
  [.asg 8 (.bin .add (.bin .add (.v 3) (.gv "GAP" (.int 1))) (.idx (.v 4) (.v 7))),
  .asg 9 (.bin .add (.v 7) (.c (.int 1))),
  .whl c_layout_rows_3 b_layout_rows_4,
  .ext (.v 6) (.call 347 [(.v 0), (.v 4), (.v 7), (.v 9)]),
  .asg 7 (.v 9)]
noncomputable def s_layout_rows : List S :=
  [.asg 2 (.bi .len [(.attr (.v 0) 6)]),
  .asg 3 (.bin .add (.call 319 [(.v 0)]) (.call 312 [(.v 0)])),
  .asgL 4 [],
  .forr 5 (.bi .range1 [(.v 2)]) b_layout_rows_1,
  .iff (.cmp .eq (.v 2) (.c (.int 0)))
    [.ret (.call 347 [(.v 0), (.v 4), (.c (.int 0)), (.c (.int 0))])]
    [],
  .asgL 6 [],
  .asg 7 (.c (.int 0)),
  .whl c_layout_rows_2 b_layout_rows_5,
  .ret (.v 6)]
noncomputable def f_layout_rows : Fun := { np := 2, dflt := [], ns := 10, body := s_layout_rows }
noncomputable def n_cell_texts : List Str := ["kind", "items", "quote", "digits", "column"]
noncomputable def s_cell_texts : List S :=
  [.asg 4 (.new 1 [(.v 0), (.v 1)]),
  .iff (.call 206 [(.v 4)])
    [.ret (.call 246 [(.v 4), (.v 3), (.v 2)])]
    [],
  .ret (.call 279 [(.v 4)])]
noncomputable def f_cell_texts : Fun := { np := 4, dflt := [], ns := 5, body := s_cell_texts }
noncomputable def n_titles_of : List Str := ["m", "found"]
noncomputable def s_titles_of : List S :=
  [.asg 1 (.call 28 [(.v 0), (.c (.str "dimnames"))]),
  .iff (.cmp .is (.v 1) (.c .none))
    [.ret (.c .none)]
    [],
  .ret (.call 33 [(.v 1)])]
noncomputable def f_titles_of : Fun := { np := 1, dflt := [], ns := 2, body := s_titles_of }
noncomputable def n_matrix_layout : List Str := ["kind", "items", "rows", "quote", "digits", "columns", "begin", "layout"]
noncomputable def b_matrix_layout_1 : List S :=
  [.app (.v 5) (.call 361 [(.v 0), (.sl (.v 1) (.v 6) (.bin .add (.v 6) (.v 2))), (.v 3), (.v 4)])]
noncomputable def s_matrix_layout : List S :=
  [.asgL 5 [],
  .forr 6 (.bi .range3 [(.c (.int 0)), (.bi .len [(.v 1)]), (.v 2)]) b_matrix_layout_1,
  .frzv 5,
  .asgN 7 2 [(.v 2), (.v 5)],
  .sattr (.v 7) 11 (.cmp .notin (.v 0) (.tup [(.c (.str "logical")), (.c (.str "integer")), (.c (.str "double"))])),
  .ret (.v 7)]
noncomputable def f_matrix_layout : Fun := { np := 5, dflt := [], ns := 8, body := s_matrix_layout }
noncomputable def n_name_layout : List Str := ["layout", "names", "titles"]
noncomputable def s_name_layout : List S :=
  [.iff (.cmp .isnot (.v 1) (.c .none))
    [.sattr (.v 0) 7 (.call 305 [(.idx (.v 1) (.c (.int 0)))]),
    .sattr (.v 0) 8 (.call 305 [(.idx (.v 1) (.c (.int 1)))])]
    [],
  .iff (.cmp .isnot (.v 2) (.c .none))
    [.sattr (.v 0) 9 (.ite (.cmp .is (.idx (.v 2) (.c (.int 0))) (.c .none)) (.c (.str "")) (.idx (.v 2) (.c (.int 0)))),
    .sattr (.v 0) 10 (.ite (.cmp .is (.idx (.v 2) (.c (.int 1))) (.c .none)) (.c (.str "")) (.idx (.v 2) (.c (.int 1))))]
    [],
  .ret (.v 0)]
noncomputable def f_name_layout : Fun := { np := 3, dflt := [], ns := 3, body := s_name_layout }
noncomputable def n_print_matrix : List Str := ["m", "quote", "right", "width", "digits", "rows", "columns", "layout", "column"]
noncomputable def e_print_matrix_1 : T :=
  (.list [])
noncomputable def s_print_matrix : List S :=
  [.asgT [5, 6] (.call 40 [(.v 0)]),
  .iff (.and (.cmp .eq (.v 5) (.c (.int 0))) (.cmp .eq (.v 6) (.c (.int 0))))
    [.ret (.list [(.c (.str "<0 x 0 matrix>"))])]
    [],
  .iff (.cmp .eq (.v 5) (.c (.int 0)))
    [.asgN 7 2 [(.c (.int 0)), (.lc e_print_matrix_1 8 (.bi .range1 [(.v 6)]))],
    .sattr (.v 7) 11 (.cmp .notin (.attr (.v 0) 0) (.tup [(.c (.str "logical")), (.c (.str "integer")), (.c (.str "double"))]))]
    [.iff (.cmp .eq (.v 6) (.c (.int 0)))
      [.asgN 7 2 [(.v 5), (.list [])]]
      [.asg 7 (.call 375 [(.attr (.v 0) 0), (.attr (.v 0) 1), (.v 5), (.v 1), (.v 4)])]],
  .iff (.v 2)
    [.sattr (.v 7) 11 (.c (.bool false))]
    [],
  .ret (.call 354 [(.call 382 [(.v 7), (.call 45 [(.v 0)]), (.call 368 [(.v 0)])]), (.v 3)])]
noncomputable def f_print_matrix : Fun := { np := 5, dflt := [.int 7], ns := 9, body := s_print_matrix }
noncomputable def f_print_matrix1 : Fun := { f_print_matrix with dflt := [.bool true, .bool false, .int 80, .int 7] }
noncomputable def n_slice_label : List Str := ["dims", "names", "titles", "number", "pieces", "rest", "axis", "place", "label"]
noncomputable def b_slice_label_1 : List S :=
  [.asg 7 (.bin .md (.v 5) (.idx (.v 0) (.v 6))),
  .asg 5 (.bin .fdiv (.v 5) (.idx (.v 0) (.v 6))),
  .asg 8 (.bi .str [(.bin .add (.v 7) (.c (.int 1)))]),
  .iff (.and (.cmp .isnot (.v 1) (.c .none)) (.cmp .isnot (.idx (.v 1) (.v 6)) (.c .none)))
    [.asg 8 (.call 218 [(.idx (.idx (.v 1) (.v 6)) (.v 7)), (.c (.bool false))]),
    .iff (.and (.cmp .isnot (.v 2) (.c .none)) .bot)
      [.asg 8 (.bin .add (.bin .add (.idx (.v 2) (.v 6)) (.c (.str " = "))) (.v 8))]
      []]
    [],
  .app (.v 4) (.v 8)]
noncomputable def s_slice_label : List S :=
  [.asgL 4 [(.c (.str ", "))],
  .asg 5 (.v 3),
  .forr 6 (.bi .range2 [(.c (.int 2)), (.bi .len [(.v 0)])]) b_slice_label_1,
  .ret (.meth .join (.c (.str ", ")) [(.v 4)])]
noncomputable def f_slice_label : Fun := { np := 4, dflt := [], ns := 9, body := s_slice_label }
noncomputable def n_print_array : List Str := ["v", "quote", "right", "width", "digits", "dims", "size", "extents", "names", "titles", "rows", "number", "layout", "extent"]
noncomputable def e_print_array_1 : T :=
  (.bi .str [(.v 13)])
noncomputable def b_print_array_2 : List S :=
  [.app (.v 10) (.call 395 [(.v 5), (.v 8), (.v 9), (.v 11)]),
  .app (.v 10) (.c (.str "")),
  .asg 12 (.call 375 [(.attr (.v 0) 0), (.sl (.attr (.v 0) 1) (.bin .mul (.v 11) (.v 6)) (.bin .add (.bin .mul (.v 11) (.v 6)) (.v 6))), (.idx (.v 5) (.c (.int 0))), (.v 1), (.v 4)]),
  .iff (.v 2)
    [.sattr (.v 12) 11 (.c (.bool false))]
    [],
  .ext (.v 10) (.call 354 [(.call 382 [(.v 12), (.v 8), (.v 9)]), (.v 3)]),
  .app (.v 10) (.c (.str ""))]
noncomputable def s_print_array : List S :=
  [.asg 5 (.call 40 [(.v 0)]),
  .asg 6 (.bin .mul (.idx (.v 5) (.c (.int 0))) (.idx (.v 5) (.c (.int 1)))),
  .iff (.cmp .eq (.bi .len [(.attr (.v 0) 1)]) (.c (.int 0)))
    [.asg 7 (.meth .join (.c (.str " x ")) [(.lc e_print_array_1 13 (.v 5))]),
    .ret (.list [(.fs [(.c (.str "<")), (.bi .str [(.v 7)]), (.c (.str " array of ")), (.bi .str [(.attr (.v 0) 0)]), (.c (.str ">"))])])]
    [],
  .asg 8 (.call 45 [(.v 0)]),
  .asg 9 (.call 368 [(.v 0)]),
  .asgL 10 [],
  .forr 11 (.bi .range1 [(.bin .fdiv (.bi .len [(.attr (.v 0) 1)]) (.v 6))]) b_print_array_2,
  .ret (.v 10)]
noncomputable def f_print_array : Fun := { np := 5, dflt := [.int 7], ns := 14, body := s_print_array }
noncomputable def n_law_pick : List Str := ["hand", "limit", "figure", "digit"]
noncomputable def s_law_pick : List S :=
  [.iff (.cmp .eq (.idx (.v 0) (.c (.int 2))) (.c (.int 0)))
    [.iff (.cmp .eq (.idx (.v 0) (.c (.int 1))) (.bi .len [(.idx (.v 0) (.c (.int 0)))]))
      [.sidx (.v 0) (.c (.int 3)) (.bin .md (.bin .mul (.idx (.v 0) (.c (.int 3))) (.c (.int 48271))) (.c (.int 2147483647))),
      .ret (.bin .md (.bin .fdiv (.idx (.v 0) (.c (.int 3))) (.c (.int 7))) (.v 1))]
      [],
    .asg 2 (.idx (.idx (.v 0) (.c (.int 0))) (.idx (.v 0) (.c (.int 1)))),
    .sidx (.v 0) (.c (.int 1)) (.bin .add (.idx (.v 0) (.c (.int 1))) (.c (.int 1))),
    .sidx (.v 0) (.c (.int 2)) (.ite (.cmp .ge (.v 2) (.c (.int 0))) (.v 2) (.neg (.v 2)))]
    [],
  .asg 3 (.bin .md (.idx (.v 0) (.c (.int 2))) (.v 1)),
  .sidx (.v 0) (.c (.int 2)) (.bin .fdiv (.idx (.v 0) (.c (.int 2))) (.v 1)),
  .ret (.v 3)]
noncomputable def f_law_pick : Fun := { np := 2, dflt := [], ns := 4, body := s_law_pick }
noncomputable def n_law_words : List Str := []
noncomputable def s_law_words : List S :=
  [.ret (.list [(.c (.str "a")), (.c (.str "bb")), (.c (.str "")), (.c (.str "c\"d")), (.c (.str "e\\f")), (.c (.str "g\nh")), (.c (.str "long word here")), (.c (.str "é"))])]
noncomputable def f_law_words : Fun := { np := 0, dflt := [], ns := 0, body := s_law_words }
noncomputable def n_law_shown : List Str := ["item", "quote", "found", "char"]
noncomputable def b_law_shown_1 : List S :=
  [.iff (.cmp .eq (.v 3) (.c (.str "\\")))
    [.aug 2 .add (.c (.str "\\\\"))]
    [.iff (.cmp .eq (.v 3) (.c (.str "\n")))
      [.aug 2 .add (.c (.str "\\n"))]
      [.iff (.and (.cmp .eq (.v 3) (.c (.str "\""))) (.v 1))
        [.aug 2 .add (.c (.str "\\\""))]
        [.aug 2 .add (.v 3)]]]]
noncomputable def s_law_shown : List S :=
  [.iff (.cmp .is (.v 0) (.c .none))
    [.ret (.ite (.v 1) (.c (.str "NA")) (.c (.str "<NA>")))]
    [],
  .asg 2 (.c (.str "")),
  .forr 3 (.v 0) b_law_shown_1,
  .ret (.ite (.v 1) (.bin .add (.bin .add (.c (.str "\"")) (.v 2)) (.c (.str "\""))) (.v 2))]
noncomputable def f_law_shown : Fun := { np := 2, dflt := [], ns := 4, body := s_law_shown }
noncomputable def n_law_decimals : List Str := ["item"]
noncomputable def s_law_decimals : List S :=
  [.ret (.tbl [(.int 1), (.int 2), (.int 4)] [(.int 0), (.int 1), (.int 2)] (.idx (.v 0) (.c (.int 1))))]
noncomputable def f_law_decimals : Fun := { np := 1, dflt := [], ns := 1, body := s_law_decimals }
noncomputable def n_law_figure : List Str := ["item", "decimals", "n", "hundred", "text_of"]
noncomputable def s_law_figure : List S :=
  [.asg 2 (.ite (.cmp .ge (.idx (.v 0) (.c (.int 0))) (.c (.int 0))) (.idx (.v 0) (.c (.int 0))) (.bin .sub (.c (.int 0)) (.idx (.v 0) (.c (.int 0))))),
  .asg 3 (.bin .fdiv (.bin .mul (.v 2) (.c (.int 100))) (.idx (.v 0) (.c (.int 1)))),
  .asg 4 (.bi .str [(.bin .fdiv (.v 3) (.c (.int 100)))]),
  .iff (.cmp .gt (.v 1) (.c (.int 0)))
    [.aug 4 .add (.bin .add (.c (.str ".")) (.sl (.bin .add (.bi .str [(.bin .md (.bin .fdiv (.v 3) (.c (.int 10))) (.c (.int 10)))]) (.bi .str [(.bin .md (.v 3) (.c (.int 10)))])) (.c .none) (.v 1)))]
    [],
  .ret (.bin .add (.ite (.cmp .lt (.idx (.v 0) (.c (.int 0))) (.c (.int 0))) (.c (.str "-")) (.c (.str ""))) (.v 4))]
noncomputable def f_law_figure : Fun := { np := 2, dflt := [], ns := 5, body := s_law_figure }
noncomputable def n_law_texts : List Str := ["kind", "items", "quote", "decimals", "item"]
noncomputable def e_law_texts_1 : T :=
  (.call 422 [(.v 4), (.v 2)])
noncomputable def e_law_texts_2 : T :=
  (.call 429 [(.v 4)])
noncomputable def c_law_texts_3 : T :=
  (.cmp .isnot (.v 4) (.c .none))
noncomputable def e_law_texts_4 : T :=
  (.ite (.cmp .is (.v 4) (.c .none)) (.c (.str "NA")) (.call 436 [(.v 4), (.v 3)]))
noncomputable def e_law_texts_5 : T :=
  (.tbl [(.int 1), (.int 0), .none] [(.str "TRUE"), (.str "FALSE"), (.str "NA")] (.v 4))
noncomputable def e_law_texts_6 : T :=
  (.ite (.cmp .is (.v 4) (.c .none)) (.c (.str "NA")) (.bi .str [(.v 4)]))
noncomputable def s_law_texts : List S :=
  [.iff (.cmp .eq (.v 0) (.c (.str "character")))
    [.ret (.lc e_law_texts_1 4 (.v 1))]
    [],
  .iff (.cmp .eq (.v 0) (.c (.str "double")))
    [.asg 3 (.bi .max1 [(.bin .add (.list [(.c (.int 0))]) (.lcf e_law_texts_2 4 (.v 1) c_law_texts_3))]),
    .ret (.lc e_law_texts_4 4 (.v 1))]
    [],
  .iff (.cmp .eq (.v 0) (.c (.str "logical")))
    [.ret (.lc e_law_texts_5 4 (.v 1))]
    [],
  .ret (.lc e_law_texts_6 4 (.v 1))]
noncomputable def f_law_texts : Fun := { np := 3, dflt := [], ns := 5, body := s_law_texts }
noncomputable def n_law_items : List Str := ["hand", "kind", "many", "found", "_", "one"]
noncomputable def b_law_items_1 : List S :=
  [.asg 5 (.call 408 [(.v 0), (.c (.int 12))]),
  .iff (.cmp .eq (.v 5) (.c (.int 11)))
    [.app (.v 3) (.c .none)]
    [.iff (.cmp .eq (.v 1) (.c (.str "character")))
      [.app (.v 3) (.idx (.call 415 []) (.bin .md (.v 5) (.c (.int 8))))]
      [.iff (.cmp .eq (.v 1) (.c (.str "double")))
        [.app (.v 3) (.idx (.list [(.tup [(.c (.int 0)), (.c (.int 1))]), (.tup [(.c (.int 1)), (.c (.int 2))]), (.tup [(.neg (.c (.int 3))), (.c (.int 4))]), (.tup [(.c (.int 12)), (.c (.int 1))]), (.tup [(.c (.int 1)), (.c (.int 4))]), (.tup [(.neg (.c (.int 7))), (.c (.int 1))]), (.tup [(.c (.int 5)), (.c (.int 2))]), (.tup [(.c (.int 101)), (.c (.int 1))]), (.tup [(.c (.int 250)), (.c (.int 1))]), (.tup [(.neg (.c (.int 99))), (.c (.int 2))]), (.tup [(.c (.int 3)), (.c (.int 4))])]) (.v 5))]
        [.iff (.cmp .eq (.v 1) (.c (.str "logical")))
          [.app (.v 3) (.bin .md (.v 5) (.c (.int 2)))]
          [.app (.v 3) (.idx (.list [(.c (.int 0)), (.c (.int 1)), (.neg (.c (.int 2))), (.c (.int 35)), (.c (.int 1000000)), (.neg (.c (.int 47))), (.c (.int 8)), (.c (.int 9)), (.c (.int 10)), (.c (.int 123)), (.c (.int 2147483647))]) (.v 5))]]]]]
noncomputable def s_law_items : List S :=
  [.asgL 3 [],
  .forr 4 (.bi .range1 [(.v 2)]) b_law_items_1,
  .ret (.v 3)]
noncomputable def f_law_items : Fun := { np := 3, dflt := [], ns := 6, body := s_law_items }
noncomputable def n_law_wide : List Str := ["texts", "one"]
noncomputable def e_law_wide_1 : T :=
  (.bi .len [(.v 1)])
noncomputable def s_law_wide : List S :=
  [.ret (.bi .max1 [(.bin .add (.list [(.c (.int 0))]) (.lc e_law_wide_1 1 (.v 0)))])]
noncomputable def f_law_wide : Fun := { np := 1, dflt := [], ns := 2, body := s_law_wide }
noncomputable def n_law_block : List Str := ["heads", "marks", "columns", "wide", "left", "side", "widths", "rows", "first", "last", "line", "row", "at", "one", "blank", "at", "one"]
noncomputable def e_law_block_1 : T :=
  (.bi .max2 [(.call 453 [(.idx (.v 2) (.v 15))]), (.bi .len [(.idx (.v 0) (.v 15))])])
noncomputable def c_law_block_2 : T :=
  (.cmp .lt (.v 8) (.bi .len [(.v 2)]))
noncomputable def e_law_block_3 : T :=
  (.bin .add (.c (.int 1)) (.v 16))
noncomputable def c_law_block_4 : T :=
  (.and (.cmp .lt (.v 9) (.bi .len [(.v 2)])) (.cmp .lt (.bin .add (.v 5) (.bi .sum1 [(.lc e_law_block_3 16 (.sl (.v 6) (.v 8) (.bin .add (.v 9) (.c (.int 1)))))])) (.v 3)))
noncomputable def b_law_block_5 : List S :=
  [.aug 9 .add (.c (.int 1))]
noncomputable def b_law_block_6 : List S :=
  [.asg 13 (.ite (.cmp .lt (.v 10) (.c (.int 0))) (.idx (.v 0) (.v 12)) (.idx (.idx (.v 2) (.v 12)) (.v 10))),
  .asg 14 (.bin .mul (.c (.str " ")) (.bin .sub (.idx (.v 6) (.v 12)) (.bi .len [(.v 13)]))),
  .aug 11 .add (.bin .add (.c (.str " ")) (.ite (.v 4) (.bin .add (.v 13) (.v 14)) (.bin .add (.v 14) (.v 13))))]
noncomputable def b_law_block_7 : List S :=
  [.asg 11 (.ite (.cmp .ge (.v 10) (.c (.int 0))) (.bin .add (.idx (.v 1) (.v 10)) (.bin .mul (.c (.str " ")) (.bin .sub (.v 5) (.bi .len [(.idx (.v 1) (.v 10))])))) (.bin .mul (.c (.str " ")) (.v 5))),
  .forr 12 (.bi .range2 [(.v 8), (.v 9)]) b_law_block_6,
  .app (.v 7) (.v 11)]
noncomputable def b_law_block_8 : List S :=
  [.asg 9 (.bin .add (.v 8) (.c (.int 1))),
  .whl c_law_block_4 b_law_block_5,
  .forr 10 (.bi .range2 [(.neg (.c (.int 1))), (.bi .len [(.v 1)])]) b_law_block_7,
  .asg 8 (.v 9)]
noncomputable def s_law_block : List S :=
  [.asg 5 (.call 453 [(.v 1)]),
  .asg 6 (.lc e_law_block_1 15 (.bi .range1 [(.bi .len [(.v 2)])])),
  .asgL 7 [],
  .asg 8 (.c (.int 0)),
  .whl c_law_block_2 b_law_block_8,
  .ret (.v 7)]
noncomputable def f_law_block : Fun := { np := 5, dflt := [], ns := 17, body := s_law_block }
noncomputable def n_law_laid : List Str := ["kind", "items", "tall", "names", "wide", "quote", "right", "columns", "marks", "heads", "at", "one"]
noncomputable def e_law_laid_1 : T :=
  (.call 441 [(.v 0), (.sl (.v 1) (.v 10) (.bin .add (.v 10) (.v 2))), (.v 5)])
noncomputable def e_law_laid_2 : T :=
  (.bin .add (.bin .add (.c (.str "[")) (.bi .str [(.bin .add (.v 10) (.c (.int 1)))])) (.c (.str ",]")))
noncomputable def e_law_laid_3 : T :=
  (.call 422 [(.v 11), (.c (.bool false))])
noncomputable def e_law_laid_4 : T :=
  (.bin .add (.bin .mul (.c (.str " ")) (.bin .sub (.bin .add (.bi .len [(.bi .str [(.bin .add (.v 2) (.c (.int 1)))])]) (.c (.int 3))) (.bi .len [(.v 11)]))) (.v 11))
noncomputable def e_law_laid_5 : T :=
  (.bin .add (.bin .add (.c (.str "[,")) (.bi .str [(.bin .add (.v 10) (.c (.int 1)))])) (.c (.str "]")))
noncomputable def e_law_laid_6 : T :=
  (.call 422 [(.v 11), (.c (.bool false))])
noncomputable def s_law_laid : List S :=
  [.asg 7 (.lc e_law_laid_1 10 (.bi .range3 [(.c (.int 0)), (.bi .len [(.v 1)]), (.v 2)])),
  .asg 8 (.lc e_law_laid_2 10 (.bi .range1 [(.v 2)])),
  .iff (.cmp .isnot (.idx (.v 3) (.c (.int 0))) (.c .none))
    [.asg 8 (.lc e_law_laid_3 11 (.idx (.v 3) (.c (.int 0))))]
    [.asg 8 (.lc e_law_laid_4 11 (.v 8))],
  .asg 9 (.lc e_law_laid_5 10 (.bi .range1 [(.bi .len [(.v 7)])])),
  .iff (.cmp .isnot (.idx (.v 3) (.c (.int 1))) (.c .none))
    [.asg 9 (.lc e_law_laid_6 11 (.idx (.v 3) (.c (.int 1))))]
    [],
  .ret (.call 458 [(.v 9), (.v 8), (.v 7), (.v 4), (.and (.cmp .eq (.v 0) (.c (.str "character"))) (.not (.v 6)))])]
noncomputable def f_law_laid : Fun := { np := 7, dflt := [], ns := 12, body := s_law_laid }
noncomputable def n_law : List Str := ["script", "cells", "hand", "kind", "tall", "columns", "m", "names", "along", "labels_of", "wide", "quote", "right", "items", "block", "third", "due", "at", "piece", "empty", "_", "one"]
noncomputable def e_law_1 : T :=
  (.idx (.list [(.c (.str "a")), (.c (.str "bcdef")), (.c (.str "")), (.c .none), (.c (.str "g\\"))]) (.call 408 [(.v 2), (.c (.int 5))]))
noncomputable def b_law_2 : List S :=
  [.iff (.cmp .eq (.call 408 [(.v 2), (.c (.int 3))]) (.c (.int 2)))
    [.sidx (.v 7) (.v 8) (.lc e_law_1 20 (.bi .range1 [(.idx (.list [(.v 4), (.v 5)]) (.v 8))]))]
    []]
noncomputable def e_law_3 : T :=
  (.ite (.cmp .is (.v 21) (.c .none)) (.new 0 []) (.new 1 [(.c (.str "character")), (.bi .list1 [(.v 21)])]))
noncomputable def b_law_4 : List S :=
  [.asg 18 (.sl (.v 13) (.bin .mul (.bin .mul (.v 17) (.v 4)) (.v 5)) (.bin .mul (.bin .mul (.bin .add (.v 17) (.c (.int 1))) (.v 4)) (.v 5))),
  .augL 16 (.list [(.bin .add (.c (.str ", , ")) (.ite (.cmp .is (.v 15) (.c .none)) (.bi .str [(.bin .add (.v 17) (.c (.int 1)))]) (.idx (.v 15) (.v 17)))), (.c (.str ""))]),
  .augL 16 (.bin .add (.call 463 [(.v 3), (.v 18), (.v 4), (.ite (.cmp .is (.v 15) (.c .none)) (.list [(.c .none), (.c .none)]) (.v 7)), (.v 10), (.v 11), (.v 12)]) (.list [(.c (.str ""))]))]
noncomputable def s_law : List S :=
  [.asgL 2 [(.v 1), (.c (.int 0)), (.c (.int 0)), (.bin .mul (.bin .md (.bi .sum1 [(.v 1)]) (.c (.int 100003))) (.c (.int 7)))],
  .asg 3 (.idx (.list [(.c (.str "integer")), (.c (.str "character")), (.c (.str "double")), (.c (.str "logical"))]) (.call 408 [(.v 2), (.c (.int 4))])),
  .asg 4 (.bin .add (.c (.int 1)) (.call 408 [(.v 2), (.c (.int 4))])),
  .asg 5 (.bin .add (.c (.int 1)) (.call 408 [(.v 2), (.c (.int 6))])),
  .asgN 6 1 [(.v 3), (.call 448 [(.v 2), (.v 3), (.bin .mul (.v 4) (.v 5))])],
  .asgL 7 [(.c .none), (.c .none)],
  .forr 8 (.bi .range1 [(.c (.int 2))]) b_law_2,
  .sattrD (.v 6) 2 "dim" (.new 1 [(.c (.str "integer")), (.list [(.v 4), (.v 5)])]),
  .frzv 7,
  .asg 9 (.new 1 [(.c (.str "list")), (.lc e_law_3 21 (.v 7))]),
  .iff (.cmp .ne (.v 7) (.list [(.c .none), (.c .none)]))
    [.sidx2 (.v 6) 2 "dimnames" (.v 9)]
    [],
  .asg 10 (.bin .add (.c (.int 10)) (.call 408 [(.v 2), (.c (.int 51))])),
  .asg 11 (.cmp .lt (.call 408 [(.v 2), (.c (.int 3))]) (.c (.int 2))),
  .asg 12 (.cmp .eq (.call 408 [(.v 2), (.c (.int 4))]) (.c (.int 3))),
  .frzv 6,
  .iff (.cmp .ne (.call 388 [(.v 6), (.v 11), (.v 12), (.v 10)]) (.call 463 [(.v 3), (.attr (.v 6) 1), (.v 4), (.v 7), (.v 10), (.v 11), (.v 12)]))
    [.ret (.c (.bool false))]
    [],
  .asg 13 (.bin .add (.attr (.v 6) 1) (.call 448 [(.v 2), (.v 3), (.bin .mul (.v 4) (.v 5))])),
  .asgN 14 1 [(.v 3), (.v 13)],
  .sattrD (.v 14) 2 "dim" (.new 1 [(.c (.str "integer")), (.list [(.v 4), (.v 5), (.c (.int 2))])]),
  .asg 15 (.c .none),
  .iff (.cmp .eq (.call 408 [(.v 2), (.c (.int 2))]) (.c (.int 1)))
    [.asg 15 (.list [(.c (.str "u")), (.c (.str "vw"))]),
    .sidx2 (.v 14) 2 "dimnames" (.new 1 [(.c (.str "list")), (.bin .add (.attr (.v 9) 1) (.list [(.new 1 [(.c (.str "character")), (.v 15)])]))])]
    [],
  .asgL 16 [],
  .forr 17 (.bi .range1 [(.c (.int 2))]) b_law_4,
  .frzv 14,
  .iff (.cmp .ne (.call 401 [(.v 14), (.v 11), (.v 12), (.v 10)]) (.v 16))
    [.ret (.c (.bool false))]
    [],
  .asgN 19 1 [(.v 3), (.list [])],
  .sattrD (.v 19) 2 "dim" (.new 1 [(.c (.str "integer")), (.list [(.c (.int 0)), (.c (.int 0))])]),
  .frzv 19,
  .ret (.cmp .eq (.call 900 [(.v 19)]) (.list [(.c (.str "<0 x 0 matrix>"))]))]
noncomputable def f_law : Fun := { np := 1, dflt := [], ns := 22, body := s_law }
noncomputable def n_iNull : List Str := ["self"]
noncomputable def s_iNull : List S :=
  [.sattr (.v 0) 0 (.c (.str "NULL")),
  .sattr (.v 0) 2 (.c .none)]
noncomputable def f_iNull : Fun := { np := 1, dflt := [], ns := 1, body := s_iNull }
noncomputable def n_iVector : List Str := ["self", "kind", "items", "attrs"]
noncomputable def s_iVector : List S :=
  [.sattr (.v 0) 0 (.v 1),
  .sattr (.v 0) 1 (.v 2),
  .sattr (.v 0) 2 (.v 3),
  .sattr (.v 0) 3 (.c (.bool false)),
  .sattr (.v 0) 4 (.c (.bool false))]
noncomputable def f_iVector : Fun := { np := 4, dflt := [.none], ns := 4, body := s_iVector }
noncomputable def n_iLayout : List Str := ["self", "rows", "columns"]
noncomputable def s_iLayout : List S :=
  [.sattr (.v 0) 5 (.v 1),
  .sattr (.v 0) 6 (.v 2),
  .sattr (.v 0) 7 (.c .none),
  .sattr (.v 0) 8 (.c .none),
  .sattr (.v 0) 9 (.c .none),
  .sattr (.v 0) 10 (.c .none),
  .sattr (.v 0) 11 (.c (.bool false))]
noncomputable def f_iLayout : Fun := { np := 3, dflt := [], ns := 3, body := s_iLayout }
noncomputable def tabP : List (Nat × Fun) := [(28, f_get_attr), (33, f_names_of), (40, f_dim_of), (45, f_dimnames_of), (52, f_nearest_whole), (59, f_exponent), (66, f_whole_text), (73, f_special_text), (80, f_scaled), (87, f_significant), (94, f_without_tail), (108, f_fixed_text), (115, f_measures), (122, f_chosen_form), (129, f_formed), (134, f_common_texts), (206, f_is_atomic), (213, f_escaped_char), (218, f_encode_text), (225, f_logical_text), (232, f_integer_text), (240, f_format_item), (246, f_item_texts), (253, f_widest), (305, f_shown_names), (312, f_row_offset), (319, f_label_room), (326, f_row_label), (333, f_column_head), (340, f_padded), (347, f_block_rows), (354, f_layout_rows), (361, f_cell_texts), (368, f_titles_of), (375, f_matrix_layout), (382, f_name_layout), (388, f_print_matrix), (900, f_print_matrix1), (395, f_slice_label), (401, f_print_array), (408, f_law_pick), (415, f_law_words), (422, f_law_shown), (429, f_law_decimals), (436, f_law_figure), (441, f_law_texts), (448, f_law_items), (453, f_law_wide), (458, f_law_block), (463, f_law_laid)]
noncomputable def tabC : List (Nat × Fun) := [(0, f_iNull), (1, f_iVector), (2, f_iLayout)]
noncomputable def P0 (f : Nat) : Option Fun := tabP.lookup f
noncomputable def C0 (f : Nat) : Option Fun := tabC.lookup f
end Mine

namespace Mine
open PySem PySem.W PySem.Calls PyProof.Rows

/-! a test that a text is the small language's -/
structure Ck where
  g : Nat → Str → Bool
  gv : Str → D → Bool
  an : Nat → Str

noncomputable def okName (x : Str) : Bool := !(x == ("__debug__" : Str))
noncomputable def ckVar (si : SI) (i : Nat) (x : Str) : Bool := si.nm[i]? == some x && (si.rd i && okName x)
noncomputable def glob (si : SI) (x : Str) : Bool := si.scope.names.lookup x == some .globalImplicit
noncomputable def gName (si : SI) (x : Str) : Bool := glob si x && okName x
noncomputable def ckComp (si : SI) (scope : Scope) (x : Nat) (xs : Str) : Bool :=
  si.comp.isNone && (si.nm[x]? == some xs && (scope.names.lookup xs == some .local && (scope.kind == .function && (decide (si.nf ≤ x) &&
    scope.names.all fun y => y.2 != .cell && ((y.2 != .local || scope.names.lookup y.1 == some .local) && (y.2 != .free || si.scope.names.lookup y.1 == some .cell))))))
noncomputable def unK (d : D) : Option (Option Int) := if noneAV (.val d) then some none else d.int?.map some
noncomputable def unKs : List D → Option (List (Option Int))
  | [] => some []
  | d :: r => (unK d).bind fun a => (unKs r).map (a :: ·)
noncomputable def isBot (t : T) : Bool := decide (t.ctorIdx = 0)
theorem isBot_of {t : T} (h : isBot t = true) : t = .bot := @T.bot.elim (fun t => t = .bot) t (bDec h) rfl
noncomputable def rTc (f : D → Bool) (t : T) : Bool := dB fun h : t.ctorIdx = 1 => @T.c.elim (fun _ => Bool) t h f
theorem of_rTc {f : D → Bool} {M : T → Prop} {t : T} (k : ∀ d, f d = true → M (.c d)) (h : rTc f t = true) : M t :=
  of_dB h fun hc h => @T.c.elim (fun t => ∀ hc : t.ctorIdx = 1, @T.c.elim (fun _ => Bool) t hc f = true → M t) t hc (fun d _ h => k d h) hc h
noncomputable def rComp (f : Expr → Expr → List Expr → Bool) (g : Comprehension) : Bool := decide (g.is_async = 0) && f g.target g.iter g.ifs
theorem of_rComp {f : Expr → Expr → List Expr → Bool} {M : Comprehension → Prop} {g : Comprehension} (k : ∀ t i c, f t i c = true → M ⟨t, i, c, 0⟩) (h : rComp f g = true) : M g := by
  have h := bAnd h
  obtain ⟨t, i, c, a⟩ := g
  cases bDec h.1
  exact k t i c h.2
noncomputable def noneT (t : T) : Bool := rTc (fun d => noneAV (.val d)) t
noncomputable def only {α : Type} (f : α → Bool) (l : List α) : Bool := l1 (fun a r => r.isEmpty && f a) l
theorem of_only {α : Type} {f : α → Bool} {M : List α → Prop} {l : List α} (k : ∀ a, f a = true → M [a]) (h : only f l = true) : M l :=
  of_l1 (fun a r h => nilE (M := fun r => M (a :: r)) (k a (bAnd h).2) (bAnd h).1) h
theorem beqE {α : Type} [BEq α] [LawfulBEq α] {M : α → Prop} {a b : α} (k : M b) (h : (a == b) = true) : M a := by rw [bBeq h]; exact k
mutual
noncomputable def ck (c : Ck) : T → Bool → SI → Expr → Bool
  | .bot, m, si, e => !m || plainTest e
  | .c d, m, si, e => rConstant (fun k _ _ => kOf d == some k) e
  | .gv x d, m, si, e => rName (fun y _ => y == x && (c.gv x d && gName si x)) e
  | .v i, m, si, e => rName (fun x _ => ckVar si i x) e
  | .bin op a b, m, si, e => rBinOp (fun l o r _ => o == opOf op && (!m && (ck c a false si l && ck c b false si r))) e
  | .neg a, m, si, e => rUnaryOp (fun o x _ => o == .USub && (!m && ck c a false si x)) e
  | .not a, m, si, e => rUnaryOp (fun o x _ => o == .Not && ck c a m si x) e
  | .and a b, m, si, e => rBoolOp (fun o es _ => o == .And && l1 (fun x => l1 fun y r => ck c a m si x && ((r.isEmpty && ck c b m si y) || (m && isBot b))) es) e
  | .or a b, m, si, e => rBoolOp (fun o es _ => o == .Or && l1 (fun x => only fun y => ck c a m si x && ck c b m si y) es) e
  | .cmp op a b, m, si, e => rCompare (fun x os ys _ => only (fun o => o == copOf op && only (fun y => ck c a false si x && (ck c b false si y && behindInMarks (copOf op) y == false)) ys) os) e
  | .ite t a b, m, si, e => rIfExp (fun x y z _ => !m && (ck c t true si x && (ck c a false si y && ck c b false si z))) e
  | .call f as, m, si, e => rCall (fun fn es ks _ => ks.isEmpty && rName (fun x _ => c.g f x && (gName si x && (starless es && cks c as si es))) fn) e
  | .new f as, m, si, e => rCall (fun fn es ks _ => ks.isEmpty && rName (fun x _ => c.g (1000 + f) x && (gName si x && (starless es && cks c as si es))) fn) e
  | .bi b as, m, si, e => rCall (fun fn es ks _ => ks.isEmpty && rName (fun x _ => l1 (fun y r => x == biName b && (glob si x && (starless (y :: r) && cks c as si (y :: r)))) es) fn) e ||
      rFormattedValue (fun y k s _ => k == -1 && (oN s && (!m && (decide (b = .str) && cks c as si [y])))) e
  | .meth k o as, m, si, e => rCall (fun fn es ks pos => ks.isEmpty && rAttribute (fun y nm apos => l1 (fun x r => nm == meName k && (ck c o false si y && (plainBase y && (starless (x :: r) && (decide ((x :: r).length < 29) && (apos.endLine == pos.line && ((decide (k ≠ .get) || r.isEmpty) && cks c as si (x :: r)))))))) es) fn) e
  | .attr o n, m, si, e => rAttribute (fun y nm _ => nm == c.an n && (plainBase y && ck c o false si y)) e
  | .idx o i, m, si, e => rSubscript (fun y x _ => itemExpr x && (ck c o false si y && ck c i false si x)) e
  | .sl o lo hi, m, si, e => rSubscript (fun y x _ => ck c o false si y && rSlice (fun l h s _ => oN s && (((oN l && noneT lo) || oS (fun x => ck c lo false si x) l) && ((oN h && noneT hi) || oS (fun x => ck c hi false si x) h))) x) e
  | .tup l, m, si, e => rTuple (fun es _ _ => !m && (starless es && (decide (es.length ≤ 1000) && cks c l si es))) e
  | .list l, m, si, e => rList (fun es _ => !m && (starless es && (decide (es.length ≤ 1000) && cks c l si es))) e
  | .tbl ks vs t, m, si, e => rSubscript (fun dd x _ => itemExpr x && (ck c t false si x && rDict (fun keys vals _ => (unKs ks).any fun kk => keysE kk keys && (valsE vs vals && (kk.length == vs.length && (!keys.isEmpty && (decide (keys.length ≤ 15) && decide kk.Nodup))))) dd)) e
  | .lc elt x it, m, si, e => rListComp (fun el gs scope _ => !m && only (rComp fun tg iter cs => cs.isEmpty && rName (fun xs _ => ckComp si scope x xs && (noSet iter && (ck c elt false (si.inner scope x) el && ck c it false si iter))) tg) gs) e
  | .lcf elt x it t, m, si, e => rListComp (fun el gs scope _ => !m && only (rComp fun tg iter cs => only (fun ct => rName (fun xs _ => ckComp si scope x xs && (noSet iter && (ck c elt false (si.inner scope x) el && (ck c it false si iter && ck c t true (si.inner scope x) ct)))) tg) cs) gs) e
  | .fs ps, m, si, e => rJoinedStr (fun es _ => !m && l1 (fun x => l1 fun y r => cks c ps si (x :: y :: r)) es) e
noncomputable def cks (c : Ck) : List T → SI → List Expr → Bool
  | [], si, es => es.isEmpty
  | t :: ts, si, es => l1 (fun e r => ck c t false si e && cks c ts si r) es
end

structure CkOk (W : Wo) (c : Ck) : Prop where
  cls : ClsOk W
  g : ∀ f x, c.g f x = true → nsIn W.K mainGlobals x = some (some (.ref (W.nm.fa f))) ∧ keepIn W.K (.ref (W.nm.fa f)) = true
  gv : ∀ x d, c.gv x d = true → ∃ v, nsIn W.K mainGlobals x = some (some v) ∧ ∀ Z, Rep W Z v d
  an : c.an = W.nm.an
  bi : ∀ b, nsIn W.K mainGlobals (biName b) = some none

noncomputable def SEB (W : Wo) (n : Nat) (F : Fns) (si : SI) (m : Bool) (e : Expr) (t : T) : Prop := cond m (SB W n F si e t) (SE W n F si e t)
section
variable {W : Wo} {n : Nat} {F : Fns} {si : SI}
theorem SEB.plain {m : Bool} {e : Expr} {t : T} (h : SE W n F si e t) (hp : plainTest e = true) : SEB W n F si m e t := by
  cases m with
  | false => exact h
  | true => exact SB.plain h hp
theorem SEB.off {m : Bool} {e : Expr} {t : T} (h : SE W n F si e t) (hp : (!m) = true) : SEB W n F si m e t := by
  cases m with
  | false => exact h
  | true => cases hp
theorem SB.andb {e₁ e₂ : Expr} {es : List Expr} {t₁ : T} {pos : Pos} (h₁ : SB W n F si e₁ t₁) : SB W n F si (.BoolOp .And (e₁ :: e₂ :: es) pos) (.and t₁ .bot) := by
  intro A h₀ L fenv env m s Q E inj σ C V Y Z ρ a b σ' act H S he hq
  refine wpAny_isTrue_BoolOp (wpAny_allTrue_And_cons ?_)
  refine of_bindC he fun p v₁ he => of_bindC he fun c hc he => h₁ act H S v₁ ⟨hc, fun h' tk' inj' C' Z' S' g => ?_⟩
  exact of_condC he (fun ec he => of_bindC he fun q v he => nomatch v) fun ec he => ite_f ec (BPost.at (of_someP (K := fun a σ' => BPost W h₀ L m V Y inj Z σ' a b s Q) he hq) S' g)
theorem okName_of {x : Str} (h : okName x = true) : (x == ("__debug__" : Str)) = false := by unfold okName at h; simpa using h
theorem glob_of {x : Str} (h : glob si x = true) : si.scope.names.lookup x = some .globalImplicit := bBeq h
theorem ckComp_of {scope : Scope} {x : Nat} {xs : Str} (h : ckComp si scope x xs = true) : CompOk si scope x xs := by
  have h1 := bAnd h
  have h2 := bAnd h1.2
  have h3 := bAnd h2.2
  have h4 := bAnd h3.2
  have h5 := bAnd h4.2
  have h6 := fun y hy => bAnd (List.all_eq_true.mp h5.2 y hy)
  refine ⟨Option.isNone_iff_eq_none.mp h1.1, bBeq h2.1, bBeq h3.1, fun y hy => bne_iff_ne.mp (h6 y hy).1, bBeq h4.1, fun y hy hl => ?_, fun y hy hl => ?_, bDec h5.1⟩
  · exact bOr (bAnd (h6 y hy).2).1 (fun q => absurd hl (bne_iff_ne.mp q)) bBeq
  · exact bOr (bAnd (h6 y hy).2).2 (fun q => absurd hl (bne_iff_ne.mp q)) bBeq
theorem unK_eq {d : D} {k : Option Int} (h : unK d = some k) : d = keyD k := by
  unfold unK at h
  split at h
  · rename_i hn
    cases h
    cases of_noneAV hn
    rfl
  · obtain ⟨i, hi, h⟩ := of_map h
    cases h
    exact D.of_int hi
theorem unKs_eq : ∀ {ds : List D} {kk : List (Option Int)}, unKs ds = some kk → ds = kk.map keyD
  | [], _, h => by cases h; rfl
  | d :: r, kk, h => by
    obtain ⟨a, ha, h⟩ := of_bind h
    obtain ⟨b, hb, h⟩ := of_map h
    rw [← h, List.map_cons, ← unK_eq ha, ← unKs_eq hb]
theorem anyE {α : Type} {o : Option α} {f : α → Bool} {P : Prop} (h : o.any f = true) (k : ∀ a, o = some a → f a = true → P) : P := by
  cases o with
  | none => cases h
  | some a => exact k a rfl h
theorem slE {lo : T} {l : Option Expr} {f : Expr → Bool} (h : ((oN l && noneT lo) || oS f l) = true) (k : ∀ x, f x = true → SE W n F si x lo) : SEo W n F si l lo :=
  bOr h (fun h => of_oN (M := fun l => SEo W n F si l lo) (of_rTc (M := fun t => t = .c .none) (fun d h => by cases of_noneAV h; rfl) (bAnd h).2) (bAnd h).1) fun h => of_oS (M := fun l => SEo W n F si l lo) k h
theorem getE {k : Me} {y x : Expr} {nm : Str} {apos p : Pos} {r : List Expr} {o : T} {as : List T} (hk : k = .get) (e : nm = meName k) (h : r.isEmpty = true) (ho : SE W n F si y o) (hs : SEs W n F si (x :: r) as) (h1 : starless (x :: r) = true) (h2 : plainBase y = true) (h3 : (apos.endLine == p.line) = true) :
    SE W n F si (.Call (.Attribute y nm apos) (x :: r) [] p) (.meth k o as) := by
  subst hk e
  refine nilE (M := fun r => SEs W n F si (x :: r) as → starless (x :: r) = true → SE W n F si (.Call (.Attribute y (meName .get) apos) (x :: r) [] p) (.meth .get o as)) (fun hs h1 => ?_) h hs h1
  match as, hs with
  | [a], hs =>
    show SE W n F si (.Call (.Attribute y "get" apos) [x] [] p) _
    exact SE.get ho hs.1 h1 h2 h3

mutual
theorem ck_ok {c : Ck} (K : CkOk W c) (ok : CallOk W n F) : ∀ (t : T) (m : Bool) (si : SI) (e : Expr), ck c t m si e = true → SEB W n F si m e t
  | .bot, m, si, e, h => by
    cases m with
    | false => exact SE.bot
    | true => exact SB.plain SE.bot h
  | .c d, m, si, e, h => of_rConstant (M := fun e => SEB W n F si m e (.c d)) (fun k _ _ h => SEB.plain (SE.const (bBeq h)) rfl) h
  | .gv x d, m, si, e, h => by
    refine of_rName (M := fun e => SEB W n F si m e (.gv x d)) (fun y p h => ?_) h
    have h1 := bAnd (bAnd h).2
    obtain ⟨v, h5, h6⟩ := K.gv _ _ h1.1
    exact beqE (M := fun y => SEB W n F si m (.Name y p) (.gv x d)) (SEB.plain (SE.gv (glob_of (bAnd h1.2).1) (okName_of (bAnd h1.2).2) h5 h6) rfl) (bAnd h).1
  | .v i, m, si, e, h => of_rName (M := fun e => SEB W n F si m e (.v i)) (fun y p h => SEB.plain (SE.var (bBeq (bAnd h).1) (bAnd (bAnd h).2).1 (okName_of (bAnd (bAnd h).2).2)) rfl) h
  | .bin op a b, m, si, e, h => by
    refine of_rBinOp (M := fun e => SEB W n F si m e (.bin op a b)) (fun l o r p h => ?_) h
    have h1 := bAnd (bAnd h).2
    exact beqE (M := fun o => SEB W n F si m (.BinOp l o r p) (.bin op a b)) (SEB.off (SE.bin (ck_ok K ok a false si _ (bAnd h1.2).1) (ck_ok K ok b false si _ (bAnd h1.2).2)) h1.1) (bAnd h).1
  | .neg a, m, si, e, h => by
    refine of_rUnaryOp (M := fun e => SEB W n F si m e (.neg a)) (fun o x p h => ?_) h
    have h1 := bAnd (bAnd h).2
    exact beqE (M := fun o => SEB W n F si m (.UnaryOp o x p) (.neg a)) (SEB.off (SE.neg (ck_ok K ok a false si _ h1.2)) h1.1) (bAnd h).1
  | .not a, m, si, e, h => by
    refine of_rUnaryOp (M := fun e => SEB W n F si m e (.not a)) (fun o x p h => ?_) h
    refine beqE (M := fun o => SEB W n F si m (.UnaryOp o x p) (.not a)) ?_ (bAnd h).1
    have h1 := ck_ok K ok a m si _ (bAnd h).2
    cases m with
    | false => exact SE.not h1
    | true => exact SB.not h1
  | .and a b, m, si, e, h => by
    refine of_rBoolOp (M := fun e => SEB W n F si m e (.and a b)) (fun o es p h => ?_) h
    refine beqE (M := fun o => SEB W n F si m (.BoolOp o es p) (.and a b)) ?_ (bAnd h).1
    refine of_l1 (M := fun es => SEB W n F si m (.BoolOp .And es p) (.and a b)) (fun x es h => of_l1 (M := fun es => SEB W n F si m (.BoolOp .And (x :: es) p) (.and a b)) (fun y es h => ?_) h) (bAnd h).2
    have h1 := ck_ok K ok a m si x (bAnd h).1
    refine bOr (bAnd h).2 (fun h => nilE (M := fun es => SEB W n F si m (.BoolOp .And (x :: y :: es) p) (.and a b)) ?_ (bAnd h).1) fun h => ?_
    · have h2 := ck_ok K ok b m si y (bAnd h).2
      cases m with
      | false => exact SE.and h1 h2
      | true => exact SB.and h1 h2
    · cases isBot_of (bAnd h).2
      cases (bAnd h).1
      exact SB.andb h1
  | .or a b, m, si, e, h => by
    refine of_rBoolOp (M := fun e => SEB W n F si m e (.or a b)) (fun o es p h => ?_) h
    refine beqE (M := fun o => SEB W n F si m (.BoolOp o es p) (.or a b)) ?_ (bAnd h).1
    refine of_l1 (M := fun es => SEB W n F si m (.BoolOp .Or es p) (.or a b)) (fun x es h => of_only (M := fun es => SEB W n F si m (.BoolOp .Or (x :: es) p) (.or a b)) (fun y h => ?_) h) (bAnd h).2
    have h1 := ck_ok K ok a m si x (bAnd h).1
    have h2 := ck_ok K ok b m si y (bAnd h).2
    cases m with
    | false => exact SE.or h1 h2
    | true => exact SB.or h1 h2
  | .cmp op a b, m, si, e, h => by
    refine of_rCompare (M := fun e => SEB W n F si m e (.cmp op a b)) (fun x os ys p h => ?_) h
    refine of_only (M := fun os => SEB W n F si m (.Compare x os ys p) (.cmp op a b)) (fun o h => ?_) h
    refine beqE (M := fun o => SEB W n F si m (.Compare x [o] ys p) (.cmp op a b)) ?_ (bAnd h).1
    refine of_only (M := fun ys => SEB W n F si m (.Compare x [copOf op] ys p) (.cmp op a b)) (fun y h => ?_) (bAnd h).2
    have h1 := ck_ok K ok a false si x (bAnd h).1
    have h2 := ck_ok K ok b false si y (bAnd (bAnd h).2).1
    have h3 := bBeq (bAnd (bAnd h).2).2
    cases m with
    | false => exact SE.cmp h1 h2 h3
    | true => exact SB.cmp h1 h2 h3
  | .ite t a b, m, si, e, h => by
    refine of_rIfExp (M := fun e => SEB W n F si m e (.ite t a b)) (fun x y z p h => ?_) h
    have h1 := bAnd (bAnd h).2
    exact SEB.off (SE.ite (ck_ok K ok t true si _ h1.1) (ck_ok K ok a false si _ (bAnd h1.2).1) (ck_ok K ok b false si _ (bAnd h1.2).2)) (bAnd h).1
  | .call f as, m, si, e, h => by
    refine of_rCall (M := fun e => SEB W n F si m e (.call f as)) (fun fn es ks p h => ?_) h
    refine nilE (M := fun ks => SEB W n F si m (.Call fn es ks p) (.call f as)) ?_ (bAnd h).1
    refine of_rName (M := fun fn => SEB W n F si m (.Call fn es [] p) (.call f as)) (fun x np h => ?_) (bAnd h).2
    have h1 := bAnd (bAnd h).2
    have h2 := bAnd h1.1
    exact SEB.plain (SE.call ok (cks_ok K ok as si _ (bAnd h1.2).2) (bAnd h1.2).1 (glob_of h2.1) (okName_of h2.2) (K.g _ _ (bAnd h).1).1 (K.g _ _ (bAnd h).1).2) rfl
  | .new f as, m, si, e, h => by
    refine of_rCall (M := fun e => SEB W n F si m e (.new f as)) (fun fn es ks p h => ?_) h
    refine nilE (M := fun ks => SEB W n F si m (.Call fn es ks p) (.new f as)) ?_ (bAnd h).1
    refine of_rName (M := fun fn => SEB W n F si m (.Call fn es [] p) (.new f as)) (fun x np h => ?_) (bAnd h).2
    have h1 := bAnd (bAnd h).2
    have h2 := bAnd h1.1
    exact SEB.plain (SE.new ok (cks_ok K ok as si _ (bAnd h1.2).2) (bAnd h1.2).1 (glob_of h2.1) (okName_of h2.2) (K.g _ _ (bAnd h).1).1 (K.g _ _ (bAnd h).1).2) rfl
  | .bi b as, m, si, e, h => by
    refine bOr h (fun h => ?_) fun h => ?_
    · refine of_rCall (M := fun e => SEB W n F si m e (.bi b as)) (fun fn es ks p h => ?_) h
      refine nilE (M := fun ks => SEB W n F si m (.Call fn es ks p) (.bi b as)) ?_ (bAnd h).1
      refine of_rName (M := fun fn => SEB W n F si m (.Call fn es [] p) (.bi b as)) (fun x np h => ?_) (bAnd h).2
      refine of_l1 (M := fun es => SEB W n F si m (.Call (.Name x np) es [] p) (.bi b as)) (fun y r h => ?_) h
      have h1 := bAnd (bAnd h).2
      have e := bBeq (bAnd h).1
      exact SEB.plain (SE.bi (cks_ok K ok as si _ (bAnd h1.2).2) (bAnd h1.2).1 e (glob_of h1.1) (e ▸ K.bi b)) rfl
    · refine of_rFormattedValue (M := fun e => SEB W n F si m e (.bi b as)) (fun y k s p h => ?_) h
      refine beqE (M := fun k => SEB W n F si m (.FormattedValue y k s p) (.bi b as)) ?_ (bAnd h).1
      refine of_oN (M := fun s => SEB W n F si m (.FormattedValue y (-1) s p) (.bi b as)) ?_ (bAnd (bAnd h).2).1
      have h1 := bAnd (bAnd (bAnd h).2).2
      cases bDec (bAnd h1.2).1
      have hs := cks_ok K ok as si [y] (bAnd h1.2).2
      match as, hs with
      | [a], hs => exact SEB.off (SE.fmt hs.1) h1.1
  | .meth k o as, m, si, e, h => by
    refine of_rCall (M := fun e => SEB W n F si m e (.meth k o as)) (fun fn es ks p h => ?_) h
    refine nilE (M := fun ks => SEB W n F si m (.Call fn es ks p) (.meth k o as)) ?_ (bAnd h).1
    refine of_rAttribute (M := fun fn => SEB W n F si m (.Call fn es [] p) (.meth k o as)) (fun y nm apos h => ?_) (bAnd h).2
    refine of_l1 (M := fun es => SEB W n F si m (.Call (.Attribute y nm apos) es [] p) (.meth k o as)) (fun x r h => ?_) h
    have e := bBeq (bAnd h).1
    have h1 := bAnd (bAnd h).2
    have h2 := bAnd h1.2
    have h3 := bAnd h2.2
    have h4 := bAnd h3.2
    have h5 := bAnd h4.2
    have h6 := bAnd h5.2
    have ho := ck_ok K ok o false si _ h1.1
    have hs := cks_ok K ok as si (x :: r) h6.2
    refine bOr h6.1 (fun h7 => SEB.plain (SE.meth (bDec h7) ho hs h3.1 e h2.1 (bDec h4.1) h5.1) rfl) fun h7 => ?_
    by_cases hk : k = .get
    · exact SEB.plain (getE hk e h7 ho hs h3.1 h2.1 h5.1) rfl
    · exact SEB.plain (SE.meth hk ho hs h3.1 e h2.1 (bDec h4.1) h5.1) rfl
  | .attr o i, m, si, e, h => by
    refine of_rAttribute (M := fun e => SEB W n F si m e (.attr o i)) (fun y nm p h => ?_) h
    exact SEB.plain (SE.attr K.cls (ck_ok K ok o false si _ (bAnd (bAnd h).2).2) ((bBeq (bAnd h).1).trans (congrFun K.an i)) (bAnd (bAnd h).2).1) rfl
  | .idx o i, m, si, e, h => by
    refine of_rSubscript (M := fun e => SEB W n F si m e (.idx o i)) (fun y x p h => ?_) h
    exact SEB.plain (SE.idx (ck_ok K ok o false si _ (bAnd (bAnd h).2).1) (ck_ok K ok i false si _ (bAnd (bAnd h).2).2) (bAnd h).1) rfl
  | .sl o lo hi, m, si, e, h => by
    refine of_rSubscript (M := fun e => SEB W n F si m e (.sl o lo hi)) (fun y x p h => ?_) h
    refine of_rSlice (M := fun x => SEB W n F si m (.Subscript y x p) (.sl o lo hi)) (fun l h s q h' => ?_) (bAnd h).2
    refine of_oN (M := fun s => SEB W n F si m (.Subscript y (.Slice l h s q) p) (.sl o lo hi)) ?_ (bAnd h').1
    have h1 := bAnd (bAnd h').2
    exact SEB.plain (SE.sl (ck_ok K ok o false si _ (bAnd ‹(ck c o false si y && _) = true›).1) (slE h1.1 fun x => ck_ok K ok lo false si x) (slE h1.2 fun x => ck_ok K ok hi false si x)) rfl
  | .tup l, m, si, e, h => by
    refine of_rTuple (M := fun e => SEB W n F si m e (.tup l)) (fun es k p h => ?_) h
    have h1 := bAnd (bAnd h).2
    exact SEB.off (SE.tup (cks_ok K ok l si _ (bAnd h1.2).2) h1.1 (bDec (bAnd h1.2).1)) (bAnd h).1
  | .list l, m, si, e, h => by
    refine of_rList (M := fun e => SEB W n F si m e (.list l)) (fun es p h => ?_) h
    have h1 := bAnd (bAnd h).2
    exact SEB.off (SE.list (cks_ok K ok l si _ (bAnd h1.2).2) h1.1 (bDec (bAnd h1.2).1)) (bAnd h).1
  | .tbl ks vs t, m, si, e, h => by
    refine of_rSubscript (M := fun e => SEB W n F si m e (.tbl ks vs t)) (fun dd x p h => ?_) h
    have h1 := bAnd (bAnd h).2
    refine of_rDict (M := fun dd => SEB W n F si m (.Subscript dd x p) (.tbl ks vs t)) (fun keys vals q h2 => ?_) h1.2
    refine anyE h2 fun kk hk h3 => ?_
    have h4 := bAnd (bAnd h3).2
    have h5 := bAnd h4.2
    have h6 := bAnd h5.2
    have e2 := unKs_eq hk
    subst e2
    exact SEB.plain (SE.tbl (bAnd h3).1 h4.1 (bBeq h5.1) (fun q => by rw [q] at h6; cases h6.1) (bDec (bAnd h6.2).1) (bDec (bAnd h6.2).2) (ck_ok K ok t false si _ h1.1) (bAnd h).1) rfl
  | .lc elt x it, m, si, e, h => by
    refine of_rListComp (M := fun e => SEB W n F si m e (.lc elt x it)) (fun el gs scope p h => ?_) h
    refine of_only (M := fun gs => SEB W n F si m (.ListComp el gs scope p) (.lc elt x it)) (fun g h' => ?_) (bAnd h).2
    refine of_rComp (M := fun g => SEB W n F si m (.ListComp el [g] scope p) (.lc elt x it)) (fun tg iter cs h' => ?_) h'
    refine nilE (M := fun cs => SEB W n F si m (.ListComp el [⟨tg, iter, cs, 0⟩] scope p) (.lc elt x it)) ?_ (bAnd h').1
    refine of_rName (M := fun tg => SEB W n F si m (.ListComp el [⟨tg, iter, [], 0⟩] scope p) (.lc elt x it)) (fun xs q h' => ?_) (bAnd h').2
    have h1 := bAnd (bAnd h').2
    exact SEB.off (SE.lc (ckComp_of (bAnd h').1) (ck_ok K ok elt false _ _ (bAnd h1.2).1) (ck_ok K ok it false _ _ (bAnd h1.2).2) h1.1) (bAnd h).1
  | .lcf elt x it t, m, si, e, h => by
    refine of_rListComp (M := fun e => SEB W n F si m e (.lcf elt x it t)) (fun el gs scope p h => ?_) h
    refine of_only (M := fun gs => SEB W n F si m (.ListComp el gs scope p) (.lcf elt x it t)) (fun g h' => ?_) (bAnd h).2
    refine of_rComp (M := fun g => SEB W n F si m (.ListComp el [g] scope p) (.lcf elt x it t)) (fun tg iter cs h' => ?_) h'
    refine of_only (M := fun cs => SEB W n F si m (.ListComp el [⟨tg, iter, cs, 0⟩] scope p) (.lcf elt x it t)) (fun ct h' => ?_) h'
    refine of_rName (M := fun tg => SEB W n F si m (.ListComp el [⟨tg, iter, [ct], 0⟩] scope p) (.lcf elt x it t)) (fun xs q h' => ?_) h'
    have h1 := bAnd (bAnd h').2
    have h2 := bAnd (bAnd h1.2).2
    exact SEB.off (SE.lcf (ckComp_of (bAnd h').1) (ck_ok K ok t true _ _ h2.2) (ck_ok K ok elt false _ _ (bAnd h1.2).1) (ck_ok K ok it false _ _ h2.1) h1.1) (bAnd h).1
  | .fs ps, m, si, e, h => by
    refine of_rJoinedStr (M := fun e => SEB W n F si m e (.fs ps)) (fun es p h => ?_) h
    refine of_l1 (M := fun es => SEB W n F si m (.JoinedStr es p) (.fs ps)) (fun x es h' => of_l1 (M := fun es => SEB W n F si m (.JoinedStr (x :: es) p) (.fs ps)) (fun y es h' => ?_) h') (bAnd h).2
    exact SEB.off (SE.fs (cks_ok K ok ps si _ h')) (bAnd h).1
theorem cks_ok {c : Ck} (K : CkOk W c) (ok : CallOk W n F) : ∀ (ts : List T) (si : SI) (es : List Expr), cks c ts si es = true → SEs W n F si es ts
  | [], si, es, h => nilE (M := fun es => SEs W n F si es []) trivial h
  | t :: ts, si, es, h => of_l1 (M := fun es => SEs W n F si es (t :: ts)) (fun e r h => ⟨ck_ok K ok t false si e (bAnd h).1, cks_ok K ok ts si r (bAnd h).2⟩) h
end
end
end Mine

namespace Mine
open PySem PySem.W PySem.Calls PyProof.Rows

/-! a test that statements are the small language's -/
noncomputable def stOk (si : SI) (i : Nat) (x : Str) : Bool := decide (i < si.nf) && (si.nm[i]? == some x && storable si x)
noncomputable def lcOrNot (e : Expr) : Bool := !(e.ctorIdx == 9 || e.ctorIdx == 10)
noncomputable def swB (sc : Scope) (e : Expr) (x : Str) (px : Pos) : Bool := rListComp (fun _ _ s _ => (if sc.kind.isAnnotationScope then ScopeKind.function else sc.kind) == .function && sc.names.lookup x == some .local && px.line == e.pos.line
      && !(s.names.any fun (n, k) => n == x && (k == .local || k == .cell))) e
theorem swB_eq {e : Expr} {x : Str} {px : Pos} {ln : Nat} {env : Env} {sc : Scope} (h : lcOrNot e = true) (hs : env.scope = sc) : swapsWith e (some (.Name x px)) ln env = pure (swB sc e x px) := by
  subst hs
  cases e <;> first | rfl | cases h
noncomputable def isFrz (t : S) : Bool := decide (t.ctorIdx = 18)
noncomputable def isBotS (t : S) : Bool := decide (t.ctorIdx = 0)
theorem isFrz_of {M : S → Prop} {t : S} (k : ∀ i, M (.frzv i)) (h : isFrz t = true) : M t := @S.frzv.elim M t (bDec h) k
theorem isBotS_of {M : S → Prop} {t : S} (k : M .bot) (h : isBotS t = true) : M t := @S.bot.elim M t (bDec h) k
noncomputable def rTlc (f : T → Nat → T → Bool) (t : T) : Bool := dB fun h : t.ctorIdx = 21 => @T.lc.elim (fun _ => Bool) t h f
theorem of_rTlc {f : T → Nat → T → Bool} {M : T → Prop} {t : T} (k : ∀ a b c, f a b c = true → M (.lc a b c)) (h : rTlc f t = true) : M t :=
  of_dB h fun hc h => @T.lc.elim (fun t => ∀ hc : t.ctorIdx = 21, @T.lc.elim (fun _ => Bool) t hc f = true → M t) t hc (fun a b c _ h => k a b c h) hc h
noncomputable def rTlcf (f : T → Nat → T → T → Bool) (t : T) : Bool := dB fun h : t.ctorIdx = 22 => @T.lcf.elim (fun _ => Bool) t h f
theorem of_rTlcf {f : T → Nat → T → T → Bool} {M : T → Prop} {t : T} (k : ∀ a b c d, f a b c d = true → M (.lcf a b c d)) (h : rTlcf f t = true) : M t :=
  of_dB h fun hc h => @T.lcf.elim (fun t => ∀ hc : t.ctorIdx = 22, @T.lcf.elim (fun _ => Bool) t hc f = true → M t) t hc (fun a b c d _ h => k a b c d h) hc h
/-- a statement at one target -/
noncomputable def asgn (f : Expr → Expr → Bool) (e : Stmt) : Bool := rAssign (fun ts v _ => only (fun t => f t v) ts) e
theorem of_asgn {f : Expr → Expr → Bool} {M : Stmt → Prop} {e : Stmt} (k : ∀ t v p, f t v = true → M (.Assign [t] v p)) (h : asgn f e = true) : M e :=
  of_rAssign (M := M) (fun ts v p h => of_only (M := fun ts => M (.Assign ts v p)) (fun t h => k t v p h) h) h
/-- a method's call -/
noncomputable def mcall (nm : Str) (f : Expr → List Expr → Bool) (e : Stmt) : Bool := rSExpr (fun e _ => rCall (fun fn es ks pos => ks.isEmpty && rAttribute (fun y x apos => x == nm && (plainBase y && (apos.endLine == pos.line && f y es))) fn) e) e
theorem of_mcall {nm : Str} {f : Expr → List Expr → Bool} {M : Stmt → Prop} {e : Stmt} (k : ∀ y es apos pos p, plainBase y = true → (apos.endLine == pos.line) = true → f y es = true → M (.Expr (.Call (.Attribute y nm apos) es [] pos) p)) (h : mcall nm f e = true) : M e :=
  of_rSExpr (M := M) (fun e p h => of_rCall (M := fun e => M (.Expr e p)) (fun fn es ks pos h => nilE (M := fun ks => M (.Expr (.Call fn es ks pos) p))
    (of_rAttribute (M := fun fn => M (.Expr (.Call fn es [] pos) p)) (fun y x apos h => beqE (M := fun x => M (.Expr (.Call (.Attribute y x apos) es [] pos) p))
      (k y es apos pos p (bAnd (bAnd h).2).1 (bAnd (bAnd (bAnd h).2).2).1 (bAnd (bAnd (bAnd h).2).2).2) (bAnd h).1) (bAnd h).2) (bAnd h).1) h) h
noncomputable def rStr (k : Str) (e : Expr) : Bool := rConstant (fun c _ _ => c == .str k) e
theorem of_rStr {k : Str} {M : Expr → Prop} {e : Expr} (h : ∀ n p, M (.Constant (.str k) n p)) (q : rStr k e = true) : M e :=
  of_rConstant (M := M) (fun c n p q => beqE (M := fun c => M (.Constant c n p)) (h n p) q) q
noncomputable def ckLc (c : Ck) (si : SI) (t : T) (v : Expr) : Bool := rListComp (fun el gs scope _ => only (rComp fun tg iter cs => rName (fun xs _ =>
  rTlc (fun elt k it => cs.isEmpty && (ckComp si scope k xs && (noSet iter && (ck c elt false (si.inner scope k) el && ck c it false si iter)))) t ||
  rTlcf (fun elt k it t => only (fun ct => ckComp si scope k xs && (noSet iter && (ck c elt false (si.inner scope k) el && (ck c it false si iter && ck c t true (si.inner scope k) ct)))) cs) t) tg) gs) v

mutual
noncomputable def ckS (c : Ck) : S → SI → Stmt → Bool
  | .bot, si, e => true
  | .asg i t, si, e => asgn (fun x v => rName (fun x px => stOk si i x && (lcOrNot v && cond (swB si.scope v x px) (si.scope.names.lookup x == some .local && ckLc c si t v) (ck c t false si v))) x) e
  | .asgL i ts, si, e => asgn (fun x v => rName (fun x _ => rList (fun es _ => stOk si i x && (starless es && (decide (es.length ≤ 1000) && cks c ts si es))) v) x) e
  | .asgN i k ts, si, e => asgn (fun x v => rName (fun x _ => rCall (fun f es ks _ => ks.isEmpty && rName (fun y _ => stOk si i x && (c.g (1000 + k) y && (gName si y && (starless es && cks c ts si es)))) f) v) x) e
  | .asgT is t, si, e => asgn (fun x v => rTuple (fun elts _ _ => isCall v && (nameTo si elts is && ck c t false si v)) x) e
  | .aug i op t, si, e => rAugAssign (fun x o v _ => o == opOf op && rName (fun x _ => (decide (op = .add) || decide (op = .sub)) && (stOk si i x && ck c t false si v)) x) e
  | .augL i t, si, e => rAugAssign (fun x o v _ => o == .Add && rName (fun x _ => stOk si i x && ck c t false si v) x) e
  | .sattr o n t, si, e => asgn (fun x v => rAttribute (fun y x _ => x == c.an n && (ck c t false si v && ck c o false si y)) x) e
  | .sattrD o n k t, si, e => asgn (fun x v => rAttribute (fun y x _ => x == c.an n && rDict (fun ks vs _ => only (oS (rStr k)) ks && only (fun v => ck c t false si v && ck c o false si y) vs) v) x) e
  | .sidx o i t, si, e => asgn (fun x v => rSubscript (fun y x _ => ck c t false si v && (ck c o false si y && ck c i false si x)) x) e
  | .sidx2 o n k t, si, e => asgn (fun x v => rSubscript (fun a q _ => rStr k q && rAttribute (fun y x _ => x == c.an n && (plainBase y && (ck c t false si v && ck c o false si y))) a) x) e
  | .app o t, si, e => mcall "append" (fun y es => only (fun v => starless [v] && (ck c o false si y && ck c t false si v)) es) e
  | .ext o t, si, e => mcall "extend" (fun y es => only (fun v => starless [v] && (ck c o false si y && ck c t false si v)) es) e
  | .rev o, si, e => mcall "reverse" (fun y es => es.isEmpty && ck c o false si y) e
  | .iff t a b, si, e => rIf (fun x p q _ => ck c t true si x && (ckX c a si p && ckX c b si q)) e
  | .whl t a, si, e => rWhile (fun x p q _ => q.isEmpty && (ck c t true si x && ckX c a si p)) e
  | .forr i t a, si, e => rFor (fun x it p q _ => q.isEmpty && rName (fun x _ => decide (i < si.nf) && (si.nm[i]? == some x && (si.scope.names.lookup x == some .local && (noSet it && (ck c t false si it && ckX c a si p))))) x) e
  | .ret t, si, e => rReturn (fun x _ => oS (fun x => ck c t false si x) x) e
  | .frzv _, si, e => false
noncomputable def ckX (c : Ck) : List S → SI → List Stmt → Bool
  | [], si, es => es.isEmpty
  | t :: ts, si, es => cond (isFrz t) (ckX c ts si es) (isBotS t || l1 (fun e r => ckS c t si e && ckX c ts si r) es)
end

section
variable {W : Wo} {n : Nat} {F : Fns} {si : SI}
theorem stOk_of {i : Nat} {x : Str} (h : stOk si i x = true) : i < si.nf ∧ si.nm[i]? = some x ∧ storable si x = true :=
  ⟨bDec (bAnd h).1, bBeq (bAnd (bAnd h).2).1, (bAnd (bAnd h).2).2⟩
theorem condE {c a b : Bool} {P : Prop} (h : cond c a b = true) (k : c = true → a = true → P) (l : c = false → b = true → P) : P := by
  cases c with
  | true => exact k rfl h
  | false => exact l rfl h
theorem ckLc_ok {c : Ck} (K : CkOk W c) (ok : CallOk W n F) {t : T} {v : Expr} {i : Nat} {x : Str} {px p : Pos} (h : ckLc c si t v = true) (hsw : ∀ env : Env, env.scope = si.scope → swapsWith v (some (.Name x px)) p.line env = pure true)
    (i1 : i < si.nf) (i2 : si.nm[i]? = some x) (h3 : si.scope.names.lookup x = some .local) : SS W n F si (.Assign [.Name x px] v p) (.asg i t) := by
  revert hsw
  refine of_rListComp (M := fun v => (∀ env : Env, env.scope = si.scope → swapsWith v (some (.Name x px)) p.line env = pure true) → SS W n F si (.Assign [.Name x px] v p) (.asg i t)) (fun el gs scope q h => ?_) h
  refine of_only (M := fun gs => (∀ env : Env, env.scope = si.scope → swapsWith (.ListComp el gs scope q) (some (.Name x px)) p.line env = pure true) → SS W n F si (.Assign [.Name x px] (.ListComp el gs scope q) p) (.asg i t)) (fun g h => ?_) h
  refine of_rComp (M := fun g => (∀ env : Env, env.scope = si.scope → swapsWith (.ListComp el [g] scope q) (some (.Name x px)) p.line env = pure true) → SS W n F si (.Assign [.Name x px] (.ListComp el [g] scope q) p) (.asg i t)) (fun tg iter cs h => ?_) h
  refine of_rName (M := fun tg => (∀ env : Env, env.scope = si.scope → swapsWith (.ListComp el [⟨tg, iter, cs, 0⟩] scope q) (some (.Name x px)) p.line env = pure true) → SS W n F si (.Assign [.Name x px] (.ListComp el [⟨tg, iter, cs, 0⟩] scope q) p) (.asg i t)) (fun xs q' h hsw => ?_) h
  refine bOr h (fun h => ?_) fun h => ?_
  · refine of_rTlc (M := fun t => SS W n F si (.Assign [.Name x px] (.ListComp el [⟨.Name xs q', iter, cs, 0⟩] scope q) p) (.asg i t)) (fun elt k it h => ?_) h
    revert hsw
    refine nilE (M := fun cs => (∀ env : Env, env.scope = si.scope → swapsWith (.ListComp el [⟨.Name xs q', iter, cs, 0⟩] scope q) (some (.Name x px)) p.line env = pure true) → SS W n F si (.Assign [.Name x px] (.ListComp el [⟨.Name xs q', iter, cs, 0⟩] scope q) p) (.asg i (.lc elt k it))) (fun hsw => ?_) (bAnd h).1
    have h1 := bAnd (bAnd h).2
    have h2 := bAnd h1.2
    exact SS.asgC (ckComp_of h1.1) (ck_ok K ok _ false _ _ (bAnd h2.2).1) (ck_ok K ok _ false _ _ (bAnd h2.2).2) h2.1 hsw i1 i2 h3
  · refine of_rTlcf (M := fun t => SS W n F si (.Assign [.Name x px] (.ListComp el [⟨.Name xs q', iter, cs, 0⟩] scope q) p) (.asg i t)) (fun elt k it t h => ?_) h
    revert hsw
    refine of_only (M := fun cs => (∀ env : Env, env.scope = si.scope → swapsWith (.ListComp el [⟨.Name xs q', iter, cs, 0⟩] scope q) (some (.Name x px)) p.line env = pure true) → SS W n F si (.Assign [.Name x px] (.ListComp el [⟨.Name xs q', iter, cs, 0⟩] scope q) p) (.asg i (.lcf elt k it t))) (fun ct h hsw => ?_) h
    have h2 := bAnd (bAnd h).2
    have h3' := bAnd h2.2
    exact SS.asgCF (ckComp_of (bAnd h).1) (ck_ok K ok _ true _ _ (bAnd h3'.2).2) (ck_ok K ok _ false _ _ h3'.1) (ck_ok K ok _ false _ _ (bAnd h3'.2).1) h2.1 hsw i1 i2 h3

mutual
theorem ckS_ok {c : Ck} (K : CkOk W c) (ok : CallOk W n F) : ∀ (t : S) (si : SI) (e : Stmt), ckS c t si e = true → SS W n F si e t
  | .bot, si, e, h => SS.bot
  | .asg i t, si, e, h => by
    refine of_asgn (M := fun e => SS W n F si e (.asg i t)) (fun x v p h => ?_) h
    refine of_rName (M := fun x => SS W n F si (.Assign [x] v p) (.asg i t)) (fun x px h => ?_) h
    have h1 := stOk_of (bAnd h).1
    have h2 := bAnd (bAnd h).2
    refine condE h2.2 (fun hs h => ?_) fun hs h => ?_
    · exact ckLc_ok K ok (bAnd h).2 (fun env he => by rw [swB_eq h2.1 he, hs]) h1.1 h1.2.1 (bBeq (bAnd h).1)
    · exact SS.asg (ck_ok K ok t false si _ h) h1.1 h1.2.1 h1.2.2 fun env he => by rw [swB_eq h2.1 he, hs]
  | .asgL i ts, si, e, h => by
    refine of_asgn (M := fun e => SS W n F si e (.asgL i ts)) (fun x v p h => ?_) h
    refine of_rName (M := fun x => SS W n F si (.Assign [x] v p) (.asgL i ts)) (fun x px h => ?_) h
    refine of_rList (M := fun v => SS W n F si (.Assign [.Name x px] v p) (.asgL i ts)) (fun es q h => ?_) h
    have h1 := stOk_of (bAnd h).1
    have h2 := bAnd (bAnd h).2
    exact SS.asgL (cks_ok K ok ts si _ (bAnd h2.2).2) h2.1 (bDec (bAnd h2.2).1) h1.1 h1.2.1 h1.2.2
  | .asgN i k ts, si, e, h => by
    refine of_asgn (M := fun e => SS W n F si e (.asgN i k ts)) (fun x v p h => ?_) h
    refine of_rName (M := fun x => SS W n F si (.Assign [x] v p) (.asgN i k ts)) (fun x px h => ?_) h
    refine of_rCall (M := fun v => SS W n F si (.Assign [.Name x px] v p) (.asgN i k ts)) (fun f es ks q h => ?_) h
    refine nilE (M := fun ks => SS W n F si (.Assign [.Name x px] (.Call f es ks q) p) (.asgN i k ts)) ?_ (bAnd h).1
    refine of_rName (M := fun f => SS W n F si (.Assign [.Name x px] (.Call f es [] q) p) (.asgN i k ts)) (fun y py h => ?_) (bAnd h).2
    have h1 := stOk_of (bAnd h).1
    have h2 := bAnd (bAnd h).2
    have h3 := bAnd h2.2
    have h4 := bAnd h3.1
    exact SS.asgN ok (cks_ok K ok ts si _ (bAnd h3.2).2) (bAnd h3.2).1 h1.1 h1.2.1 h1.2.2 (glob_of h4.1) (okName_of h4.2) (K.g _ _ h2.1).1 (K.g _ _ h2.1).2
  | .asgT is t, si, e, h => by
    refine of_asgn (M := fun e => SS W n F si e (.asgT is t)) (fun x v p h => ?_) h
    refine of_rTuple (M := fun x => SS W n F si (.Assign [x] v p) (.asgT is t)) (fun x k q h => ?_) h
    have h2 := bAnd (bAnd h).2
    exact SS.asgT (ck_ok K ok t false si _ h2.2) (bAnd h).1 h2.1
  | .aug i op t, si, e, h => by
    refine of_rAugAssign (M := fun e => SS W n F si e (.aug i op t)) (fun x o v p h => ?_) h
    refine beqE (M := fun o => SS W n F si (.AugAssign x o v p) (.aug i op t)) ?_ (bAnd h).1
    refine of_rName (M := fun x => SS W n F si (.AugAssign x (opOf op) v p) (.aug i op t)) (fun x px h => ?_) (bAnd h).2
    have h2 := bAnd (bAnd h).2
    have h1 := stOk_of h2.1
    exact SS.aug (bOr (bAnd h).1 (fun h => .inl (bDec h)) fun h => .inr (bDec h)) (ck_ok K ok t false si _ h2.2) h1.1 h1.2.1 h1.2.2
  | .augL i t, si, e, h => by
    refine of_rAugAssign (M := fun e => SS W n F si e (.augL i t)) (fun x o v p h => ?_) h
    refine beqE (M := fun o => SS W n F si (.AugAssign x o v p) (.augL i t)) ?_ (bAnd h).1
    refine of_rName (M := fun x => SS W n F si (.AugAssign x .Add v p) (.augL i t)) (fun x px h => ?_) (bAnd h).2
    have h1 := stOk_of (bAnd h).1
    exact SS.augL (ck_ok K ok t false si _ (bAnd h).2) h1.1 h1.2.1 h1.2.2
  | .sattr o k t, si, e, h => by
    refine of_asgn (M := fun e => SS W n F si e (.sattr o k t)) (fun x v p h => ?_) h
    refine of_rAttribute (M := fun x => SS W n F si (.Assign [x] v p) (.sattr o k t)) (fun y x q h => ?_) h
    exact SS.sattr K.cls (ck_ok K ok t false si _ (bAnd (bAnd h).2).1) (ck_ok K ok o false si _ (bAnd (bAnd h).2).2) ((bBeq (bAnd h).1).trans (congrFun K.an k))
  | .sattrD o k q t, si, e, h => by
    refine of_asgn (M := fun e => SS W n F si e (.sattrD o k q t)) (fun x v p h => ?_) h
    refine of_rAttribute (M := fun x => SS W n F si (.Assign [x] v p) (.sattrD o k q t)) (fun y x r h => ?_) h
    refine of_rDict (M := fun v => SS W n F si (.Assign [.Attribute y x r] v p) (.sattrD o k q t)) (fun ks vs u h' => ?_) (bAnd h).2
    refine of_only (M := fun ks => SS W n F si (.Assign [.Attribute y x r] (.Dict ks vs u) p) (.sattrD o k q t)) (fun s hs => ?_) (bAnd h').1
    refine of_oS (M := fun s => SS W n F si (.Assign [.Attribute y x r] (.Dict [s] vs u) p) (.sattrD o k q t)) (fun s hs => ?_) hs
    refine of_rStr (M := fun s => SS W n F si (.Assign [.Attribute y x r] (.Dict [some s] vs u) p) (.sattrD o k q t)) (fun kk kp => ?_) hs
    refine of_only (M := fun vs => SS W n F si (.Assign [.Attribute y x r] (.Dict [some (.Constant (.str q) kk kp)] vs u) p) (.sattrD o k q t)) (fun v hv => ?_) (bAnd h').2
    exact SS.sattrD K.cls (ck_ok K ok t false si _ (bAnd hv).1) (ck_ok K ok o false si _ (bAnd hv).2) ((bBeq (bAnd h).1).trans (congrFun K.an k))
  | .sidx o i t, si, e, h => by
    refine of_asgn (M := fun e => SS W n F si e (.sidx o i t)) (fun x v p h => ?_) h
    refine of_rSubscript (M := fun x => SS W n F si (.Assign [x] v p) (.sidx o i t)) (fun y x q h => ?_) h
    exact SS.sidx (ck_ok K ok t false si _ (bAnd h).1) (ck_ok K ok o false si _ (bAnd (bAnd h).2).1) (ck_ok K ok i false si _ (bAnd (bAnd h).2).2)
  | .sidx2 o k q t, si, e, h => by
    refine of_asgn (M := fun e => SS W n F si e (.sidx2 o k q t)) (fun x v p h => ?_) h
    refine of_rSubscript (M := fun x => SS W n F si (.Assign [x] v p) (.sidx2 o k q t)) (fun y x r h => ?_) h
    refine of_rStr (M := fun x => SS W n F si (.Assign [.Subscript y x r] v p) (.sidx2 o k q t)) (fun kk kp => ?_) (bAnd h).1
    refine of_rAttribute (M := fun y => SS W n F si (.Assign [.Subscript y (.Constant (.str q) kk kp) r] v p) (.sidx2 o k q t)) (fun y x u h => ?_) (bAnd h).2
    have h1 := bAnd (bAnd h).2
    exact SS.sidx2 K.cls (ck_ok K ok t false si _ (bAnd h1.2).1) (ck_ok K ok o false si _ (bAnd h1.2).2) ((bBeq (bAnd h).1).trans (congrFun K.an k)) h1.1
  | .app o t, si, e, h => by
    refine of_mcall (M := fun e => SS W n F si e (.app o t)) (fun y es apos pos p h1 h2 h => ?_) h
    refine of_only (M := fun es => SS W n F si (.Expr (.Call (.Attribute y "append" apos) es [] pos) p) (.app o t)) (fun v h => ?_) h
    exact SS.app (ck_ok K ok o false si _ (bAnd (bAnd h).2).1) (ck_ok K ok t false si _ (bAnd (bAnd h).2).2) (bAnd h).1 h1 h2
  | .ext o t, si, e, h => by
    refine of_mcall (M := fun e => SS W n F si e (.ext o t)) (fun y es apos pos p h1 h2 h => ?_) h
    refine of_only (M := fun es => SS W n F si (.Expr (.Call (.Attribute y "extend" apos) es [] pos) p) (.ext o t)) (fun v h => ?_) h
    exact SS.ext (ck_ok K ok o false si _ (bAnd (bAnd h).2).1) (ck_ok K ok t false si _ (bAnd (bAnd h).2).2) (bAnd h).1 h1 h2
  | .rev o, si, e, h => by
    refine of_mcall (M := fun e => SS W n F si e (.rev o)) (fun y es apos pos p h1 h2 h => ?_) h
    refine nilE (M := fun es => SS W n F si (.Expr (.Call (.Attribute y "reverse" apos) es [] pos) p) (.rev o)) ?_ (bAnd h).1
    exact SS.rev (ck_ok K ok o false si _ (bAnd h).2) h1 h2
  | .iff t a b, si, e, h => of_rIf (M := fun e => SS W n F si e (.iff t a b)) (fun x p q r h => SS.iff (ck_ok K ok t true si _ (bAnd h).1) (ckX_ok K ok a si _ (bAnd (bAnd h).2).1) (ckX_ok K ok b si _ (bAnd (bAnd h).2).2)) h
  | .whl t a, si, e, h => by
    refine of_rWhile (M := fun e => SS W n F si e (.whl t a)) (fun x p q r h => ?_) h
    refine nilE (M := fun q => SS W n F si (.While x p q r) (.whl t a)) ?_ (bAnd h).1
    exact SS.whl (ck_ok K ok t true si _ (bAnd (bAnd h).2).1) (ckX_ok K ok a si _ (bAnd (bAnd h).2).2)
  | .forr i t a, si, e, h => by
    refine of_rFor (M := fun e => SS W n F si e (.forr i t a)) (fun x it p q r h => ?_) h
    refine nilE (M := fun q => SS W n F si (.For x it p q r) (.forr i t a)) ?_ (bAnd h).1
    refine of_rName (M := fun x => SS W n F si (.For x it p [] r) (.forr i t a)) (fun x px h => ?_) (bAnd h).2
    have h1 := bAnd (bAnd h).2
    have h2 := bAnd h1.2
    have h3 := bAnd h2.2
    exact SS.forr (ck_ok K ok t false si _ (bAnd h3.2).1) (ckX_ok K ok a si _ (bAnd h3.2).2) h3.1 (bDec (bAnd h).1) (bBeq h1.1) (bBeq h2.1)
  | .ret t, si, e, h => of_rReturn (M := fun e => SS W n F si e (.ret t)) (fun x p h => of_oS (M := fun x => SS W n F si (.Return x p) (.ret t)) (fun x h => SS.ret (ck_ok K ok t false si _ h)) h) h
  | .frzv _, si, e, h => by cases h
theorem ckX_ok {c : Ck} (K : CkOk W c) (ok : CallOk W n F) : ∀ (ts : List S) (si : SI) (es : List Stmt), ckX c ts si es = true → SX W n F si es ts
  | [], si, es, h => nilE (M := fun es => SX W n F si es []) SX.nil h
  | t :: ts, si, es, h =>
    condE h (fun hf h => isFrz_of (M := fun t => SX W n F si es (t :: ts)) (fun i => SX.frz (ckX_ok K ok ts si es h)) hf) fun _ h =>
      bOr h (fun hb => isBotS_of (M := fun t => SX W n F si es (t :: ts)) SX.bot hb) fun h => of_l1 (M := fun es => SX W n F si es (t :: ts)) (fun e r h => SX.cons (ckS_ok K ok t si _ (bAnd h).1) (ckX_ok K ok ts si _ (bAnd h).2)) h
end
end
end Mine

namespace Mine
open PySem PySem.W PySem.Calls PyProof.Rows
noncomputable def simplePar (p : Arguments) (names : List Str) : Bool := p.posonlyargs.isEmpty && (p.args.map (·.arg) == names && (p.vararg.isNone && (p.kwonlyargs.isEmpty && p.kwarg.isNone)))
section
variable {M : Model} {A : Around} {E : Value → Shared → Prop} {s : Shared}
theorem wpAny_forIn_pure {α β : Type} {f : α → β → Sem (ForInStep β)} {g : β → α → β} (hf : ∀ x b, f x b = pure (.yield (g b x))) : ∀ {l : List α} {b : β} {Q : β → Shared → Prop}, Q (l.foldl g b) s → wpAny M A (forIn l b f) Q E s
  | [], b, Q, h => by rw [List.forIn_nil]; exact wpAny_pure h
  | x :: l, b, Q, h => by
    rw [List.forIn_cons, hf]
    refine wpAny_bind (wpAny_pure ?_)
    exact wpAny_forIn_pure hf h
end
theorem lookup_out {α : Type} {n : Str} : ∀ {l : List (Str × α)}, n ∉ l.map (·.1) → l.lookup n = none
  | [], _ => rfl
  | (k, v) :: r, h => by
    simp only [List.map_cons, List.mem_cons, not_or] at h
    rw [List.lookup_cons, show (n == k) = false from beq_eq_false_iff_ne.mpr h.1]
    exact lookup_out h.2
theorem lookup_in {α : Type} {n : Str} {l : List (Str × α)} (h : n ∈ l.map (·.1)) : (l.lookup n).isNone = false := by
  induction l with
  | nil => cases h
  | cons p r ih =>
    rw [List.lookup_cons]
    split
    · rfl
    · rename_i hk
      simp only [List.map_cons, List.mem_cons] at h
      rcases h with h | h
      · rw [h] at hk; simp at hk
      · exact ih h
theorem fold_slots {α : Type} : ∀ {l s : List (Str × α)}, (l.map (·.1)).Nodup → (∀ n ∈ l.map (·.1), n ∉ s.map (·.1)) → l.foldl (fun s x => if (s.lookup x.1).isNone = true then s ++ [(x.1, x.2)] else s) s = s ++ l
  | [], s, _, _ => by simp
  | (k, v) :: r, s, h1, h2 => by
    rw [List.map_cons, List.nodup_cons] at h1
    have h3 : s.lookup k = none := lookup_out (h2 k (by simp))
    rw [List.foldl_cons]
    simp only [h3, Option.isNone_none, if_true]
    rw [fold_slots h1.2]
    · simp
    · intro n hn hm
      rw [List.map_append, List.mem_append] at hm
      rcases hm with hm | hm
      · exact h2 n (by simp [hn]) hm
      · simp at hm; exact h1.1 (hm ▸ hn)
theorem filterMap_same {α β : Type} {f g : α → Option β} : ∀ {l : List α}, (∀ x ∈ l, f x = g x) → l.filterMap f = l.filterMap g
  | [], _ => rfl
  | x :: l, h => by
    rw [List.filterMap_cons, List.filterMap_cons, h x (by simp), filterMap_same fun y hy => h y (by simp [hy])]
theorem zip_slots {α : Type} : ∀ {ns : List Str} {vs : List α}, ns.Nodup → ns.length = vs.length → ns.filterMap (fun n => ((ns.zip vs).lookup n).map (n, ·)) = ns.zip vs
  | [], _, _, _ => rfl
  | n :: ns, [], _, h => by simp at h
  | n :: ns, v :: vs, h1, h2 => by
    rw [List.nodup_cons] at h1
    have ih := zip_slots h1.2 (by simpa using h2)
    rw [List.zip_cons_cons, List.filterMap_cons]
    simp only [List.lookup_cons, beq_self_eq_true, Option.map_some]
    congr 1
    conv => rhs; rw [← ih]
    refine filterMap_same fun m hm => ?_
    have : (m == n) = false := beq_eq_false_iff_ne.mpr fun q => h1.1 (q ▸ hm)
    rw [this]

theorem fold_skip {α : Type} : ∀ {l s : List (Str × α)}, (∀ n ∈ l.map (·.1), n ∈ s.map (·.1)) → l.foldl (fun s x => if (s.lookup x.1).isNone = true then s ++ [(x.1, x.2)] else s) s = s
  | [], s, _ => rfl
  | (k, v) :: r, s, h => by
    rw [List.foldl_cons]
    simp only [lookup_in (h k (by simp)), Bool.false_eq_true, if_false]
    exact fold_skip fun n hn => h n (by simp [hn])
theorem slots_eq {ns : List Str} {vs ex dvals : List Value} (hn : ns.Nodup) (hl : vs.length + dvals.length = ns.length) (hx : ex.length ≤ vs.length) :
    ((ns.take (vs.length - ex.length)).filter fun n => ((ns.zip vs).lookup n).isNone) = [] ∧
    ns.filterMap (fun n => (((((ns.drop (vs.length - ex.length)).zip (ex ++ dvals)).foldl (fun s x => if (s.lookup x.1).isNone = true then s ++ [(x.1, x.2)] else s) (ns.zip vs)).lookup n).map (n, ·))) = ns.zip (vs ++ dvals) := by
  obtain ⟨a, b, rfl, ha⟩ : X2 fun a b => ns = a ++ b ∧ a.length = vs.length := ⟨ns.take vs.length, ns.drop vs.length, (List.take_append_drop _ _).symm, by rw [List.length_take]; omega⟩
  have hb : b.length = dvals.length := by rw [List.length_append] at hl; omega
  have z1 : (a ++ b).zip vs = a.zip vs := by
    have := List.zip_append (l₁ := a) (r₁ := b) (l₂ := vs) (r₂ := ([] : List Value)) ha
    rwa [List.append_nil, List.zip_nil_right, List.append_nil] at this
  have z2 : (a ++ b).zip (vs ++ dvals) = a.zip vs ++ b.zip dvals := List.zip_append ha
  have ka : (a.zip vs).map (·.1) = a := List.map_fst_zip (Nat.le_of_eq ha)
  have hle : vs.length - ex.length ≤ a.length := by omega
  have hn' := List.nodup_append.mp hn
  constructor
  · rw [List.filter_eq_nil_iff, List.take_append_of_le_length hle, z1]
    intro n hin
    rw [lookup_in (by rw [ka]; exact List.mem_of_mem_take hin)]
    exact Bool.false_ne_true
  · rw [List.drop_append_of_le_length hle, List.zip_append (by rw [List.length_drop]; omega), List.foldl_append, z1,
      fold_skip (l := (a.drop (vs.length - ex.length)).zip ex) fun n hin => by
        rw [ka]; rw [List.map_fst_zip (by rw [List.length_drop]; omega)] at hin; exact List.mem_of_mem_drop hin,
      fold_slots (by rw [List.map_fst_zip (Nat.le_of_eq hb)]; exact hn'.2.1) fun n hin hm => by
        rw [List.map_fst_zip (Nat.le_of_eq hb)] at hin
        rw [ka] at hm
        exact hn'.2.2 n hm n hin rfl, ← z2]
    exact zip_slots hn (by rw [List.length_append (as := vs)]; omega)
theorem wp_ifn {α : Type} {M : Model} {A : Around} {E : Value → Shared → Prop} {s : Shared} {c : Prop} [Decidable c] {x y : Sem α} {Q : α → Shared → Prop} (h : ¬ c) (k : wpAny M A y Q E s) : wpAny M A (if c then x else y) Q E s := by rw [if_neg h]; exact k
theorem binds_gen {s : Shared} {fd : FuncData} {names : List Str} {vs ex dvals : List Value} (hp : simplePar fd.params names = true) (hn : names.Nodup) (hl : vs.length + dvals.length = names.length) (hx : ex.length ≤ vs.length)
   (hd : ∀ (M : Model) (A : Around) (E : Value → Shared → Prop) (Q : Option (Array Value) → Shared → Prop), (∀ o, (o.getD #[]).toList = ex ++ dvals → Q o s) → wpAny M A (seqItems? fd.defaults) Q E s) :
   BindsTo s fd ⟨vs, []⟩ (names.zip (vs ++ dvals)) := by
  obtain ⟨gn, gq, ⟨po, ar, va, ko, kd, kw, df⟩, gb, gs, gg, gc, gd, gk, gdoc, gm, ga, gcode, gct, gbl⟩ := fd
  replace hp : (po.isEmpty && (ar.map (·.arg) == names && (va.isNone && (ko.isEmpty && kw.isNone)))) = true := hp
  replace hd : ∀ (M : Model) (A : Around) (E : Value → Shared → Prop) (Q : Option (Array Value) → Shared → Prop), (∀ o, (o.getD #[]).toList = ex ++ dvals → Q o s) → wpAny M A (seqItems? gd) Q E s := hd
  cases List.isEmpty_iff.mp (bAnd hp).1
  replace hp := (bAnd hp).2
  cases bBeq (bAnd hp).1
  replace hp := (bAnd hp).2
  cases Option.isNone_iff_eq_none.mp (bAnd hp).1
  replace hp := (bAnd hp).2
  cases List.isEmpty_iff.mp (bAnd hp).1
  cases Option.isNone_iff_eq_none.mp (bAnd hp).2
  clear hp
  intro M A E Q hq
  refine wpAny_bind (show wpAny M A (forIn [] _ _) _ _ _ from wpAny_pure ?_)
  refine wpAny_bind (hd _ _ _ _ fun o ho => ?_)
  have se := slots_eq hn hl hx
  have d0 : List.drop ((o.getD #[]).toList.length - (ar.map (·.arg)).length) (o.getD #[]).toList = ex ++ dvals := by
    rw [ho, Nat.sub_eq_zero_of_le (by rw [List.length_append]; omega), List.drop_zero]
  have d1 : (ar.map (·.arg)).length - (List.drop ((o.getD #[]).toList.length - (ar.map (·.arg)).length) (o.getD #[]).toList).length = vs.length - ex.length := by
    rw [d0, List.length_append]; omega
  refine wp_ifn (fun h => Nat.not_lt.mpr (Nat.le.intro hl) (bDec (bAnd h).1)) (wp_ifn (fun h => ?_) (wpAny_bind (wpAny_forIn_pure (g := fun s x => if (s.lookup x.1).isNone = true then s ++ [(x.1, x.2)] else s) (fun x b => ?_)
    (wpAny_bind (show wpAny M A (forIn [] _ _) _ _ _ from wpAny_pure (wp_ifn (fun h => nomatch h) (wpAny_pure ?_)))))))
  · have h : (!(List.filter (fun n => (List.lookup n ((ar.map (·.arg)).zip vs)).isNone) (List.take ((ar.map (·.arg)).length - (List.drop ((o.getD #[]).toList.length - (ar.map (·.arg)).length) (o.getD #[]).toList).length) (ar.map (·.arg)))).isEmpty) = true := h
    rw [d1, se.1] at h
    cases h
  · show (if _ then _ else _) = _
    split <;> rfl
  · have hz : List.filterMap (fun n => (((((ar.map (·.arg)).drop ((ar.map (·.arg)).length - (List.drop ((o.getD #[]).toList.length - (ar.map (·.arg)).length) (o.getD #[]).toList).length)).zip (List.drop ((o.getD #[]).toList.length - (ar.map (·.arg)).length) (o.getD #[]).toList)).foldl (fun s x => if (s.lookup x.1).isNone = true then s ++ [(x.1, x.2)] else s) ((ar.map (·.arg)).zip vs)).lookup n).map (n, ·)) ((ar.map (·.arg)) ++ []) = (ar.map (·.arg)).zip (vs ++ dvals) := by
      rw [List.append_nil, d1, d0]; exact se.2
    exact Eq.mpr (congrArg (fun l => Q l s) hz) hq

/-! the whole test of the text -/
noncomputable def dO {p : Prop} [Decidable p] {α : Type} (g : p → Option α) : Option α := if h : p then g h else none
theorem of_dO {p : Prop} [Decidable p] {α : Type} {g : p → Option α} {z : α} {P : Prop} (h : dO g = some z) (k : ∀ hp, g hp = some z → P) : P := by
  unfold dO at h
  split at h
  · exact k _ h
  · cases h
noncomputable def refOf (v : Value) : Option Addr := dO fun h : v.ctorIdx = 10 => @Value.ref.elim (fun _ => Option Addr) v h some
theorem of_refOf {v : Value} {a : Addr} (h : refOf v = some a) : v = .ref a :=
  of_dO h fun hc h => @Value.ref.elim (fun v => ∀ hc : v.ctorIdx = 10, @Value.ref.elim (fun _ => Option Addr) v hc some = some a → v = .ref a) v hc (fun b _ h => congrArg Value.ref (Option.some.inj h)) hc h
noncomputable def seqOf (d : Data) : Option (Array Value) := dO fun h : d.ctorIdx = 2 => @Data.seq.elim (fun _ => Option (Array Value)) d h fun a _ => some a
theorem of_seqOf {d : Data} {a : Array Value} (h : seqOf d = some a) : ∃ n, d = .seq a n :=
  of_dO h fun hc h => @Data.seq.elim (fun d => ∀ hc : d.ctorIdx = 2, @Data.seq.elim (fun _ => Option (Array Value)) d hc (fun a _ => some a) = some a → ∃ n, d = .seq a n) d hc (fun b n _ h => ⟨n, by rw [Option.some.inj h]⟩) hc h
noncomputable def rFunc (f : FuncData → Bool) (d : Data) : Bool := dB fun h : d.ctorIdx = 7 => @Data.func.elim (fun _ => Bool) d h f
theorem of_rFunc {f : FuncData → Bool} {M : Data → Prop} {d : Data} (k : ∀ g, f g = true → M (.func g)) (h : rFunc f d = true) : M d :=
  of_dB h fun hc h => @Data.func.elim (fun d => ∀ hc : d.ctorIdx = 7, @Data.func.elim (fun _ => Bool) d hc f = true → M d) d hc (fun g _ h => k g h) hc h
noncomputable def rStmts (f : List Stmt → Bool) (d : FuncBody) : Bool := dB fun h : d.ctorIdx = 0 => @FuncBody.stmts.elim (fun _ => Bool) d h f
theorem of_rStmts {f : List Stmt → Bool} {M : FuncBody → Prop} {d : FuncBody} (k : ∀ g, f g = true → M (.stmts g)) (h : rStmts f d = true) : M d :=
  of_dB h fun hc h => @FuncBody.stmts.elim (fun d => ∀ hc : d.ctorIdx = 0, @FuncBody.stmts.elim (fun _ => Bool) d hc f = true → M d) d hc (fun g _ h => k g h) hc h
noncomputable def dvOk (v : Value) (d : D) : Bool := match d with
  | .none => decide (v.ctorIdx = 0)
  | .bool b => dB fun h : v.ctorIdx = 3 => @Value.bool.elim (fun _ => Bool) v h fun c => c == b
  | .int i => dB fun h : v.ctorIdx = 4 => @Value.int.elim (fun _ => Bool) v h fun j _ => j == i
  | .str x => dB fun h : v.ctorIdx = 6 => @Value.str.elim (fun _ => Bool) v h fun y _ => y == x
  | _ => false
noncomputable def dvsOk : List D → List Value → Bool
  | [], vs => vs.isEmpty
  | d :: ds, vs => l1 (fun v r => dvOk v d && dvsOk ds r) vs
theorem dvOk_rep {W : Wo} {v : Value} {d : D} (h : dvOk v d = true) (Z : Led) : Rep W Z v d := by
  cases d with
  | none => exact @Value.none.elim (fun v => Rep W Z v .none) v (bDec h) .none
  | bool b => exact of_dB h fun hc h => @Value.bool.elim (fun v => ∀ hc : v.ctorIdx = 3, @Value.bool.elim (fun _ => Bool) v hc (fun c => c == b) = true → Rep W Z v (.bool b)) v hc (fun c _ h => beqE (M := fun c => Rep W Z (.bool c) (.bool b)) (.bool b) h) hc h
  | int i => exact of_dB h fun hc h => @Value.int.elim (fun v => ∀ hc : v.ctorIdx = 4, @Value.int.elim (fun _ => Bool) v hc (fun c _ => c == i) = true → Rep W Z v (.int i)) v hc (fun c t _ h => beqE (M := fun c => Rep W Z (.int c t) (.int i)) (.int i t) h) hc h
  | str x => exact of_dB h fun hc h => @Value.str.elim (fun v => ∀ hc : v.ctorIdx = 6, @Value.str.elim (fun _ => Bool) v hc (fun c _ => c == x) = true → Rep W Z v (.str x)) v hc (fun c t _ h => beqE (M := fun c => Rep W Z (.str c t) (.str x)) (.str x t) h) hc h
  | _ => cases h
theorem dvsOk_dflt {W : Wo} : ∀ {ds : List D} {vs : List Value}, dvsOk ds vs = true → Dflt W vs ds
  | [], _, h => nilE (M := fun vs => Dflt W vs []) .nil h
  | d :: ds, _, h => of_l1 (M := fun vs => Dflt W vs (d :: ds)) (fun v r h => .cons (dvOk_rep (bAnd h).1) (dvsOk_dflt (bAnd h).2)) h
noncomputable def dfltOf (K : Frag) (dV : Value) (n : Nat) : Option (List Value × List Value) := if dV.ctorIdx = 0 then some ([], []) else
  (refOf dV).bind fun T => (K.lookup T).bind fun o => (seqOf o.data).map fun items => (items.toList.take (items.toList.length - n), items.toList.drop (items.toList.length - n))
theorem dfltOf_ok {K : Frag} {s : Shared} {dV : Value} {n : Nat} {ex dv : List Value} (h : dfltOf K dV n = some (ex, dv)) (X : K.In s.heap) (M : Model) (A : Around) (E : Value → Shared → Prop) (Q : Option (Array Value) → Shared → Prop)
    (hq : ∀ o, (o.getD #[]).toList = ex ++ dv → Q o s) : wpAny M A (seqItems? dV) Q E s := by
  unfold dfltOf at h
  split at h
  · rename_i hc
    cases h
    exact @Value.none.elim (fun v => wpAny M A (seqItems? v) Q E s) dV hc (wpAny_pure (hq _ rfl))
  · obtain ⟨T, h1, g1⟩ := of_bind h
    obtain ⟨o, h2, g2⟩ := of_bind g1
    obtain ⟨a, h3, g3⟩ := of_map g2
    obtain ⟨k, h4⟩ := of_seqOf h3
    cases of_refOf h1
    cases g3
    exact wpAny_seqItems (X _ _ h2) h4 (hq _ (List.take_append_drop _ _).symm)

noncomputable def ckSI (sc : Scope) (nm : List Str) (nf : Nat) : SI := ⟨sc, nm, nf, none⟩
noncomputable def chkFn (K : Frag) (c : Ck) (a : Addr) (nm : List Str) (nf : Nat) (fd : Fun) : Bool := (K.lookup a).any fun o => rFunc (fun g => rStmts (fun body =>
    g.globals == mainGlobals && (g.closure.isEmpty && (g.builtins == builtinsNs && (codeIn K g.code g.qualname && (simplePar g.params (nm.take fd.np)
        && ((dfltOf K g.defaults fd.dflt.length).any (fun q => dvsOk fd.dflt q.2 && decide (q.1.length + fd.dflt.length ≤ fd.np))
        && (g.scope.kind == .function && (!g.scope.isCoroutine && (!g.scope.isGenerator && (decide ((cellsFrom 0 g.scope.names []).map (·.1)).Nodup && ((nm.take fd.np).all (storable (ckSI g.scope nm nf))
        && (decide (fd.np ≤ nf) && (decide (nf ≤ nm.length) && (decide (nm.take nf).Nodup && ckX c fd.body (ckSI g.scope nm nf) body)))))))))))))) g.body) o.data
theorem bNot {b : Bool} (h : (!b) = true) : b = false := Bool.not_eq_true' b ▸ h
theorem Dflt.len {W : Wo} : ∀ {vs : List Value} {ds : List D}, Dflt W vs ds → vs.length = ds.length
  | _, _, .nil => rfl
  | _, _, .cons _ r => congrArg (· + 1) r.len
theorem chkFn_ok {W : Wo} {c : Ck} (K : CkOk W c) {a : Addr} {nm : List Str} {nf : Nat} {fd : Fun} (h : chkFn W.K c a nm nf fd = true) : X2 fun si body => FnOk W a si body fd ∧ ∀ n F, CallOk W n F → SX W n F si body fd.body := by
  refine anyE h fun o hk h => ?_
  obtain ⟨oc, od, dt, osl⟩ := o
  revert hk
  refine of_rFunc (M := fun dt => W.K.lookup a = some ⟨oc, od, dt, osl⟩ → X2 fun si body => FnOk W a si body fd ∧ ∀ n F, CallOk W n F → SX W n F si body fd.body) (fun g hg hk => ?_) h
  clear h
  obtain ⟨gn, gq, gp, gb, gs, gg, gc, gd, gk, gdoc, gm, ga, gcode, gct, gbl⟩ := g
  revert hk
  refine of_rStmts (M := fun gb => W.K.lookup a = some ⟨oc, od, .func ⟨gn, gq, gp, gb, gs, gg, gc, gd, gk, gdoc, gm, ga, gcode, gct, gbl⟩, osl⟩ → X2 fun si body => FnOk W a si body fd ∧ ∀ n F, CallOk W n F → SX W n F si body fd.body) (fun body h hk => ?_) hg
  clear hg
  cases bBeq (bAnd h).1
  replace h := (bAnd h).2
  cases List.isEmpty_iff.mp (bAnd h).1
  replace h := (bAnd h).2
  cases bBeq (bAnd h).1
  replace h := bAnd (bAnd h).2
  have h5 := bAnd h.2
  have h6 := bAnd h5.2
  have h7 := bAnd h6.2
  have h8 := bAnd h7.2
  have h9 := bAnd h8.2
  have h10 := bAnd h9.2
  have h11 := bAnd h10.2
  have h12 := bAnd h11.2
  have h13 := bAnd h12.2
  have h14 := bAnd h13.2
  refine anyE h6.1 fun q hdv hq => ?_
  have hD : Dflt W q.2 fd.dflt := dvsOk_dflt (bAnd hq).1
  have hle := bDec (bAnd hq).2
  have hdl := hD.len
  have np := bDec h12.1
  have hnp : (nm.take fd.np).length = fd.np := by rw [List.length_take]; exact Nat.min_eq_left (Nat.le_trans np (bDec h13.1))
  have hnn : (nm.take fd.np).Nodup := by
    rw [show nm.take fd.np = (nm.take nf).take fd.np by rw [List.take_take, Nat.min_eq_left np]]
    exact (bDec h14.1).sublist (List.take_sublist _ _)
  exact ⟨ckSI gs nm nf, body, ⟨⟨oc, od, osl, gn, gq, gp, gd, gk, gdoc, gm, ga, gcode, gct, q.2, hk, h.1, hD, fun s vs X hl =>
    binds_gen h5.1 hnn (hl.trans hnp.symm) (by omega) (dfltOf_ok (ex := q.1) (dv := q.2) hdv X)⟩, rfl, bBeq h7.1, bNot h8.1, bNot h9.1, bDec h10.1, List.all_eq_true.mp h11.1, np, bDec h13.1, bDec h14.1⟩, fun n F ok => ckX_ok K ok _ _ _ h14.2⟩

noncomputable def attrNames : List Str := ["kind", "items", "attrs", "shared", "loose", "rows", "columns", "row_names", "column_names", "row_title", "column_title", "to_left"]
noncomputable def an0 (n : Nat) : Str := match attrNames[n]? with
  | some x => x
  | none => ⟨Array.replicate (n + 100) 120⟩
noncomputable def ca0 : Nat → Addr
  | 0 => 159
  | 1 => 188
  | 2 => 296
  | _ => 0
noncomputable def fa0 (f : Nat) : Addr := if f = 900 then 388 else if f < 1000 then f else ca0 (f - 1000)
noncomputable def nm0 : Names := ⟨an0, ca0, fa0, fun _ => ""⟩
theorem an0_size {n : Nat} (h : n < 12) : (an0 n).cps.size < 100 := by
  have : ∀ k : Fin 12, (an0 k.1).cps.size < 100 := by decide +kernel
  exact this ⟨n, h⟩
theorem an0_far {n : Nat} (h : 12 ≤ n) : an0 n = ⟨Array.replicate (n + 100) 120⟩ := by
  unfold an0
  have : attrNames[n]? = none := List.getElem?_eq_none_iff.mpr h
  rw [this]
theorem an0_inj (a b : Nat) (h : an0 a = an0 b) : a = b := by
  rcases Nat.lt_or_ge a 12 with ha | ha <;> rcases Nat.lt_or_ge b 12 with hb | hb
  · have : ∀ i j : Fin 12, an0 i.1 = an0 j.1 → i.1 = j.1 := by decide +kernel
    exact this ⟨a, ha⟩ ⟨b, hb⟩ h
  · have := an0_size ha
    rw [h, an0_far hb] at this
    simp at this
    omega
  · have := an0_size hb
    rw [← h, an0_far ha] at this
    simp at this
    omega
  · rw [an0_far ha, an0_far hb] at h
    have : (Array.replicate (a + 100) 120).size = (Array.replicate (b + 100) 120).size := by rw [Str.mk.inj h]
    simp at this
    omega
noncomputable def gOf (K : Frag) (f : Nat) (x : Str) : Bool := nsIn K mainGlobals x == some (some (.ref (fa0 f))) && keepIn K (.ref (fa0 f))
noncomputable def gvOf (K : Frag) (x : Str) (d : D) : Bool := (nsIn K mainGlobals x).any fun o => o.any fun v => dvOk v d
noncomputable def ckOf (K : Frag) : Ck := ⟨gOf K, gvOf K, an0⟩
noncomputable def biAll : List Bi := [.len, .str, .abs, .max2, .max1, .ord, .range1, .range2, .range3, .list1, .sum1]
noncomputable def chkBi (K : Frag) : Bool := biAll.all fun b => nsIn K mainGlobals (biName b) == some none
noncomputable def chkCls (K : Frag) : Bool := (List.range 3).all fun c => (List.range 12).all fun n =>
  plainGet K (ca0 c) (an0 n) && (hasDictIn K (ca0 c) && ((findIn K (.ref (ca0 c)) (an0 n)).any (noGet K) && (findIn K (.ref (ca0 c)) (PySem.Str.ofString "__setattr__") == some (some (.builtin "object.__setattr__")) && (plainOver K (ca0 c) && takerIn K (ca0 c) (an0 n) == some none))))
theorem ckOf_ok {W : Wo} (hn : W.nm = nm0) (h1 : chkBi W.K = true) (h2 : chkCls W.K = true) : CkOk W (ckOf W.K) := by
  unfold chkBi at h1
  unfold chkCls at h2
  have h2 := fun c hc n hk => bAnd (List.all_eq_true.mp (List.all_eq_true.mp h2 c (List.mem_range.mpr hc)) n (List.mem_range.mpr hk))
  refine ⟨⟨fun a b h => an0_inj a b (by rw [hn] at h; exact h), fun c n hc hk => ?_, fun c n hc hk => ?_⟩, fun f x h => ?_, fun x d h => ?_, by rw [hn]; rfl, fun b => ?_⟩
  · rw [hn]
    have a := h2 c hc n hk
    exact ⟨a.1, (bAnd a.2).1, anyE (bAnd (bAnd a.2).2).1 fun o ho h => ⟨o, ho, h⟩⟩
  · rw [hn]
    have a := bAnd (bAnd (bAnd (h2 c hc n hk).2).2).2
    exact ⟨bBeq a.1, (bAnd a.2).1, bBeq (bAnd a.2).2⟩
  · rw [hn]
    exact ⟨bBeq (bAnd h).1, (bAnd h).2⟩
  · exact anyE h fun o ho h => anyE h fun v hv h => ⟨v, by rw [ho, hv], dvOk_rep h⟩
  · exact bBeq (List.all_eq_true.mp h1 b (by cases b <;> decide))

noncomputable def tabN : List (Nat × List Str × Nat) := [(28, n_get_attr, 2), (33, n_names_of, 5), (40, n_dim_of, 2), (45, n_dimnames_of, 2), (52, n_nearest_whole, 4), (59, n_exponent, 4), (66, n_whole_text, 4), (73, n_special_text, 1), (80, n_scaled, 4), (87, n_significant, 4), (94, n_without_tail, 2), (108, n_fixed_text, 4), (115, n_measures, 7), (122, n_chosen_form, 11), (129, n_formed, 3), (134, n_common_texts, 4), (206, n_is_atomic, 1), (213, n_escaped_char, 3), (218, n_encode_text, 3), (225, n_logical_text, 1), (232, n_integer_text, 1), (240, n_format_item, 4), (246, n_item_texts, 3), (253, n_widest, 3), (305, n_shown_names, 1), (312, n_row_offset, 2), (319, n_label_room, 1), (326, n_row_label, 4), (333, n_column_head, 2), (340, n_padded, 3), (347, n_block_rows, 10), (354, n_layout_rows, 10), (361, n_cell_texts, 5), (368, n_titles_of, 2), (375, n_matrix_layout, 8), (382, n_name_layout, 3), (388, n_print_matrix, 8), (900, n_print_matrix, 8), (395, n_slice_label, 9), (401, n_print_array, 13), (408, n_law_pick, 4), (415, n_law_words, 0), (422, n_law_shown, 4), (429, n_law_decimals, 1), (436, n_law_figure, 5), (441, n_law_texts, 4), (448, n_law_items, 6), (453, n_law_wide, 1), (458, n_law_block, 15), (463, n_law_laid, 10)]
noncomputable def nmOf (f : Nat) : List Str × Nat := (tabN.lookup f).getD ([], 0)
noncomputable def chkP (K : Frag) : Bool := tabP.all fun p => chkFn K (ckOf K) (fa0 p.1) (nmOf p.1).1 (nmOf p.1).2 p.2
noncomputable def nmC : Nat → List Str
  | 0 => n_iNull
  | 1 => n_iVector
  | _ => n_iLayout
noncomputable def chkC (K : Frag) : Bool := tabC.all fun p => ca0 p.1 == fa0 (1000 + p.1) && (makesIn K (fa0 (1000 + p.1)) && (findIn K (.ref (fa0 (1000 + p.1))) "__init__").any fun o => o.any fun v => (refOf v).any fun f =>
  isFn K (.ref f) && chkFn K (ckOf K) f (nmC p.1) (nmC p.1).length p.2)
theorem tabMem {α : Type} {k : Nat} {v : α} : ∀ {l : List (Nat × α)}, l.lookup k = some v → (k, v) ∈ l
  | [], h => by cases h
  | (a, b) :: r, h => by
    rw [List.lookup_cons] at h
    split at h
    · rename_i hk
      cases h
      rw [eq_of_beq hk]; exact List.mem_cons_self
    · exact List.mem_cons_of_mem _ (tabMem h)
theorem allOk {W : Wo} (hn : W.nm = nm0) (K : CkOk W (ckOf W.K)) (h1 : chkP W.K = true) (h2 : chkC W.K = true) : AllOk W P0 C0 := by
  unfold chkP at h1
  unfold chkC at h2
  refine ⟨fun f fd hf hp => ?_, fun c fd hc => ?_⟩
  · rw [hn]
    have h := List.all_eq_true.mp h1 (f, fd) (tabMem hp)
    exact chkFn_ok K h
  · rw [hn]
    have h := List.all_eq_true.mp h2 (c, fd) (tabMem hc)
    have a := bAnd h
    have b := bAnd a.2
    refine anyE b.2 fun o ho h => anyE h fun v hv h => anyE h fun f hf h => ?_
    obtain ⟨si, body, ok, hb⟩ := chkFn_ok K (bAnd h).2
    exact ⟨f, si, body, bBeq a.1, b.1, ho.trans (congrArg some (hv.trans (congrArg some (of_refOf hf)))), (bAnd h).1, ok, hb⟩
end Mine

namespace Mine
open PySem PySem.W PySem.Calls PyProof.Rows

theorem ints_reps {W : Wo} {Z : Led} : ∀ {vs : List Value} {ns : List Int}, IntsAre vs ns → Reps W Z vs (ns.map .int) := by
  intro vs ns h
  induction h with
  | nil => exact .nil
  | cons n t _ ih => exact .cons (.int n t) ih
theorem cut63 {α : Type} (l : List α) : cut none (some 63) l = l.take 63 := by
  unfold cut kms_lo kms_hi
  simp only [List.drop_zero, Nat.sub_zero]
  rw [if_neg (by omega)]
  rw [show (63 : Int).toNat = 63 from rfl, ← List.take_take, List.take_length]

/-- the law's first statement by hand, the rest by the small language -/
theorem law_body {W : Wo} {n : Nat} {F : Fns} {si : SI} {h₀ : Heap} {L : Addr} {env : Env} {A : Around} {s : Shared} {Q : Flow → Shared → Prop} {E : Value → Shared → Prop} {m cm : Str → Option Value} {V : Led} {a : Addr} {vs : List Value} {ns : List Int}
    {p1 p2 p3 p4 p5 p6 : Pos} {k ln : Nat} {rest : List Stmt} {ts : List S} {ρ' : Slots} {σ' : Store}
    (act : Act W n A h₀ L env) (st : Stat si env L) (are : CellsAre cm env.cells V) (hc : env.cells = cellsFrom (L + 1) si.scope.names []) (S : St W [] [] [] V [] [] h₀ L m s.heap)
    (hm : m "script" = some (.ref a)) (k1 : si.scope.names.lookup ("script" : Str) = some .local) (k2 : si.scope.names.lookup ("cells" : Str) = some .local) (n1 : si.nm[1]? = some ("cells" : Str)) (hnf : 1 < si.nf) (hnd : (si.nm.take si.nf).Nodup)
    (hl : h₀.IsList a vs.toArray) (hI : IntsAre vs ns) (hlen : ns.length ≤ 63) (hx : SX W n F si rest ts)
    (he : evSs F ts ((List.replicate ln none).set 1 (some (.val (.list (ns.map .int))))) [] = some (.ret (.val (.bool true)), ρ', σ'))
    (fin : ∀ h' tk' m', Fr h₀ L h' m' → Q (.ret (.bool true)) { s with heap := h', toks := tk' }) :
    wpAny (model W.prog W.w) A (execs (.Assign [.Name "cells" p1] (.Subscript (.Name "script" p2) (.Slice none (some (.Constant (.int 63) k p3)) none p4) p5) p6 :: rest) env) Q E s := by
  have hke : env.scope.kind = .function := by rw [st.scope]; exact st.kind
  have q1 : env.kindOf "script" = some .local := by show env.scope.names.lookup _ = _; rw [st.scope]; exact k1
  have q2 : env.kindOf "cells" = some .local := by show env.scope.names.lookup _ = _; rw [st.scope]; exact k2
  refine wpAny_execs_cons (wpAny_Assign_Name ?_ rfl)
  refine Subscript_ (wpAny_Name (wpAny_loadName_local hke q1 (by rw [st.loc]; exact S.fr.ns) hm ?_) (by decide))
  refine wpAny_Slice (wpAny_evalPart_none (wpAny_evalPart_some (wpAny_Constant_int (wpAny_evalPart_none ?_))))
  have hls : s.heap.IsList a vs.toArray := by
    obtain ⟨o, ho, r⟩ := hl
    exact ⟨o, S.fr.keep _ _ ho, r⟩
  have hsl : ∀ tk : Tok, (s.heap.push { cls := .type "slice", data := .fields #[.none, .int 63 tk, .none] }).get? s.heap.objs.size = some { cls := .type "slice", data := .fields #[.none, .int 63 tk, .none] } := fun tk => Heap.get?_push_size _ rfl
  have hlp : ∀ tk : Tok, (s.heap.push { cls := .type "slice", data := .fields #[.none, .int 63 tk, .none] }).IsList a vs.toArray := fun tk => by
    obtain ⟨o, ho, r⟩ := hls
    exact ⟨o, Heap.get?_push_of_some _ ho, r⟩
  refine tail_any (hlp _).typeIs slot_list_getitem.lookup (wpAny_getItem_list_slice (lo := none) (hi := some 63) (st := none) (hlp _) ⟨_, hsl _, rfl, rfl⟩ .none (.int _ _) .none (by simp) ?_ (by
    have := (ints_reps (W := W) (Z := []) hI).length
    rw [List.size_toArray, this, sizeLine_eq]; simp; omega)) rfl
  rw [kms_pick_eq vs.toArray, List.toList_toArray]
  have F1 : Fr h₀ L (s.heap.push { cls := .type "slice", data := .fields #[.none, .int 63 s.toks, .none] }) m := S.fr.push _
  have N1 : News h₀ L (s.heap.push { cls := .type "slice", data := .fields #[.none, .int 63 s.toks, .none] }) ([].flatten ++ (V ++ ([] ++ []))) := fun q hq => ⟨Heap.get?_push_of_some _ (S.news q hq).1, (S.news q hq).2⟩
  have S1 := S.keep F1 N1
  have S2 := S1.alloc (o := lstO (kms_pick vs none (some 63)) 0) (F1.push _) (News.push F1 N1 (lstO (kms_pick vs none (some 63)) 0)) fun q hq => Heap.lt_size (N1 q hq).1
  refine wpAny_storeName_local q2 (by rw [st.loc]; exact S2.fr.ns) (fun h' hn hs => ?_) (by rw [hke]; rfl)
  rw [st.loc] at hn hs
  have S3 := S2.keep (S2.fr.set hn hs) (S2.news.set hs)
  show wpAny (model W.prog W.w) A (execs rest env) Q E _
  have fr0 : ∀ Z, FRel W si env L m cm V [] Z (List.replicate ln none) := by
    intro Z
    refine ⟨st.scope, st.loc, hc, are, fun i b x hs _ => ?_, fun i hi => ?_, hnd⟩
    · exfalso
      unfold slot at hs
      rw [List.getElem?_replicate] at hs
      split at hs
      · rename_i hb; split at hb <;> simp at hb
      · cases hs
    · unfold slot
      rw [List.getElem?_replicate]
      split
      · rename_i hb; split at hb <;> simp at hb
      · rfl
  have rr := cut_reps (lo := none) (hi := some 63) (ints_reps (W := W) (Z := []) hI)
  rw [cut63, List.take_of_length_le (by simpa using hlen)] at rr
  refine hx (cm := cm) (s := { s with heap := h', toks := _ }) act st ?fr S3 he ?rest
  case fr => exact (fr0 _).store hnf n1 (.val (.list List.mem_cons_self (rr.mono (Z' := _) (by intro p hp; simp at hp)))) are (.inl ⟨q2, by simp⟩) fun y hy => ⟨by simp [hy], rfl⟩
  case rest =>
    intro f h2 tk2 inj2 C2 V2 Z2 m2 cm2 S4 g4 fr4 fl4
    cases fl4 with
    | ret r => cases r with
      | val r => cases r; exact fin h2 tk2 m2 S4.fr
end Mine

namespace Mine
open PySem PySem.W PySem.Calls PyProof.Rows

noncomputable def lawRest (K : Frag) (sc : Scope) (rest : List Stmt) : Bool := ckX (ckOf K) s_law (ckSI sc n_law 20) rest && (sc.kind == .function && (sc.names.lookup ("script" : Str) == some .local && (sc.names.lookup ("cells" : Str) == some .local
      && (decide ((cellsFrom 0 sc.names []).map (·.1)).Nodup && decide (n_law.take 20).Nodup))))
noncomputable def lawChk (K : Frag) (sc : Scope) (body : List Stmt) : Bool := l1 (fun e rest => asgn (fun x v => rName (fun x1 _ => x1 == ("cells" : Str) && rSubscript (fun y z _ => rName (fun x2 _ => x2 == ("script" : Str) &&
  rSlice (fun l h s _ => oN l && (oN s && oS (fun c => rConstant (fun k _ _ => k == .int 63 && lawRest K sc rest) c) h)) z) y) v) x) e) body
theorem of_lawChk {K : Frag} {sc : Scope} {M : List Stmt → Prop} {body : List Stmt} (k : ∀ p1 p2 n p3 p4 p5 p6 rest, lawRest K sc rest = true → M (.Assign [.Name "cells" p1] (.Subscript (.Name "script" p2) (.Slice none (some (.Constant (.int 63) n p3)) none p4) p5) p6 :: rest)) (h : lawChk K sc body = true) : M body := by
  refine of_l1 (M := M) (fun e rest h => ?_) h
  refine of_asgn (M := fun e => M (e :: rest)) (fun x v p6 h => ?_) h
  refine of_rName (M := fun x => M (.Assign [x] v p6 :: rest)) (fun x1 p1 h => ?_) h
  refine beqE (M := fun x1 => M (.Assign [.Name x1 p1] v p6 :: rest)) ?_ (bAnd h).1
  refine of_rSubscript (M := fun v => M (.Assign [.Name "cells" p1] v p6 :: rest)) (fun y z p5 h => ?_) (bAnd h).2
  refine of_rName (M := fun y => M (.Assign [.Name "cells" p1] (.Subscript y z p5) p6 :: rest)) (fun x2 p2 h => ?_) h
  refine beqE (M := fun x2 => M (.Assign [.Name "cells" p1] (.Subscript (.Name x2 p2) z p5) p6 :: rest)) ?_ (bAnd h).1
  refine of_rSlice (M := fun z => M (.Assign [.Name "cells" p1] (.Subscript (.Name "script" p2) z p5) p6 :: rest)) (fun l hh s p4 h => ?_) (bAnd h).2
  refine of_oN (M := fun l => M (.Assign [.Name "cells" p1] (.Subscript (.Name "script" p2) (.Slice l hh s p4) p5) p6 :: rest)) ?_ (bAnd h).1
  refine of_oN (M := fun s => M (.Assign [.Name "cells" p1] (.Subscript (.Name "script" p2) (.Slice none hh s p4) p5) p6 :: rest)) ?_ (bAnd (bAnd h).2).1
  refine of_oS (M := fun hh => M (.Assign [.Name "cells" p1] (.Subscript (.Name "script" p2) (.Slice none hh none p4) p5) p6 :: rest)) (fun c h => ?_) (bAnd (bAnd h).2).2
  refine of_rConstant (M := fun c => M (.Assign [.Name "cells" p1] (.Subscript (.Name "script" p2) (.Slice none (some c) none p4) p5) p6 :: rest)) (fun q n p3 h => ?_) h
  exact beqE (M := fun q => M (.Assign [.Name "cells" p1] (.Subscript (.Name "script" p2) (.Slice none (some (.Constant q n p3)) none p4) p5) p6 :: rest)) (k p1 p2 n p3 p4 p5 p6 rest (bAnd h).2) (bAnd h).1
theorem law_join {prog : Program} {w : World} {K : Frag} {p : Program} {loose : List Str} {mean : ExcName → Option Value} {mg mb : Str → Option Value} {h₀ : Heap} {fa : Addr} {cd : Value} {nm : Str} {sc : Scope} {body : List Stmt} {m cm : Str → Option Value} {o : Obj} {a : Addr} {vs : List Value} {ns : List Int} {s : Shared} {Q : Flow → Shared → Prop} {E : Value → Shared → Prop} {ρ' : Slots} {σ' : Store}
    (T : Top p loose mean mg mb h₀) (KX : K.In h₀) (B : Below callerA h₀ [] h₀)
    (F : Fr h₀ h₀.objs.size s.heap m) (N : News h₀ h₀.objs.size s.heap [(h₀.objs.size + 1, o)]) (X : CellsAre cm (cellsFrom (h₀.objs.size + 1) sc.names []) [(h₀.objs.size + 1, o)])
    (hm : m "script" = some (.ref a)) (hl : h₀.IsList a vs.toArray) (hI : IntsAre vs ns) (hlen : ns.length ≤ 63)
    (c1 : chkBi K = true) (c2 : chkCls K = true) (c3 : chkP K = true) (c4 : chkC K = true) (c5 : lawChk K sc body = true)
    (he : evSs (callN P0 C0 12) s_law ((List.replicate 22 none).set 1 (some (.val (.list (ns.map .int))))) [] = some (.ret (.val (.bool true)), ρ', σ'))
    (fin : ∀ h' tk' m', Fr h₀ h₀.objs.size h' m' → Q (.ret (.bool true)) { s with heap := h', toks := tk' }) :
    wpAny (model prog w) (callerA.deeper (envOfC nm sc h₀.objs.size fa cd)) (execs body (envOfC nm sc h₀.objs.size fa cd)) Q E s := by
  refine of_lawChk (M := fun body => wpAny (model prog w) (callerA.deeper (envOfC nm sc h₀.objs.size fa cd)) (execs body (envOfC nm sc h₀.objs.size fa cd)) Q E s) (fun p1 p2 n p3 p4 p5 p6 rest c5 => ?_) c5
  have d1 := bAnd c5
  have d2 := bAnd d1.2
  have d3 := bAnd d2.2
  have d4 := bAnd d3.2
  have hck := ckOf_ok (W := ⟨prog, w, K, p, loose, mean, mg, mb, nm0⟩) rfl c1 c2
  have hall := allOk (W := ⟨prog, w, K, p, loose, mean, mg, mb, nm0⟩) rfl hck c3 c4
  have hcall := callOk hall 12
  refine law_body (W := ⟨prog, w, K, p, loose, mean, mg, mb, nm0⟩) (n := 12) (F := callN P0 C0 12) (si := ckSI sc n_law 20) (h₀ := h₀) (L := h₀.objs.size) (cm := cm) (V := [(h₀.objs.size + 1, o)]) (ln := 22) (ts := s_law) ?_ ?_ X rfl ?_ hm (bBeq d3.1) (bBeq d4.1) rfl (show 1 < 20 by decide) (bDec (bAnd d4.2).2) hl hI hlen (ckX_ok hck hcall _ _ _ d1.1) he fin
  · refine ⟨⟨callerA, h₀, [], B, Around.frames_deeper rfl⟩, KX, T, rfl, bBeq d2.1, ?_, ?_, rfl⟩
    · rw [depth_deeper]; decide
    · rw [units_deeper]; decide
  · refine ⟨rfl, rfl, bBeq d2.1, rfl, rfl, rfl, ?_⟩
    show ((cellsFrom (h₀.objs.size + 1) sc.names []).map (·.1)).Nodup
    rw [cellsFrom_names sc.names (h₀.objs.size + 1) 0 [] [] rfl]
    exact bDec (bAnd d4.2).1
  · exact ⟨F, by simpa using N, by simp, fun p hp q hq => by simp at hq, fun p hp => by simp at hp, .nil⟩
end Mine

namespace Mine
open PySem PySem.W

/-! the evaluator by its end: what must hold behind a run -/
noncomputable def Stp {α : Type} (o : Option α) (k : α → Prop) : Prop := o.elim False k
theorem stp {α : Type} {o : Option α} {k : α → Prop} {z : α} (h : o = some z) (hk : k z) : Stp o k := by rw [h]; exact hk
theorem Stp.out {α : Type} {o : Option α} {k : α → Prop} (h : Stp o k) : ∃ z, o = some z ∧ k z := by
  cases o with
  | none => exact h.elim
  | some z => exact ⟨z, rfl, h⟩
theorem Stp.mono {α : Type} {o : Option α} {k l : α → Prop} (h : Stp o k) (f : ∀ a, k a → l a) : Stp o l := by
  cases o with
  | none => exact h
  | some z => exact f z h
theorem stpBind {α β : Type} {o : Option α} {f : α → Option β} {k : β → Prop} (h : Stp o fun a => Stp (f a) k) : Stp (o.bind f) k := by
  cases o with
  | none => exact h
  | some z => exact h
theorem stpMap {α β : Type} {o : Option α} {f : α → β} {k : β → Prop} (h : Stp o fun a => k (f a)) : Stp (o.map f) k := by
  cases o with
  | none => exact h
  | some z => exact h
theorem stpIf {α : Type} {c : Prop} [Decidable c] {o : Option α} {k : α → Prop} (h : c) (hk : Stp o k) : Stp (if c then o else none) k := by rw [if_pos h]; exact hk
theorem stpCond {α : Type} {c : Bool} {x y : Option α} {k : α → Prop} {p q : Prop} (h : cond c p q) (f : p → Stp x k) (g : q → Stp y k) : Stp (cond c x y) k := by
  cases c with
  | true => exact f h
  | false => exact g h
theorem stpOn {α : Type} {f : Fl} {x : Option α} {y : AV → Option α} {k : α → Prop} {p : Prop} {q : AV → Prop} (h : f.on p q) (g : p → Stp x k) (l : ∀ a, q a → Stp (y a) k) : Stp (f.on x y) k := by
  cases f with
  | next => exact g h
  | ret a => exact l a h
theorem stpEq {α : Type} {o : Option α} {z : α} (h : Stp o fun a => a = z) : o = some z := by
  cases o with
  | none => exact h.elim
  | some a => exact congrArg some h
theorem eqStp {α : Type} {o : Option α} {z : α} (h : o = some z) : Stp o fun a => a = z := by rw [h]; exact rfl
mutual
noncomputable def evC (F : Fns) : T → Slots → Store → (AV → Store → Prop) → Prop
  | .bot, _, _, _ => False
  | .c d, _, σ, k => k (.val d) σ
  | .gv _ d, _, σ, k => k (.val d) σ
  | .v i, ρ, σ, k => Stp (slot ρ i) fun a => k a σ
  | .bin op a b, ρ, σ, k => evC F a ρ σ fun x σ₁ => evC F b ρ σ₁ fun y σ₂ => Stp (binAV op x y) fun z => k z σ₂
  | .neg a, ρ, σ, k => evC F a ρ σ fun x σ₁ => Stp (intAV x) fun i => k (.val (.int (-i))) σ₁
  | .not a, ρ, σ, k => evC F a ρ σ fun x σ₁ => Stp (boolAV x) fun b => k (.val (.bool (!b))) σ₁
  | .and a b, ρ, σ, k => evC F a ρ σ fun x σ₁ => Stp (boolAV x) fun c => cond c (evC F b ρ σ₁ fun y σ₂ => Stp (boolAV y) fun d => k (.val (.bool d)) σ₂) (k (.val (.bool false)) σ₁)
  | .or a b, ρ, σ, k => evC F a ρ σ fun x σ₁ => Stp (boolAV x) fun c => cond c (k (.val (.bool true)) σ₁) (evC F b ρ σ₁ fun y σ₂ => Stp (boolAV y) fun d => k (.val (.bool d)) σ₂)
  | .cmp op a b, ρ, σ, k => evC F a ρ σ fun x σ₁ => evC F b ρ σ₁ fun y σ₂ => Stp (cmpAV σ₂ op x y) fun z => k (.val (.bool z)) σ₂
  | .ite c a b, ρ, σ, k => evC F c ρ σ fun x σ₁ => Stp (boolAV x) fun t => cond t (evC F a ρ σ₁ k) (evC F b ρ σ₁ k)
  | .call f as, ρ, σ, k => evsC F as ρ σ fun xs σ₁ => Stp (F f xs σ₁) fun r => k r.1 r.2
  | .new c as, ρ, σ, k => evsC F as ρ σ fun xs σ₁ => Stp (F (1000 + c) xs σ₁) fun r => Stp (settle σ₁.length r.1 r.2) fun q => k q.1 q.2
  | .bi b as, ρ, σ, k => evsC F as ρ σ fun xs σ₁ => Stp (biAV σ₁ b xs) fun z => k z σ₁
  | .meth m o as, ρ, σ, k => evC F o ρ σ fun x σ₁ => evsC F as ρ σ₁ fun xs σ₂ => Stp (meAV σ₂ m x xs) fun z => k z σ₂
  | .attr o n, ρ, σ, k => evC F o ρ σ fun x σ₁ => Stp (cellOf σ₁ x) fun d => Stp (attrOf n d) fun z => k z σ₁
  | .idx o i, ρ, σ, k => evC F o ρ σ fun x σ₁ => evC F i ρ σ₁ fun y σ₂ => Stp (idxAV σ₂ x y) fun z => k z σ₂
  | .sl o lo hi, ρ, σ, k => evC F o ρ σ fun x σ₁ => evC F lo ρ σ₁ fun y σ₂ => evC F hi ρ σ₂ fun z σ₃ => Stp (slAV x y z) fun w => k w σ₃
  | .tup l, ρ, σ, k => evsC F l ρ σ fun xs σ₁ => Stp (vals? xs) fun ds => k (.val (.tup ds)) σ₁
  | .list l, ρ, σ, k => evsC F l ρ σ fun xs σ₁ => Stp (vals? xs) fun ds => k (.val (.list ds)) σ₁
  | .tbl ks vs i, ρ, σ, k => evC F i ρ σ fun x σ₁ => Stp (x.d?) fun d => Stp (tblOf ks vs d) fun e => k (.val e) σ₁
  | .lc elt x it, ρ, σ, k => evC F it ρ σ fun a σ₁ => Stp (itemsOf a) fun ds => ds.length ≤ lim ∧ Stp (lcLoop (ev F elt) x ρ ds σ₁ []) fun r => k (.val (.list r.1)) r.2
  | .lcf elt x it c, ρ, σ, k => evC F it ρ σ fun a σ₁ => Stp (itemsOf a) fun ds => ds.length ≤ lim ∧ Stp (lcLoopF (ev F c) (ev F elt) x ρ ds σ₁ []) fun r => k (.val (.list r.1)) r.2
  | .fs ps, ρ, σ, k => evsC F ps ρ σ fun xs σ₁ => Stp ((vals? xs).bind strs?) fun ss => (ss.map (·.length)).sum ≤ lim ∧ k (.val (.str (ss.foldl (· ++ ·) Str.empty))) σ₁
noncomputable def evsC (F : Fns) : List T → Slots → Store → (List AV → Store → Prop) → Prop
  | [], _, σ, k => k [] σ
  | t :: r, ρ, σ, k => evC F t ρ σ fun a σ₁ => evsC F r ρ σ₁ fun as σ₂ => k (a :: as) σ₂
end
mutual
theorem evC_st {F : Fns} : ∀ (t : T) {ρ : Slots} {σ : Store} {k : AV → Store → Prop}, evC F t ρ σ k → Stp (ev F t ρ σ) fun r => k r.1 r.2
  | .bot, _, _, _, h => h
  | .c d, _, _, _, h => h
  | .gv _ d, _, _, _, h => h
  | .v i, _, _, _, h => stpMap h
  | .bin op a b, _, _, _, h => stpBind ((evC_st a h).mono fun _ h => stpBind ((evC_st b h).mono fun _ h => stpMap h))
  | .neg a, _, _, _, h => stpBind ((evC_st a h).mono fun _ h => stpMap h)
  | .not a, _, _, _, h => stpBind ((evC_st a h).mono fun _ h => stpMap h)
  | .and a b, _, _, _, h => stpBind ((evC_st a h).mono fun _ h => stpBind (h.mono fun _ h => stpCond h (fun h => stpBind ((evC_st b h).mono fun _ h => stpMap h)) fun h => h))
  | .or a b, _, _, _, h => stpBind ((evC_st a h).mono fun _ h => stpBind (h.mono fun _ h => stpCond h (fun h => h) fun h => stpBind ((evC_st b h).mono fun _ h => stpMap h)))
  | .cmp op a b, _, _, _, h => stpBind ((evC_st a h).mono fun _ h => stpBind ((evC_st b h).mono fun _ h => stpMap h))
  | .ite c a b, _, _, _, h => stpBind ((evC_st c h).mono fun _ h => stpBind (h.mono fun _ h => stpCond h (evC_st a) (evC_st b)))
  | .call f as, _, _, _, h => stpBind ((evsC_st as h).mono fun _ h => h)
  | .new c as, _, _, _, h => stpBind ((evsC_st as h).mono fun _ h => stpBind h)
  | .bi b as, _, _, _, h => stpBind ((evsC_st as h).mono fun _ h => stpMap h)
  | .meth m o as, _, _, _, h => stpBind ((evC_st o h).mono fun _ h => stpBind ((evsC_st as h).mono fun _ h => stpMap h))
  | .attr o n, _, _, _, h => stpBind ((evC_st o h).mono fun _ h => stpBind (h.mono fun _ h => stpMap h))
  | .idx o i, _, _, _, h => stpBind ((evC_st o h).mono fun _ h => stpBind ((evC_st i h).mono fun _ h => stpMap h))
  | .sl o lo hi, _, _, _, h => stpBind ((evC_st o h).mono fun _ h => stpBind ((evC_st lo h).mono fun _ h => stpBind ((evC_st hi h).mono fun _ h => stpMap h)))
  | .tup l, _, _, _, h => stpBind ((evsC_st l h).mono fun _ h => stpMap h)
  | .list l, _, _, _, h => stpBind ((evsC_st l h).mono fun _ h => stpMap h)
  | .tbl ks vs i, _, _, _, h => stpBind ((evC_st i h).mono fun _ h => stpBind (h.mono fun _ h => stpMap h))
  | .lc elt x it, _, _, _, h => stpBind ((evC_st it h).mono fun _ h => stpBind (h.mono fun _ h => stpIf h.1 (stpMap h.2)))
  | .lcf elt x it c, _, _, _, h => stpBind ((evC_st it h).mono fun _ h => stpBind (h.mono fun _ h => stpIf h.1 (stpMap h.2)))
  | .fs ps, _, _, _, h => stpBind ((evsC_st ps h).mono fun _ h => stpBind (h.mono fun _ h => stpIf h.1 h.2))
theorem evsC_st {F : Fns} : ∀ (l : List T) {ρ : Slots} {σ : Store} {k : List AV → Store → Prop}, evsC F l ρ σ k → Stp (evs F l ρ σ) fun r => k r.1 r.2
  | [], _, _, _, h => h
  | t :: r, _, _, _, h => stpBind ((evC_st t h).mono fun _ h => stpMap (evsC_st r h))
end
mutual
noncomputable def evSC (F : Fns) : S → Slots → Store → (Slots → Store → Prop) → (AV → Slots → Store → Prop) → Prop
  | .bot, _, _, _, _ => False
  | .asg x t, ρ, σ, n, r => evC F t ρ σ fun a σ₁ => n (ρ.set x (some a)) σ₁
  | .asgL x ts, ρ, σ, n, r => evsC F ts ρ σ fun xs σ₁ => Stp (vals? xs) fun ds => n (ρ.set x (some (.loc σ₁.length))) (σ₁ ++ [.list ds])
  | .asgN x c as, ρ, σ, n, r => evsC F as ρ σ fun xs σ₁ => Stp (F (1000 + c) xs σ₁) fun p => n (ρ.set x (some p.1)) p.2
  | .asgT xs t, ρ, σ, n, r => evC F t ρ σ fun a σ₁ => Stp ((tupList? a).bind fun ds => setSlots xs ds ρ) fun ρ' => n ρ' σ₁
  | .aug x op t, ρ, σ, n, r => Stp (slot ρ x) fun a => evC F t ρ σ fun b σ₁ => Stp (augAV op a b) fun z => n (ρ.set x (some z)) σ₁
  | .augL x t, ρ, σ, n, r => Stp ((slot ρ x).bind AV.loc?) fun i => evC F t ρ σ fun b σ₁ => Stp (listV b) fun l => Stp ((σ₁[i]?).bind (cellE l)) fun c => n (ρ.set x (some (.loc i))) (σ₁.set i c)
  | .sattr o m t, ρ, σ, n, r => evC F t ρ σ fun a σ₁ => Stp (a.d?) fun d => evC F o ρ σ₁ fun b σ₂ => Stp (b.loc?) fun i => Stp ((σ₂[i]?).bind (cellN m d)) fun c => n ρ (σ₂.set i c)
  | .sattrD o m k t, ρ, σ, n, r => evC F t ρ σ fun a σ₁ => Stp (a.d?) fun d => evC F o ρ σ₁ fun b σ₂ => Stp (b.loc?) fun i => Stp ((σ₂[i]?).bind (cellD m k d)) fun c => n ρ (σ₂.set i c)
  | .sidx2 o m k t, ρ, σ, n, r => evC F t ρ σ fun a σ₁ => Stp (a.d?) fun d => evC F o ρ σ₁ fun b σ₂ => Stp (b.loc?) fun i => Stp ((σ₂[i]?).bind (cellK m k d)) fun c => n ρ (σ₂.set i c)
  | .app o t, ρ, σ, n, r => evC F o ρ σ fun b σ₁ => Stp (b.loc?) fun i => (σ₁[i]?).any isL = true ∧ evC F t ρ σ₁ fun a σ₂ => Stp (a.d?) fun d => Stp ((σ₂[i]?).bind (cellA d)) fun c => n ρ (σ₂.set i c)
  | .ext o t, ρ, σ, n, r => evC F o ρ σ fun b σ₁ => Stp (b.loc?) fun i => (σ₁[i]?).any isL = true ∧ evC F t ρ σ₁ fun a σ₂ => Stp (listV a) fun d => Stp ((σ₂[i]?).bind (cellE d)) fun c => n ρ (σ₂.set i c)
  | .rev o, ρ, σ, n, r => evC F o ρ σ fun b σ₁ => Stp (b.loc?) fun i => Stp ((σ₁[i]?).bind cellR) fun c => n ρ (σ₁.set i c)
  | .iff c a b, ρ, σ, n, r => evC F c ρ σ fun x σ₁ => Stp (boolAV x) fun t => cond t (evSsC F a ρ σ₁ n r) (evSsC F b ρ σ₁ n r)
  | .forr x it b, ρ, σ, n, r => evC F it ρ σ fun a σ₁ => Stp (itemsOf a) fun ds => ds.length ≤ lim ∧ Stp (forLoop (evSs F b) x ds ρ σ₁) fun p => p.1.on (n p.2.1 p.2.2) fun a => r a p.2.1 p.2.2
  | .ret t, ρ, σ, n, r => evC F t ρ σ fun a σ₁ => r a ρ σ₁
  | .sidx o i t, ρ, σ, n, r => evC F t ρ σ fun a σ₁ => Stp (a.d?) fun d => evC F o ρ σ₁ fun b σ₂ => Stp (b.loc?) fun j => evC F i ρ σ₂ fun x σ₃ => Stp (intAV x) fun k => Stp ((σ₃[j]?).bind (cellI k d)) fun c => n ρ (σ₃.set j c)
  | .whl c b, ρ, σ, n, r => Stp (whLoop (ev F c) (evSs F b) 24 ρ σ) fun p => p.1.on (n p.2.1 p.2.2) fun a => r a p.2.1 p.2.2
  | .frzv x, ρ, σ, n, r => Stp (evS F (.frzv x) ρ σ) fun p => p.1.on (n p.2.1 p.2.2) fun a => r a p.2.1 p.2.2
noncomputable def evSsC (F : Fns) : List S → Slots → Store → (Slots → Store → Prop) → (AV → Slots → Store → Prop) → Prop
  | [], ρ, σ, n, _ => n ρ σ
  | s :: l, ρ, σ, n, r => evSC F s ρ σ (fun ρ' σ' => evSsC F l ρ' σ' n r) r
end
mutual
theorem evSC_st {F : Fns} : ∀ (s : S) {ρ : Slots} {σ : Store} {n : Slots → Store → Prop} {r : AV → Slots → Store → Prop}, evSC F s ρ σ n r → Stp (evS F s ρ σ) fun p => p.1.on (n p.2.1 p.2.2) fun a => r a p.2.1 p.2.2
  | .bot, _, _, _, _, h => h
  | .asg x t, _, _, _, _, h => stpMap (evC_st t h)
  | .asgL x ts, _, _, _, _, h => stpBind ((evsC_st ts h).mono fun _ h => stpMap h)
  | .asgN x c as, _, _, _, _, h => stpBind ((evsC_st as h).mono fun _ h => stpMap h)
  | .asgT xs t, _, _, _, _, h => stpBind ((evC_st t h).mono fun _ h => stpMap h)
  | .aug x op t, _, _, _, _, h => stpBind (h.mono fun _ h => stpBind ((evC_st t h).mono fun _ h => stpMap h))
  | .augL x t, _, _, _, _, h => stpBind (h.mono fun _ h => stpBind ((evC_st t h).mono fun _ h => stpBind (h.mono fun _ h => stpMap h)))
  | .sattr o m t, _, _, _, _, h => stpBind ((evC_st t h).mono fun _ h => stpBind (h.mono fun _ h => stpBind ((evC_st o h).mono fun _ h => stpBind (h.mono fun _ h => stpMap h))))
  | .sattrD o m k t, _, _, _, _, h => stpBind ((evC_st t h).mono fun _ h => stpBind (h.mono fun _ h => stpBind ((evC_st o h).mono fun _ h => stpBind (h.mono fun _ h => stpMap h))))
  | .sidx2 o m k t, _, _, _, _, h => stpBind ((evC_st t h).mono fun _ h => stpBind (h.mono fun _ h => stpBind ((evC_st o h).mono fun _ h => stpBind (h.mono fun _ h => stpMap h))))
  | .app o t, _, _, _, _, h => stpBind ((evC_st o h).mono fun _ h => stpBind (h.mono fun _ h => stpIf h.1 (stpBind ((evC_st t h.2).mono fun _ h => stpBind (h.mono fun _ h => stpMap h)))))
  | .ext o t, _, _, _, _, h => stpBind ((evC_st o h).mono fun _ h => stpBind (h.mono fun _ h => stpIf h.1 (stpBind ((evC_st t h.2).mono fun _ h => stpBind (h.mono fun _ h => stpMap h)))))
  | .rev o, _, _, _, _, h => stpBind ((evC_st o h).mono fun _ h => stpBind (h.mono fun _ h => stpMap h))
  | .iff c a b, _, _, _, _, h => stpBind ((evC_st c h).mono fun _ h => stpBind (h.mono fun _ h => stpCond h (evSsC_st a) (evSsC_st b)))
  | .forr x it b, _, _, _, _, h => stpBind ((evC_st it h).mono fun _ h => stpBind (h.mono fun _ h => stpIf h.1 h.2))
  | .ret t, _, _, _, _, h => stpMap (evC_st t h)
  | .sidx o i t, _, _, _, _, h => stpBind ((evC_st t h).mono fun _ h => stpBind (h.mono fun _ h => stpBind ((evC_st o h).mono fun _ h => stpBind (h.mono fun _ h => stpBind ((evC_st i h).mono fun _ h => stpBind (h.mono fun _ h => stpMap h))))))
  | .whl c b, _, _, _, _, h => h
  | .frzv x, _, _, _, _, h => h
theorem evSsC_st {F : Fns} : ∀ (l : List S) {ρ : Slots} {σ : Store} {n : Slots → Store → Prop} {r : AV → Slots → Store → Prop}, evSsC F l ρ σ n r → Stp (evSs F l ρ σ) fun p => p.1.on (n p.2.1 p.2.2) fun a => r a p.2.1 p.2.2
  | [], _, _, _, _, h => h
  | s :: l, _, _, _, _, h => stpBind ((evSC_st s h).mono fun _ h => stpOn h (evSsC_st l) fun _ h => h)
end
theorem evSsC_out {F : Fns} (l : List S) {ρ : Slots} {σ : Store} {n : Slots → Store → Prop} {r : AV → Slots → Store → Prop} (h : evSsC F l ρ σ n r) : ∃ p, evSs F l ρ σ = some p ∧ p.1.on (n p.2.1 p.2.2) fun a => r a p.2.1 p.2.2 := (evSsC_st l h).out
theorem condT {c : Bool} {p q : Prop} (h : c = true) (k : p) : cond c p q := by rw [h]; exact k
theorem condF {c : Bool} {p q : Prop} (h : c = false) (k : q) : cond c p q := by rw [h]; exact k
/-! what is asked of a run -/
theorem ev_run {F : Fns} {t : T} {ρ : Slots} {σ σ' : Store} {v : AV} (h : evC F t ρ σ fun a s => (a, s) = (v, σ')) : ev F t ρ σ = some (v, σ') := stpEq (evC_st t h)
theorem on_eq {q p : Fl × Slots × Store} (h : q.1.on ((Fl.next, q.2.1, q.2.2) = p) fun a => (Fl.ret a, q.2.1, q.2.2) = p) : q = p := by
  obtain ⟨f, ρ, σ⟩ := q
  cases f with
  | next => exact h
  | ret a => exact h
theorem evSs_run {F : Fns} {b : List S} {ρ : Slots} {σ : Store} {p : Fl × Slots × Store} (h : evSsC F b ρ σ (fun ρ' σ' => (.next, ρ', σ') = p) fun a ρ' σ' => (.ret a, ρ', σ') = p) : evSs F b ρ σ = some p := stpEq ((evSsC_st b h).mono fun _ h => on_eq h)
theorem evS_run {F : Fns} {b : S} {ρ : Slots} {σ : Store} {p : Fl × Slots × Store} (h : evSC F b ρ σ (fun ρ' σ' => (.next, ρ', σ') = p) fun a ρ' σ' => (.ret a, ρ', σ') = p) : evS F b ρ σ = some p := stpEq ((evSC_st b h).mono fun _ h => on_eq h)
theorem wh_step {F : Fns} {c : T} {b : List S} {f : Nat} {ρ : Slots} {σ : Store} {p : Fl × Slots × Store}
    (h : evC F c ρ σ fun x σ₁ => Stp (boolAV x) fun t => cond t (evSsC F b ρ σ₁ (fun ρ' σ' => whLoop (ev F c) (evSs F b) f ρ' σ' = some p) fun a ρ' σ' => some (Fl.ret a, ρ', σ') = some p) (some (Fl.next, ρ, σ₁) = some p)) :
    whLoop (ev F c) (evSs F b) (f + 1) ρ σ = some p :=
  stpEq (stpBind ((evC_st c h).mono fun _ h => stpBind (h.mono fun _ h => stpCond h (fun h => stpBind ((evSsC_st b h).mono fun _ h => stpOn h eqStp fun _ h => eqStp h)) fun h => eqStp h)))
end Mine

namespace Mine
open PySem PySem.W

/-! the evaluator does not look at what lies under its store -/
noncomputable def shA (k : Nat) : AV → AV
  | .val d => .val d
  | .loc i => .loc (k + i)
noncomputable abbrev shO (k : Nat) : Option AV → Option AV := Option.map (shA k)
noncomputable abbrev shP (pre : Store) (p : AV × Store) : AV × Store := (shA pre.length p.1, pre ++ p.2)
noncomputable def shF (pre : Store) : Fl × Slots × Store → Fl × Slots × Store
  | (.next, ρ, σ) => (.next, ρ.map (shO pre.length), pre ++ σ)
  | (.ret a, ρ, σ) => (.ret (shA pre.length a), ρ.map (shO pre.length), pre ++ σ)
noncomputable def FSh (pre : Store) (F : Fns) : Prop := ∀ f as σ, F f (as.map (shA pre.length)) (pre ++ σ) = (F f as σ).map (shP pre)

section
variable {pre : Store} {σ : Store}
theorem get_sh (i : Nat) : (pre ++ σ)[pre.length + i]? = σ[i]? := by
  rw [List.getElem?_append_right (by omega)]; congr 1; omega
theorem set_sh (i : Nat) (d : D) : (pre ++ σ).set (pre.length + i) d = pre ++ σ.set i d := by
  rw [List.set_append_right _ _ (by omega)]; congr 2; omega
theorem cellOf_sh (a : AV) : cellOf (pre ++ σ) (shA pre.length a) = cellOf σ a := by
  cases a with
  | val d => rfl
  | loc i => exact get_sh i
theorem d_sh (a : AV) {k : Nat} : (shA k a).d? = a.d? := by cases a <;> rfl
theorem valmap {k : Nat} (o : Option D) : (o.map AV.val).map (shA k) = o.map AV.val := by cases o <;> rfl
theorem bindval {α : Type} {k : Nat} (o : Option α) (f : α → Option D) : o.bind (fun a => (f a).map AV.val) = (o.bind fun a => (f a).map AV.val).map (shA k) := by
  cases o with
  | none => rfl
  | some a => exact (valmap (f a)).symm
theorem binAV_sh (op : Bop) (x y : AV) {k : Nat} : binAV op (shA k x) (shA k y) = (binAV op x y).map (shA k) := by
  unfold binAV
  rw [d_sh, d_sh]
  cases x.d? with
  | none => rfl
  | some a => exact bindval _ _
theorem noneAV_sh (a : AV) {k : Nat} : noneAV (shA k a) = noneAV a := by
  cases a with
  | val d => rfl
  | loc i => rfl
theorem intAV_sh (a : AV) {k : Nat} : intAV (shA k a) = intAV a := by unfold intAV; rw [d_sh]
theorem strAV_sh (a : AV) {k : Nat} : strAV (shA k a) = strAV a := by unfold strAV; rw [d_sh]
theorem boolAV_sh (a : AV) {k : Nat} : boolAV (shA k a) = boolAV a := by unfold boolAV; rw [d_sh]
theorem listOf_sh (a : AV) : listOfAV (pre ++ σ) (shA pre.length a) = listOfAV σ a := by unfold listOfAV; rw [cellOf_sh]
theorem eqLs_sh (x y : AV) : eqLs (pre ++ σ) (shA pre.length x) (shA pre.length y) = eqLs σ x y := by unfold eqLs; rw [listOf_sh, listOf_sh]
theorem ordAV_sh (x y : AV) (f : Int → Int → Bool) {k : Nat} : ordAV (shA k x) (shA k y) f = ordAV x y f := by unfold ordAV; rw [intAV_sh, intAV_sh]
theorem inAV_sh (x y : AV) {k : Nat} : inAV (shA k x) (shA k y) = inAV x y := by unfold inAV; rw [strAV_sh, d_sh]
theorem cmpAV_sh (op : Cop) (x y : AV) : cmpAV (pre ++ σ) op (shA pre.length x) (shA pre.length y) = cmpAV σ op x y := by
  cases op with
  | is => show (if noneAV _ then some (noneAV _) else none) = _; rw [noneAV_sh, noneAV_sh]; rfl
  | isnot => show (if noneAV _ then some (!noneAV _) else none) = _; rw [noneAV_sh, noneAV_sh]; rfl
  | eq => show eqAV _ _ _ = eqAV _ _ _; unfold eqAV; rw [intAV_sh, intAV_sh, strAV_sh, strAV_sh, eqLs_sh]
  | ne => show neAV _ _ _ = neAV _ _ _; unfold neAV; rw [intAV_sh, intAV_sh, eqLs_sh]
  | lt => exact ordAV_sh ..
  | le => exact ordAV_sh ..
  | gt => exact ordAV_sh ..
  | ge => exact ordAV_sh ..
  | isin => exact inAV_sh ..
  | notin => exact congrArg (Option.map fun b => !b) (inAV_sh x y)
theorem vals_sh {k : Nat} (as : List AV) : vals? (as.map (shA k)) = vals? as := by
  induction as with
  | nil => rfl
  | cons a r ih => show (shA k a).d?.bind (fun d => (vals? (r.map (shA k))).map (d :: ·)) = _; rw [ih, d_sh]; rfl
theorem seenAs_sh (b : Bool) (as : List AV) : seenAs (pre ++ σ) b (as.map (shA pre.length)) = seenAs σ b as := by
  match as with
  | [] => rfl
  | [.loc i] =>
    cases b with
    | false => rfl
    | true => show ((pre ++ σ)[pre.length + i]?).bind _ = _; rw [get_sh]; rfl
  | .val d :: r => exact vals_sh (.val d :: r)
  | .loc i :: _ :: _ => rfl
theorem biAV_sh (b : Bi) (as : List AV) : biAV (pre ++ σ) b (as.map (shA pre.length)) = (biAV σ b as).map (shA pre.length) := by
  unfold biAV
  rw [seenAs_sh]
  exact bindval _ _
theorem meAV_sh (m : Me) (o : AV) (as : List AV) : meAV (pre ++ σ) m (shA pre.length o) (as.map (shA pre.length)) = (meAV σ m o as).map (shA pre.length) := by
  unfold meAV
  rw [seenAs_sh, d_sh]
  cases o.d? with
  | none => rfl
  | some a => exact bindval _ _
theorem partOf_sh (a : AV) {k : Nat} : partOf (shA k a) = partOf a := by cases a <;> rfl
theorem slAV_sh {k : Nat} (x y z : AV) : slAV (shA k x) (shA k y) (shA k z) = (slAV x y z).map (shA k) := by
  unfold slAV
  rw [d_sh, partOf_sh, partOf_sh]
  cases x.d? with
  | none => rfl
  | some a =>
    cases partOf y with
    | none => rfl
    | some b => exact bindval _ _
theorem idxD_sh (x : AV) (i : Int) : idxD (pre ++ σ) (shA pre.length x) i = idxD σ x i := by
  cases x with
  | val d => rfl
  | loc j => show (listOfAV _ (shA _ (.loc j))).bind _ = _; rw [listOf_sh]; rfl
theorem idxAV_sh (x y : AV) : idxAV (pre ++ σ) (shA pre.length x) (shA pre.length y) = (idxAV σ x y).map (shA pre.length) := by
  unfold idxAV
  rw [intAV_sh]
  simp only [idxD_sh]
  exact bindval _ _
theorem attrOf_sh (n : Nat) (d : D) {k : Nat} : (attrOf n d).map (shA k) = attrOf n d := by
  have out : ∀ a, attrOf n d = some a → shA k a = a := by
    intro a h
    obtain ⟨p, _, h⟩ := of_bind h
    obtain ⟨_, h⟩ := of_ifnT h
    obtain ⟨e, _, h⟩ := of_bind h
    rw [← (of_ifn h).2]; rfl
  cases h : attrOf n d with
  | none => rfl
  | some a => simp [out a h]
theorem slot_sh {k : Nat} (ρ : Slots) (i : Nat) : slot (ρ.map (shO k)) i = (slot ρ i).map (shA k) := by
  unfold slot
  rw [List.getElem?_map]
  cases ρ[i]? with
  | none => rfl
  | some a => cases a <;> rfl
theorem setv_sh {k : Nat} (ρ : Slots) (i : Nat) (d : D) : (ρ.set i (some (.val d))).map (shO k) = (ρ.map (shO k)).set i (some (.val d)) := by
  rw [List.map_set]; rfl
theorem seta_sh {k : Nat} (ρ : Slots) (i : Nat) (a : AV) : (ρ.set i (some a)).map (shO k) = (ρ.map (shO k)).set i (some (shA k a)) := by
  rw [List.map_set]; rfl
theorem take_sh (b : Nat) : (pre ++ σ).take (pre.length + b) = pre ++ σ.take b := by rw [List.take_append, List.take_of_length_le (Nat.le_add_right _ _), Nat.add_sub_cancel_left]
theorem settle_sh (b : Nat) (a : AV) : settle (pre.length + b) (shA pre.length a) (pre ++ σ) = (settle b a σ).map (shP pre) := by
  cases a with
  | val d => show some (AV.val d, (pre ++ σ).take (pre.length + b)) = _; rw [take_sh]; rfl
  | loc i =>
    show (if pre.length + i < pre.length + b then none else ((pre ++ σ)[pre.length + i]?).bind fun c => (frzD c).map fun d => (AV.val d, (pre ++ σ).take (pre.length + b))) = (if i < b then none else _ : Option _).map _
    rw [get_sh, take_sh]
    by_cases h : i < b
    · rw [if_pos h, if_pos (Nat.add_lt_add_left h _)]; rfl
    · rw [if_neg h, if_neg fun q => h (Nat.lt_of_add_lt_add_left q)]
      cases σ[i]? with
      | none => rfl
      | some c => show (frzD c).map _ = ((frzD c).map _).map _; cases frzD c <;> rfl
theorem leave_sh (b : Nat) (a : AV) : leave (pre.length + b) (shA pre.length a) (pre ++ σ) = (leave b a σ).map (shP pre) := by
  cases a with
  | val d => show some (AV.val d, (pre ++ σ).take (pre.length + b)) = _; rw [take_sh]; rfl
  | loc i =>
    show (if pre.length + i < pre.length + b then some (AV.loc (pre.length + i), (pre ++ σ).take (pre.length + b)) else ((pre ++ σ)[pre.length + i]?).bind fun c => (c.list?.map fun l => (AV.val (.list l), (pre ++ σ).take (pre.length + b))).or (c.inst?.map fun p => (AV.loc (pre.length + b), (pre ++ σ).take (pre.length + b) ++ [.inst p.1 p.2]))) = (if i < b then _ else _ : Option _).map _
    rw [get_sh, take_sh]
    by_cases h : i < b
    · rw [if_pos h, if_pos (Nat.add_lt_add_left h _)]; rfl
    · rw [if_neg h, if_neg fun q => h (Nat.lt_of_add_lt_add_left q)]
      cases σ[i]? with
      | none => rfl
      | some c =>
        show (c.list?.map _).or (c.inst?.map _) = ((c.list?.map _).or (c.inst?.map _)).map _
        cases c.list? with
        | some l => rfl
        | none =>
          cases c.inst? with
          | none => rfl
          | some p => exact congrArg some (congrArg (AV.loc (pre.length + b), ·) (List.append_assoc ..))
theorem itemsOf_sh {k : Nat} (a : AV) : itemsOf (shA k a) = itemsOf a := by cases a <;> rfl
end
end Mine

namespace Mine
open PySem PySem.W

section
variable {α α' β β' : Type}
theorem shB {o : Option α} {o' : Option α'} {h : α → α'} {g : α' → Option β'} {f : α → Option β} {k : β → β'} (e : o' = o.map h) (q : ∀ a, g (h a) = (f a).map k) : o'.bind g = (o.bind f).map k := by
  rw [e]
  cases o with
  | none => rfl
  | some a => exact q a
theorem shM {o : Option α} {o' : Option α'} {h : α → α'} {g : α' → β'} {f : α → β} {k : β → β'} (e : o' = o.map h) (q : ∀ a, g (h a) = k (f a)) : o'.map g = (o.map f).map k := by
  rw [e]
  cases o with
  | none => rfl
  | some a => exact congrArg some (q a)
theorem shB0 {o o' : Option α} {g : α → Option β'} {f : α → Option β} {k : β → β'} (e : o' = o) (q : ∀ a, g a = (f a).map k) : o'.bind g = (o.bind f).map k := by
  rw [e]
  cases o with
  | none => rfl
  | some a => exact q a
theorem shM0 {o o' : Option α} {g : α → β'} {f : α → β} {k : β → β'} (e : o' = o) (q : ∀ a, g a = k (f a)) : o'.map g = (o.map f).map k := by
  rw [e]
  cases o with
  | none => rfl
  | some a => exact congrArg some (q a)
theorem shC {c : Bool} {x y : Option β} {x' y' : Option β'} {k : β → β'} (e : x' = x.map k) (e' : y' = y.map k) : cond c x' y' = (cond c x y).map k := by
  cases c with
  | true => exact e
  | false => exact e'
theorem shI {c : Prop} [Decidable c] {x : Option β} {x' : Option β'} {k : β → β'} (e : x' = x.map k) : (if c then x' else none) = (if c then x else none).map k := by
  by_cases h : c
  · rw [if_pos h, if_pos h]; exact e
  · rw [if_neg h, if_neg h]; rfl
end
section
variable {pre : Store} {F : Fns}
noncomputable abbrev shPs (pre : Store) (p : List AV × Store) : List AV × Store := (p.1.map (shA pre.length), pre ++ p.2)
theorem lcLoop_sh {f : Slots → Store → Option (AV × Store)} (hf : ∀ ρ σ, f (ρ.map (shO pre.length)) (pre ++ σ) = (f ρ σ).map (shP pre)) (x : Nat) (ρ : Slots) (ds : List D) : ∀ (σ : Store) (acc : List D),
    lcLoop f x (ρ.map (shO pre.length)) ds (pre ++ σ) acc = (lcLoop f x ρ ds σ acc).map fun p => (p.1, pre ++ p.2) := by
  induction ds with
  | nil => intro σ acc; rfl
  | cons d r ih => intro σ acc; exact shB ((congrArg (f · (pre ++ σ)) (setv_sh ρ x d).symm).trans (hf _ σ)) fun p => shB0 (d_sh p.1) fun e => ih p.2 (e :: acc)
theorem lcLoopF_sh {c f : Slots → Store → Option (AV × Store)} (hc : ∀ ρ σ, c (ρ.map (shO pre.length)) (pre ++ σ) = (c ρ σ).map (shP pre)) (hf : ∀ ρ σ, f (ρ.map (shO pre.length)) (pre ++ σ) = (f ρ σ).map (shP pre)) (x : Nat) (ρ : Slots) (ds : List D) : ∀ (σ : Store) (acc : List D),
    lcLoopF c f x (ρ.map (shO pre.length)) ds (pre ++ σ) acc = (lcLoopF c f x ρ ds σ acc).map fun p => (p.1, pre ++ p.2) := by
  induction ds with
  | nil => intro σ acc; rfl
  | cons d r ih => intro σ acc; exact shB ((congrArg (c · (pre ++ σ)) (setv_sh ρ x d).symm).trans (hc _ σ)) fun p => shB0 (boolAV_sh p.1) fun t => shC (shB ((congrArg (f · (pre ++ p.2)) (setv_sh ρ x d).symm).trans (hf _ p.2)) fun q => shB0 (d_sh q.1) fun e => ih q.2 (e :: acc)) (ih p.2 acc)

mutual
theorem ev_sh (hF : FSh pre F) : ∀ (t : T) (ρ : Slots) (σ : Store), ev F t (ρ.map (shO pre.length)) (pre ++ σ) = (ev F t ρ σ).map (shP pre)
  | .bot, ρ, σ => rfl
  | .c d, ρ, σ => rfl
  | .gv x d, ρ, σ => rfl
  | .v i, ρ, σ => shM (slot_sh ρ i) fun _ => rfl
  | .bin op a b, ρ, σ => shB (ev_sh hF a ρ σ) fun p => shB (ev_sh hF b ρ p.2) fun q => shM (binAV_sh op p.1 q.1) fun _ => rfl
  | .neg a, ρ, σ => shB (ev_sh hF a ρ σ) fun p => shM0 (intAV_sh p.1) fun _ => rfl
  | .not a, ρ, σ => shB (ev_sh hF a ρ σ) fun p => shM0 (boolAV_sh p.1) fun _ => rfl
  | .and a b, ρ, σ => shB (ev_sh hF a ρ σ) fun p => shB0 (boolAV_sh p.1) fun c => shC (shB (ev_sh hF b ρ p.2) fun q => shM0 (boolAV_sh q.1) fun _ => rfl) rfl
  | .or a b, ρ, σ => shB (ev_sh hF a ρ σ) fun p => shB0 (boolAV_sh p.1) fun c => shC rfl (shB (ev_sh hF b ρ p.2) fun q => shM0 (boolAV_sh q.1) fun _ => rfl)
  | .cmp op a b, ρ, σ => shB (ev_sh hF a ρ σ) fun p => shB (ev_sh hF b ρ p.2) fun q => shM0 (cmpAV_sh op p.1 q.1) fun _ => rfl
  | .ite c a b, ρ, σ => shB (ev_sh hF c ρ σ) fun p => shB0 (boolAV_sh p.1) fun t => shC (ev_sh hF a ρ p.2) (ev_sh hF b ρ p.2)
  | .call f as, ρ, σ => shB (evs_sh hF as ρ σ) fun p => hF f p.1 p.2
  | .new c as, ρ, σ => shB (evs_sh hF as ρ σ) fun p => shB (hF _ p.1 p.2) fun q => (congrArg (fun n => settle n (shA pre.length q.1) (pre ++ q.2)) List.length_append).trans (settle_sh _ _)
  | .bi b as, ρ, σ => shB (evs_sh hF as ρ σ) fun p => shM (biAV_sh b p.1) fun _ => rfl
  | .meth m o as, ρ, σ => shB (ev_sh hF o ρ σ) fun p => shB (evs_sh hF as ρ p.2) fun q => shM (meAV_sh m p.1 q.1) fun _ => rfl
  | .attr o n, ρ, σ => shB (ev_sh hF o ρ σ) fun p => shB0 (cellOf_sh p.1) fun d => shM (attrOf_sh n d).symm fun _ => rfl
  | .idx o i, ρ, σ => shB (ev_sh hF o ρ σ) fun p => shB (ev_sh hF i ρ p.2) fun q => shM (idxAV_sh p.1 q.1) fun _ => rfl
  | .sl o lo hi, ρ, σ => shB (ev_sh hF o ρ σ) fun p => shB (ev_sh hF lo ρ p.2) fun q => shB (ev_sh hF hi ρ q.2) fun r => shM (slAV_sh p.1 q.1 r.1) fun _ => rfl
  | .tup l, ρ, σ => shB (evs_sh hF l ρ σ) fun p => shM0 (vals_sh p.1) fun _ => rfl
  | .list l, ρ, σ => shB (evs_sh hF l ρ σ) fun p => shM0 (vals_sh p.1) fun _ => rfl
  | .tbl ks vs i, ρ, σ => shB (ev_sh hF i ρ σ) fun p => shB0 (d_sh p.1) fun d => shM0 (o := tblOf ks vs d) rfl fun _ => rfl
  | .lc elt x it, ρ, σ => shB (ev_sh hF it ρ σ) fun p => shB0 (itemsOf_sh p.1) fun ds => shI (shM (lcLoop_sh (fun ρ σ => ev_sh hF elt ρ σ) x ρ ds p.2 []) fun _ => rfl)
  | .lcf elt x it c, ρ, σ => shB (ev_sh hF it ρ σ) fun p => shB0 (itemsOf_sh p.1) fun ds => shI (shM (lcLoopF_sh (fun ρ σ => ev_sh hF c ρ σ) (fun ρ σ => ev_sh hF elt ρ σ) x ρ ds p.2 []) fun _ => rfl)
  | .fs ps, ρ, σ => shB (evs_sh hF ps ρ σ) fun p => shB0 (congrArg (Option.bind · strs?) (vals_sh p.1)) fun ss => shI rfl
theorem evs_sh (hF : FSh pre F) : ∀ (l : List T) (ρ : Slots) (σ : Store), evs F l (ρ.map (shO pre.length)) (pre ++ σ) = (evs F l ρ σ).map (shPs pre)
  | [], ρ, σ => rfl
  | t :: r, ρ, σ => shB (ev_sh hF t ρ σ) fun p => shM (evs_sh hF r ρ p.2) fun _ => rfl
end
end
end Mine

namespace Mine
open PySem PySem.W

section
variable {pre : Store} {F : Fns}
/-- a statement, then the rest -/
theorem shS {o o' : Option (Fl × Slots × Store)} {x x' : Slots → Store → Option (Fl × Slots × Store)} (e : o' = o.map (shF pre)) (n : ∀ ρ σ, x' (ρ.map (shO pre.length)) (pre ++ σ) = (x ρ σ).map (shF pre)) :
    (o'.bind fun q => q.1.on (x' q.2.1 q.2.2) fun a => some (.ret a, q.2.1, q.2.2)) = (o.bind fun q => q.1.on (x q.2.1 q.2.2) fun a => some (.ret a, q.2.1, q.2.2)).map (shF pre) := by
  rw [e]
  cases o with
  | none => rfl
  | some q =>
    obtain ⟨f, ρ, σ⟩ := q
    cases f with
    | next => exact n ρ σ
    | ret a => rfl
theorem whLoop_sh {c : Slots → Store → Option (AV × Store)} {b : Slots → Store → Option (Fl × Slots × Store)} (hc : ∀ ρ σ, c (ρ.map (shO pre.length)) (pre ++ σ) = (c ρ σ).map (shP pre)) (hb : ∀ ρ σ, b (ρ.map (shO pre.length)) (pre ++ σ) = (b ρ σ).map (shF pre)) (n : Nat) :
    ∀ (ρ : Slots) (σ : Store), whLoop c b n (ρ.map (shO pre.length)) (pre ++ σ) = (whLoop c b n ρ σ).map (shF pre) := by
  induction n with
  | zero => intro ρ σ; rfl
  | succ n ih => intro ρ σ; exact shB (hc ρ σ) fun p => shB0 (boolAV_sh p.1) fun t => shC (shS (hb ρ p.2) ih) rfl
theorem forLoop_sh {b : Slots → Store → Option (Fl × Slots × Store)} (hb : ∀ ρ σ, b (ρ.map (shO pre.length)) (pre ++ σ) = (b ρ σ).map (shF pre)) (x : Nat) (ds : List D) :
    ∀ (ρ : Slots) (σ : Store), forLoop b x ds (ρ.map (shO pre.length)) (pre ++ σ) = (forLoop b x ds ρ σ).map (shF pre) := by
  induction ds with
  | nil => intro ρ σ; rfl
  | cons d r ih => intro ρ σ; exact shS ((congrArg (b · (pre ++ σ)) (setv_sh ρ x d).symm).trans (hb _ σ)) ih
theorem setSlots_sh {k : Nat} (xs : List Nat) : ∀ (ds : List D) (ρ : Slots), setSlots xs ds (ρ.map (shO k)) = (setSlots xs ds ρ).map (·.map (shO k)) := by
  induction xs with
  | nil => intro ds ρ; cases ds <;> rfl
  | cons x xs ih =>
    intro ds ρ
    cases ds with
    | nil => rfl
    | cons d ds => exact (congrArg (setSlots xs ds) (setv_sh ρ x d).symm).trans (ih ds _)
theorem augAV_sh (op : Bop) (x y : AV) {k : Nat} : augAV op (shA k x) (shA k y) = (augAV op x y).map (shA k) := by
  unfold augAV
  rw [d_sh]
  exact shC rfl (binAV_sh op x y)
theorem tup_sh {k : Nat} (a : AV) : tupList? (shA k a) = tupList? a := by unfold tupList?; rw [d_sh]
theorem listV_sh {k : Nat} (a : AV) : listV (shA k a) = listV a := by unfold listV; rw [d_sh]
theorem loc_sh {k : Nat} (a : AV) : (shA k a).loc? = a.loc?.map (k + ·) := by cases a <;> rfl
theorem upd_sh {ρ ρ' : Slots} {σ : Store} {i : Nat} {f : D → Option D} (e : ρ' = ρ.map (shO pre.length)) : ((((pre ++ σ)[pre.length + i]?).bind f).map fun c => (Fl.next, ρ', (pre ++ σ).set (pre.length + i) c)) = (((σ[i]?).bind f).map fun c => (Fl.next, ρ, σ.set i c)).map (shF pre) := by
  rw [get_sh, e]
  exact shM0 rfl fun c => congrArg (fun s => (Fl.next, ρ.map (shO pre.length), s)) (set_sh i c)
theorem any_sh {σ : Store} {i : Nat} {x x' : Option (Fl × Slots × Store)} (h : x' = x.map (shF pre)) : (if ((pre ++ σ)[pre.length + i]?).any isL = true then x' else none) = (if (σ[i]?).any isL = true then x else none).map (shF pre) := by
  rw [get_sh]
  exact shI h
theorem frzS_sh {ρ : Slots} {σ : Store} {x : Nat} (a : AV) : frzS (ρ.map (shO pre.length)) (pre ++ σ) x (shA pre.length a) = (frzS ρ σ x a).map (shF pre) := by
  cases a with
  | val d => exact congrArg (fun r => some (Fl.next, r, pre ++ σ)) (setv_sh ρ x d).symm
  | loc i => exact shB0 (get_sh i) fun c => shM0 rfl fun d => by rw [set_sh, ← setv_sh]; rfl

mutual
theorem evS_sh (hF : FSh pre F) : ∀ (s : S) (ρ : Slots) (σ : Store), evS F s (ρ.map (shO pre.length)) (pre ++ σ) = (evS F s ρ σ).map (shF pre)
  | .bot, ρ, σ => rfl
  | .asg x t, ρ, σ => shM (ev_sh hF t ρ σ) fun p => congrArg (fun r => (Fl.next, r, pre ++ p.2)) (seta_sh ρ x p.1).symm
  | .asgL x ts, ρ, σ => shB (evs_sh hF ts ρ σ) fun p => shM0 (vals_sh p.1) fun ds => by
    show (Fl.next, (ρ.map (shO pre.length)).set x (some (.loc (pre ++ p.2).length)), (pre ++ p.2) ++ [.list ds]) = _
    rw [List.length_append, List.append_assoc]
    exact congrArg (fun r => (Fl.next, r, pre ++ (p.2 ++ [.list ds]))) (seta_sh ρ x (.loc p.2.length)).symm
  | .asgN x c as, ρ, σ => shB (evs_sh hF as ρ σ) fun p => shM (hF _ p.1 p.2) fun q => congrArg (fun r => (Fl.next, r, pre ++ q.2)) (seta_sh ρ x q.1).symm
  | .asgT xs t, ρ, σ => shB (ev_sh hF t ρ σ) fun p => shM (shB0 (tup_sh p.1) fun ds => setSlots_sh xs ds ρ) fun _ => rfl
  | .aug x op t, ρ, σ => shB (slot_sh ρ x) fun a => shB (ev_sh hF t ρ σ) fun p => shM (augAV_sh op a p.1) fun z => congrArg (fun r => (Fl.next, r, pre ++ p.2)) (seta_sh ρ x z).symm
  | .augL x t, ρ, σ => shB (shB (slot_sh ρ x) fun a => loc_sh a) fun i => shB (ev_sh hF t ρ σ) fun p => shB0 (listV_sh p.1) fun l => upd_sh (seta_sh ρ x (.loc i)).symm
  | .sattr o n t, ρ, σ => shB (ev_sh hF t ρ σ) fun p => shB0 (d_sh p.1) fun d => shB (ev_sh hF o ρ p.2) fun q => shB (loc_sh q.1) fun i => upd_sh rfl
  | .sattrD o n k t, ρ, σ => shB (ev_sh hF t ρ σ) fun p => shB0 (d_sh p.1) fun d => shB (ev_sh hF o ρ p.2) fun q => shB (loc_sh q.1) fun i => upd_sh rfl
  | .sidx o i t, ρ, σ => shB (ev_sh hF t ρ σ) fun p => shB0 (d_sh p.1) fun d => shB (ev_sh hF o ρ p.2) fun q => shB (loc_sh q.1) fun j => shB (ev_sh hF i ρ q.2) fun r => shB0 (intAV_sh r.1) fun k => upd_sh rfl
  | .sidx2 o n k t, ρ, σ => shB (ev_sh hF t ρ σ) fun p => shB0 (d_sh p.1) fun d => shB (ev_sh hF o ρ p.2) fun q => shB (loc_sh q.1) fun i => upd_sh rfl
  | .app o t, ρ, σ => shB (ev_sh hF o ρ σ) fun p => shB (loc_sh p.1) fun i => any_sh (shB (ev_sh hF t ρ p.2) fun q => shB0 (d_sh q.1) fun d => upd_sh rfl)
  | .ext o t, ρ, σ => shB (ev_sh hF o ρ σ) fun p => shB (loc_sh p.1) fun i => any_sh (shB (ev_sh hF t ρ p.2) fun q => shB0 (listV_sh q.1) fun d => upd_sh rfl)
  | .rev o, ρ, σ => shB (ev_sh hF o ρ σ) fun p => shB (loc_sh p.1) fun i => upd_sh rfl
  | .iff c a b, ρ, σ => shB (ev_sh hF c ρ σ) fun p => shB0 (boolAV_sh p.1) fun t => shC (evSs_sh hF a ρ p.2) (evSs_sh hF b ρ p.2)
  | .whl c b, ρ, σ => whLoop_sh (fun ρ σ => ev_sh hF c ρ σ) (fun ρ σ => evSs_sh hF b ρ σ) 24 ρ σ
  | .forr x it b, ρ, σ => shB (ev_sh hF it ρ σ) fun p => shB0 (itemsOf_sh p.1) fun ds => shI (forLoop_sh (fun ρ σ => evSs_sh hF b ρ σ) x ds ρ p.2)
  | .ret t, ρ, σ => shM (ev_sh hF t ρ σ) fun _ => rfl
  | .frzv x, ρ, σ => shB (slot_sh ρ x) fun a => frzS_sh a
theorem evSs_sh (hF : FSh pre F) : ∀ (l : List S) (ρ : Slots) (σ : Store), evSs F l (ρ.map (shO pre.length)) (pre ++ σ) = (evSs F l ρ σ).map (shF pre)
  | [], ρ, σ => rfl
  | s :: r, ρ, σ => shS (evS_sh hF s ρ σ) fun ρ σ => evSs_sh hF r ρ σ
end

theorem pad_sh {k n : Nat} (as : List AV) : pad n (as.map (shA k)) = (pad n as).map (shO k) := by
  unfold pad
  simp [Function.comp_def]
theorem dflt_sh {k : Nat} (ds : List D) : (ds.map AV.val).map (shA k) = ds.map AV.val := by
  simp [Function.comp_def, shA]
theorem on_sh {q : Fl × Slots × Store} {x' : Store → Option (AV × Store)} {y' : AV → Store → Option (AV × Store)} {x : Store → Option (AV × Store)} {y : AV → Store → Option (AV × Store)} (e : ∀ σ, x' (pre ++ σ) = (x σ).map (shP pre)) (f : ∀ a σ, y' (shA pre.length a) (pre ++ σ) = (y a σ).map (shP pre)) :
    (shF pre q).1.on (x' (shF pre q).2.2) (fun a => y' a (shF pre q).2.2) = (q.1.on (x q.2.2) fun a => y a q.2.2).map (shP pre) := by
  obtain ⟨fl, ρ, σ⟩ := q
  cases fl with
  | next => exact e σ
  | ret a => exact f a σ
theorem lenv_sh {σ σ' : Store} (a : AV) : leave (pre ++ σ).length (shA pre.length a) (pre ++ σ') = (leave σ.length a σ').map (shP pre) := by rw [List.length_append]; exact leave_sh _ _
theorem runF_sh (hF : FSh pre F) (fd : Fun) (as : List AV) (σ : Store) : runF F fd (as.map (shA pre.length)) (pre ++ σ) = (runF F fd as σ).map (shP pre) := by
  have e : pad fd.ns (as.map (shA pre.length) ++ fd.dflt.map .val) = (pad fd.ns (as ++ fd.dflt.map .val)).map (shO pre.length) := by
    rw [← pad_sh, List.map_append, dflt_sh]
  unfold runF
  rw [List.length_map, e]
  exact shI (shB (evSs_sh hF fd.body _ σ) fun q => on_sh (x' := leave (pre ++ σ).length (.val .none)) (y' := fun a s => leave (pre ++ σ).length a s) (x := leave σ.length (.val .none)) (y := fun a s => leave σ.length a s) (fun _ => lenv_sh (.val .none)) fun a _ => lenv_sh a)
theorem runC_sh (hF : FSh pre F) (c : Nat) (fd : Fun) (as : List AV) (σ : Store) : runC F c fd (as.map (shA pre.length)) (pre ++ σ) = (runC F c fd as σ).map (shP pre) := by
  have e : pad fd.ns (.loc (pre ++ σ).length :: as.map (shA pre.length) ++ fd.dflt.map .val) = (pad fd.ns (.loc σ.length :: as ++ fd.dflt.map .val)).map (shO pre.length) := by
    rw [← pad_sh, List.map_append, dflt_sh, List.length_append]; rfl
  unfold runC
  rw [List.length_map, e, List.append_assoc]
  refine shI (shB (evSs_sh hF fd.body _ _) fun q => on_sh (x' := fun s => leave (pre ++ σ).length (.loc (pre ++ σ).length) (s.take ((pre ++ σ).length + 1))) (y' := fun _ _ => none) (x := fun s => leave σ.length (.loc σ.length) (s.take (σ.length + 1))) (y := fun _ _ => none) (fun s => ?_) fun a _ => rfl)
  rw [List.length_append, Nat.add_assoc, take_sh]
  exact leave_sh σ.length (.loc σ.length)
theorem callN_sh {P C : Nat → Option Fun} (n : Nat) : FSh pre (callN P C n) := by
  induction n with
  | zero => intro f as σ; rfl
  | succ n ih =>
    intro f as σ
    unfold callN
    by_cases h : f < 1000
    · rw [if_pos h, if_pos h]; exact shB0 rfl fun fd => runF_sh ih fd as σ
    · rw [if_neg h, if_neg h]; exact shB0 rfl fun fd => runC_sh ih _ fd as σ
/-- a call on trees alone, seen once in the empty store -/
theorem lift {n f : Nat} {ds : List D} {d : D} (h : callN P0 C0 n f (ds.map .val) [] = some (.val d, [])) (σ : Store) : callN P0 C0 n f (ds.map .val) σ = some (.val d, σ) := by
  have := callN_sh (pre := σ) (P := P0) (C := C0) n f (ds.map .val) []
  rw [dflt_sh, List.append_nil, h] at this
  simpa [shP, shA] using this
end
end Mine

namespace Mine
open PySem PySem.W
noncomputable section

/-! leaf functions on finite data, seen by the kernel -/
noncomputable def outD (o : Option (AV × Store)) : Option D := o.bind fun p => fin p.2 p.1.d?
theorem of_fin {α β : Type} {l : List α} {o : Option β} {z : β} (h : fin l o = some z) : l = [] ∧ o = some z := by
  cases l with
  | nil => exact ⟨rfl, h⟩
  | cons _ _ => cases h
theorem of_outD {o : Option (AV × Store)} {d : D} (h : outD o = some d) : o = some (.val d, []) := by
  obtain ⟨⟨a, σ⟩, rfl, h⟩ := of_bind h
  obtain ⟨h1, h2⟩ := of_fin h
  cases h1
  rw [show a = .val d from AV.of_d h2]
noncomputable def isStr (o : Option (AV × Store)) (t : Str) : Bool := ((outD o).bind D.str?).any (· == t)
theorem of_any {α : Type} {o : Option α} {f : α → Bool} (h : o.any f = true) : ∃ a, o = some a ∧ f a = true := by
  cases o with
  | none => cases h
  | some a => exact ⟨a, rfl, h⟩
theorem isStr_eq {o : Option (AV × Store)} {t : Str} (h : isStr o t = true) : o = some (.val (.str t), []) := by
  obtain ⟨s, h1, h2⟩ := of_any h
  obtain ⟨d, h3, h4⟩ := of_bind h1
  rw [of_outD h3, D.of_str h4, eq_of_beq h2]
noncomputable def strOut (o : Option (AV × Store)) : Str := (o.bind fun p => p.1.d?.bind D.str?).getD Str.empty
noncomputable def textDom : List D := [.none, .str "a", .str "bb", .str "", .str "c\"d", .str "e\\f", .str "g\nh", .str "long word here", .str "é", .str "bcdef", .str "g\\", .str "u", .str "vw"]
noncomputable def intDom : List D := [.none, .int 0, .int 1, .int (-2), .int 35, .int 1000000, .int (-47), .int 8, .int 9, .int 10, .int 123, .int 2147483647]
noncomputable def logDom : List D := [.none, .int 0, .int 1]
noncomputable def frac (a b : Int) : D := .tup [.int a, .int b]
noncomputable def fracDom : List D := [frac 0 1, frac 1 2, frac (-3) 4, frac 12 1, frac 1 4, frac (-7) 1, frac 5 2, frac 101 1, frac 250 1, frac (-99) 2, frac 3 4]
noncomputable def enc (q : Bool) (d : D) : Str := strOut (callN P0 C0 1 422 [.val d, .val (.bool q)] [])
noncomputable def intT (d : D) : Str := (d.int?.map fun i => Str.ofString (toString i)).getD "NA"
noncomputable def logT (d : D) : Str := (d.int?.map fun i => cond (i == 1) "TRUE" "FALSE").getD "NA"
noncomputable def figT (p : Int) (d : D) : Str := strOut (callN P0 C0 1 436 [.val d, .val (.int p)] [])
noncomputable def decT (d : D) : Int := ((d.tup?.bind fun l => two l fun _ x => x.int?).map fun i => cond (i == 2) 1 (cond (i == 4) 2 0)).getD 0
noncomputable def isInt (o : Option (AV × Store)) (t : Int) : Bool := ((outD o).bind D.int?).any (· == t)
theorem isInt_eq {o : Option (AV × Store)} {t : Int} (h : isInt o t = true) : o = some (.val (.int t), []) := by
  obtain ⟨s, h1, h2⟩ := of_any h
  obtain ⟨d, h3, h4⟩ := of_bind h1
  rw [of_outD h3, D.of_int h4, eq_of_beq h2]
noncomputable def fig (p : Int) (d : D) : Str := cond d.isNone "NA" (figT p d)
noncomputable def measP (p c l e : Int) : Prop := A7 (1 ≤ c) (c ≤ 3) (1 ≤ l) (l ≤ 3) (-100 < e) (e < 100) (p = 2 → 2 ≤ c)
noncomputable def measB (p c l e : Int) : Bool := decide (1 ≤ c) && (decide (c ≤ 3) && (decide (1 ≤ l) && (decide (l ≤ 3) && (decide (-100 < e) && (decide (e < 100) && (decide (p ≠ 2) || decide (2 ≤ c)))))))
theorem of_measB {p c l e : Int} (h : measB p c l e = true) : measP p c l e := by
  have h1 := bAnd h
  have h2 := bAnd h1.2
  have h3 := bAnd h2.2
  have h4 := bAnd h3.2
  have h5 := bAnd h4.2
  have h6 := bAnd h5.2
  exact ⟨bDec h1.1, bDec h2.1, bDec h3.1, bDec h4.1, bDec h5.1, bDec h6.1, fun q => bOr h6.2 (fun h => absurd q (bDec h)) bDec⟩
noncomputable def isMeas (o : Option (AV × Store)) (p : Int) : Bool := ((outD o).bind D.tup?).any fun d => (unc d fun c d => three d fun l q e => intD c l fun c l => intD q e fun q e => cond (q == p && measB p c l e) (some ()) none).isSome
theorem isMeas_eq {o : Option (AV × Store)} {p : Int} (h : isMeas o p = true) : X3 fun (c l e : Int) => o = some (.val (.tup [.int c, .int l, .int p, .int e]), []) ∧ measP p c l e := by
  obtain ⟨d, h1, h⟩ := of_any h
  obtain ⟨d0, h2, h3⟩ := of_bind h1
  obtain ⟨u, h⟩ := Option.isSome_iff_exists.mp h
  obtain ⟨c, d1, e1, h⟩ := of_unc h
  obtain ⟨l, q, e, e2, h⟩ := of_three h
  obtain ⟨c', l', e3, e4, h⟩ := of_intD h
  obtain ⟨q', e', e5, e6, h⟩ := of_intD h
  refine of_condC h (fun hb _ => ?_) fun _ h => nomatch h
  have hb := bAnd hb
  refine ⟨c', l', e', ?_, of_measB hb.2⟩
  rw [of_outD h2, D.of_tup h3, e1, e2, e3, e4, e5, e6, eq_of_beq hb.1]
noncomputable def good (t : Str) : Bool := decide (t.length ≤ 20) && PyData.strOk t
noncomputable def t1 (M : Nat) : Bool := textDom.all fun d => [true, false].all fun q => isStr (callN P0 C0 (M + 1) 422 [.val d, .val (.bool q)] []) (enc q d) && isStr (callN P0 C0 (M + 3) 240 [.val (.str "character"), .val d, .val (.int 7), .val (.bool q)] []) (enc q d) && good (enc q d) && isStr (callN P0 C0 (M + 2) 218 [.val d, .val (.bool q)] []) (enc q d)
theorem t1_ok (M : Nat) : t1 M = true := by kernel_rfl
noncomputable def t2 (M : Nat) : Bool := intDom.all fun d => [true, false].all fun q => isStr (callN P0 C0 (M + 3) 240 [.val (.str "integer"), .val d, .val (.int 7), .val (.bool q)] []) (intT d) && good (intT d)
theorem t2_ok (M : Nat) : t2 M = true := by kernel_rfl
noncomputable def t3 (M : Nat) : Bool := logDom.all fun d => [true, false].all fun q => isStr (callN P0 C0 (M + 3) 240 [.val (.str "logical"), .val d, .val (.int 7), .val (.bool q)] []) (logT d) && good (logT d)
theorem t3_ok (M : Nat) : t3 M = true := by kernel_rfl
noncomputable def t4 (M : Nat) : Bool := fracDom.all fun d => isMeas (callN P0 C0 (M + 4) 115 [.val d, .val (.int 7)] []) (decT d) && isInt (callN P0 C0 (M + 1) 429 [.val d] []) (decT d) && decide (0 ≤ decT d) && decide (decT d ≤ 2) && [0, 1, 2].all fun p => decide (p < decT d) || (isStr (callN P0 C0 (M + 1) 436 [.val d, .val (.int p)] []) (fig p d) && isStr (callN P0 C0 (M + 3) 129 [.val d, .val (.tup [.str "fixed", .int p])] []) (fig p d) && good (fig p d))
theorem t4_ok (M : Nat) : t4 M = true := by kernel_rfl
noncomputable def t5 (M : Nat) : Bool := isStr (callN P0 C0 (M + 3) 129 [.val .none, .val (.tup [.str "fixed", .int 0])] []) (fig 0 .none) && isStr (callN P0 C0 (M + 3) 129 [.val .none, .val (.tup [.str "fixed", .int 1])] []) (fig 1 .none) && isStr (callN P0 C0 (M + 3) 129 [.val .none, .val (.tup [.str "fixed", .int 2])] []) (fig 2 .none) && good (fig 0 .none)
theorem t5_ok (M : Nat) : t5 M = true := by kernel_rfl
end
end Mine

namespace Mine
open PySem PySem.W

/-! stepping through the small language -/
noncomputable abbrev FN (n : Nat) : Fns := callN P0 C0 n
noncomputable def outF (o : Option (Fl × Slots × Store)) (b : Nat) : Option (AV × Store) := o.bind fun q => q.1.on (leave b (.val .none) q.2.2) fun a => leave b a q.2.2
theorem suc_of {N k : Nat} (h : k + 1 ≤ N) : ∃ n, N = n + 1 := ⟨N - 1, (Nat.sub_add_cancel (Nat.le_trans (Nat.le_add_left 1 k) h)).symm⟩
theorem fn_eq {n f : Nat} {fd : Fun} {as : List AV} {σ : Store} (hP : P0 f = some fd) (hf : f < 1000) (hl : as.length + fd.dflt.length = fd.np) :
    FN (n + 1) f as σ = outF (evSs (FN n) fd.body (pad fd.ns (as ++ fd.dflt.map .val)) σ) σ.length := by
  show (if f < 1000 then (P0 f).bind fun fd => runF (callN P0 C0 n) fd as σ else _) = _
  rw [if_pos hf, hP]
  exact if_pos hl
theorem fn_run {n f : Nat} {fd : Fun} {as : List AV} {σ : Store} {v : AV × Store} (hP : P0 f = some fd) (hf : f < 1000) (hl : as.length + fd.dflt.length = fd.np)
    (h : evSsC (FN n) fd.body (pad fd.ns (as ++ fd.dflt.map .val)) σ (fun _ s => leave σ.length (.val .none) s = some v) fun a _ s => leave σ.length a s = some v) : FN (n + 1) f as σ = some v :=
  (fn_eq hP hf hl).trans (stpEq (stpBind ((evSsC_st fd.body h).mono fun _ h => stpOn h eqStp fun _ h => eqStp h)))
theorem leave_val {d : D} {σ : Store} : leave σ.length (.val d) σ = some (.val d, σ) := by simp [leave]
theorem leave_eq {d e : D} {σ : Store} (h : d = e) : leave σ.length (.val d) σ = some (.val e, σ) := by rw [h]; exact leave_val
theorem leave_at1 {d e : D} {x : D} {σ : Store} (h : d = e) {y : D} : leave (x :: σ).length (.val d) (y :: σ) = some (.val e, y :: σ) := by
  rw [h]
  exact congrArg (fun z => some (AV.val e, z)) (List.take_length (l := y :: σ))
theorem leave_more {d : D} {σ x : Store} : leave σ.length (.val d) (σ ++ x) = some (.val d, σ) := by simp [leave]
theorem leave_list {l : List D} {σ x : Store} {i : Nat} (h : x[i]? = some (.list l)) : leave σ.length (.loc (σ.length + i)) (σ ++ x) = some (.val (.list l), σ) := by
  simp [leave, get_sh, h]
theorem fuel {k N : Nat} (h : k ≤ N) : ∃ M, N = M + k := ⟨N - k, by omega⟩
section
variable {F : Fns} {ρ ρ₁ : Slots} {σ σ₁ : Store}
theorem evSs_next {s : S} {r : List S} (h : evS F s ρ σ = some (.next, ρ₁, σ₁)) : evSs F (s :: r) ρ σ = evSs F r ρ₁ σ₁ := by
  show (evS F s ρ σ).bind _ = _
  rw [h]; rfl
theorem evSs_ret {s : S} {r : List S} {a : AV} (h : evS F s ρ σ = some (.ret a, ρ₁, σ₁)) : evSs F (s :: r) ρ σ = some (.ret a, ρ₁, σ₁) := by
  show (evS F s ρ σ).bind _ = _
  rw [h]; rfl
theorem lcLoop_map {f : Slots → Store → Option (AV × Store)} {x : Nat} {g : D → D} (ds : List D) : ∀ (acc : List D), (∀ d ∈ ds, f (ρ.set x (some (.val d))) σ = some (.val (g d), σ)) → lcLoop f x ρ ds σ acc = some (acc.reverse ++ ds.map g, σ) := by
  induction ds with
  | nil => intro acc h; exact congrArg (fun l => some (l, σ)) (List.append_nil _).symm
  | cons d r ih =>
    intro acc h
    rw [lcLoop, h d (.head _)]
    refine (ih (g d :: acc) fun e he => h e (.tail _ he)).trans (congrArg (fun l => some (l, σ)) ?_)
    rw [List.reverse_cons, List.append_assoc]; rfl
theorem lcLoopF_map {c f : Slots → Store → Option (AV × Store)} {x : Nat} {p : D → Bool} {g : D → D} (ds : List D) : ∀ (acc : List D), (∀ d ∈ ds, c (ρ.set x (some (.val d))) σ = some (.val (.bool (p d)), σ)) → (∀ d ∈ ds, p d = true → f (ρ.set x (some (.val d))) σ = some (.val (g d), σ)) →
    lcLoopF c f x ρ ds σ acc = some (acc.reverse ++ (ds.filter p).map g, σ) := by
  induction ds with
  | nil => intro acc _ _; exact congrArg (fun l => some (l, σ)) (List.append_nil _).symm
  | cons d r ih =>
    intro acc hc h
    have hc' := fun e he => hc e (.tail _ he)
    have h' := fun e he => h e (.tail _ he)
    rw [lcLoopF, hc d (.head _)]
    show cond (p d) _ _ = _
    cases hp : p d with
    | true =>
      show (f _ σ).bind _ = _
      rw [h d (.head _) hp, List.filter_cons, if_pos hp]
      refine (ih (g d :: acc) hc' h').trans (congrArg (fun l => some (l, σ)) ?_)
      rw [List.reverse_cons, List.append_assoc]; rfl
    | false => rw [List.filter_cons, if_neg (by rw [hp]; exact Bool.false_ne_true)]; exact ih acc hc' h'
theorem lc_map {f : Slots → Store → Option (AV × Store)} {x : Nat} (g : D → D) (ds : List D) (h : ∀ d ∈ ds, f (ρ.set x (some (.val d))) σ = some (.val (g d), σ)) : lcLoop f x ρ ds σ [] = some (ds.map g, σ) := lcLoop_map ds [] h
theorem lc_acc {α : Type} {f : Slots → Store → Option (AV × Store)} {x : Nat} (i g : α → D) : ∀ (l : List α) (acc : List D), (∀ a ∈ l, f (ρ.set x (some (.val (i a)))) σ = some (.val (g a), σ)) → lcLoop f x ρ (l.map i) σ acc = some (acc.reverse ++ l.map g, σ)
  | [], acc, _ => congrArg (fun l => some (l, σ)) (List.append_nil _).symm
  | a :: r, acc, h => by
    rw [List.map_cons, lcLoop, h a (.head _)]
    refine (lc_acc i g r (g a :: acc) fun e he => h e (.tail _ he)).trans (congrArg (fun l => some (l, σ)) ?_)
    rw [List.reverse_cons, List.append_assoc]; rfl
theorem lc_on {α : Type} {f : Slots → Store → Option (AV × Store)} {x : Nat} (i g : α → D) (l : List α) (h : ∀ a ∈ l, f (ρ.set x (some (.val (i a)))) σ = some (.val (g a), σ)) : lcLoop f x ρ (l.map i) σ [] = some (l.map g, σ) := lc_acc i g l [] h
theorem lcf_map {c f : Slots → Store → Option (AV × Store)} {x : Nat} (p : D → Bool) (g : D → D) (ds : List D) (hc : ∀ d ∈ ds, c (ρ.set x (some (.val d))) σ = some (.val (.bool (p d)), σ)) (h : ∀ d ∈ ds, p d = true → f (ρ.set x (some (.val d))) σ = some (.val (g d), σ)) : lcLoopF c f x ρ ds σ [] = some ((ds.filter p).map g, σ) := lcLoopF_map ds [] hc h
theorem ev_lc {elt it : T} {x : Nat} {a : AV} {ds : List D} (g : D → D) (hi : ev F it ρ σ = some (a, σ)) (hd : itemsOf a = some ds) (hl : ds.length ≤ lim) (hf : ∀ d ∈ ds, ev F elt (ρ.set x (some (.val d))) σ = some (.val (g d), σ)) :
    ev F (.lc elt x it) ρ σ = some (.val (.list (ds.map g)), σ) := by
  show (ev F it ρ σ).bind _ = _
  rw [hi]
  show (itemsOf a).bind _ = _
  rw [hd]
  show (if ds.length ≤ lim then (lcLoop (ev F elt) x ρ ds σ []).map _ else none) = _
  rw [if_pos hl, lcLoop_map ds [] hf]; rfl
theorem ev_lcf {elt it c : T} {x : Nat} {a : AV} {ds : List D} (p : D → Bool) (g : D → D) (hi : ev F it ρ σ = some (a, σ)) (hd : itemsOf a = some ds) (hl : ds.length ≤ lim) (hc : ∀ d ∈ ds, ev F c (ρ.set x (some (.val d))) σ = some (.val (.bool (p d)), σ)) (hf : ∀ d ∈ ds, p d = true → ev F elt (ρ.set x (some (.val d))) σ = some (.val (g d), σ)) :
    ev F (.lcf elt x it c) ρ σ = some (.val (.list ((ds.filter p).map g)), σ) := by
  show (ev F it ρ σ).bind _ = _
  rw [hi]
  show (itemsOf a).bind _ = _
  rw [hd]
  show (if ds.length ≤ lim then (lcLoopF (ev F c) (ev F elt) x ρ ds σ []).map _ else none) = _
  rw [if_pos hl, lcLoopF_map ds [] hc hf]; rfl
theorem evS_forr {x : Nat} {it : T} {b : List S} {a : AV} {ds : List D} (hi : ev F it ρ σ = some (a, σ₁)) (hd : itemsOf a = some ds) (hl : ds.length ≤ lim) : evS F (.forr x it b) ρ σ = forLoop (evSs F b) x ds ρ σ₁ := by
  show (ev F it ρ σ).bind _ = _
  rw [hi]
  show (itemsOf a).bind _ = _
  rw [hd]
  exact if_pos hl
theorem for_next {b : Slots → Store → Option (Fl × Slots × Store)} {x : Nat} {d : D} {r : List D} (h : b (ρ.set x (some (.val d))) σ = some (.next, ρ₁, σ₁)) : forLoop b x (d :: r) ρ σ = forLoop b x r ρ₁ σ₁ := by rw [forLoop, h]; rfl
/-- a loop's word -/
theorem for_inv {b : Slots → Store → Option (Fl × Slots × Store)} {x : Nat} (I : List D → Slots → Store → Prop) : ∀ (ds : List D) (ρ : Slots) (σ : Store), I ds ρ σ →
    (∀ d r ρ σ, I (d :: r) ρ σ → X2 fun ρ' σ' => b (ρ.set x (some (.val d))) σ = some (.next, ρ', σ') ∧ I r ρ' σ') → X2 fun ρ' σ' => forLoop b x ds ρ σ = some (.next, ρ', σ') ∧ I [] ρ' σ'
  | [], ρ, σ, h, _ => ⟨ρ, σ, rfl, h⟩
  | d :: r, ρ, σ, h, hs => by
    obtain ⟨ρ₁, σ₁, e, h₁⟩ := hs d r ρ σ h
    obtain ⟨ρ₂, σ₂, e₂, h₂⟩ := for_inv I r ρ₁ σ₁ h₁ hs
    exact ⟨ρ₂, σ₂, (for_next e).trans e₂, h₂⟩
end
theorem strs_map (l : List Str) : strs? (l.map .str) = some l := by
  induction l with
  | nil => rfl
  | cons s r ih => show (strs? (r.map .str)).map (s :: ·) = _; rw [ih]; rfl
theorem ints_map (l : List Int) : ints? (l.map .int) = some l := by
  induction l with
  | nil => rfl
  | cons s r ih => show (ints? (r.map .int)).map (s :: ·) = _; rw [ih]; rfl

/-! the leaves at any store -/
theorem lift1 {n f : Nat} {a d : D} (h : callN P0 C0 n f [.val a] [] = some (.val d, [])) (σ : Store) : callN P0 C0 n f [.val a] σ = some (.val d, σ) := lift (ds := [a]) h σ
theorem lift2 {n f : Nat} {a b d : D} (h : callN P0 C0 n f [.val a, .val b] [] = some (.val d, [])) (σ : Store) : callN P0 C0 n f [.val a, .val b] σ = some (.val d, σ) := lift (ds := [a, b]) h σ
theorem lift4 {n f : Nat} {a b c e d : D} (h : callN P0 C0 n f [.val a, .val b, .val c, .val e] [] = some (.val d, [])) (σ : Store) : callN P0 C0 n f [.val a, .val b, .val c, .val e] σ = some (.val d, σ) := lift (ds := [a, b, c, e]) h σ
theorem t1_at {N : Nat} (h : 3 ≤ N) {d : D} (hd : d ∈ textDom) (q : Bool) (σ : Store) : FN N 422 [.val d, .val (.bool q)] σ = some (.val (.str (enc q d)), σ) ∧ FN N 240 [.val (.str "character"), .val d, .val (.int 7), .val (.bool q)] σ = some (.val (.str (enc q d)), σ) ∧
    FN N 218 [.val d, .val (.bool q)] σ = some (.val (.str (enc q d)), σ) ∧ good (enc q d) = true := by
  obtain ⟨M, rfl⟩ := fuel h
  have a := t1_ok (M + 2)
  have b := t1_ok M
  have c := t1_ok (M + 1)
  simp only [t1, List.all_eq_true, Bool.and_eq_true] at a b c
  have hq : q ∈ [true, false] := by cases q <;> simp
  have a := a d hd q hq
  have b := b d hd q hq
  have c := c d hd q hq
  exact ⟨lift2 (isStr_eq a.1.1.1) σ, lift4 (isStr_eq b.1.1.2) σ, lift2 (isStr_eq c.2) σ, a.1.2⟩
theorem t2_at {N : Nat} (h : 3 ≤ N) {d : D} (hd : d ∈ intDom) (q : Bool) (σ : Store) : FN N 240 [.val (.str "integer"), .val d, .val (.int 7), .val (.bool q)] σ = some (.val (.str (intT d)), σ) ∧ good (intT d) = true := by
  obtain ⟨M, rfl⟩ := fuel h
  have b := t2_ok M
  simp only [t2, List.all_eq_true, Bool.and_eq_true] at b
  have b := b d hd q (by cases q <;> simp)
  exact ⟨lift4 (isStr_eq b.1) σ, b.2⟩
theorem t3_at {N : Nat} (h : 3 ≤ N) {d : D} (hd : d ∈ logDom) (q : Bool) (σ : Store) : FN N 240 [.val (.str "logical"), .val d, .val (.int 7), .val (.bool q)] σ = some (.val (.str (logT d)), σ) ∧ good (logT d) = true := by
  obtain ⟨M, rfl⟩ := fuel h
  have b := t3_ok M
  simp only [t3, List.all_eq_true, Bool.and_eq_true] at b
  have b := b d hd q (by cases q <;> simp)
  exact ⟨lift4 (isStr_eq b.1) σ, b.2⟩
theorem dec_range {d : D} (hd : d ∈ fracDom) : 0 ≤ decT d ∧ decT d ≤ 2 := by
  have b := t4_ok 0
  simp only [t4, List.all_eq_true, Bool.and_eq_true, decide_eq_true_eq] at b
  exact ⟨(b d hd).1.1.2, (b d hd).1.2⟩
theorem t4_meas {N : Nat} (h : 4 ≤ N) {d : D} (hd : d ∈ fracDom) (σ : Store) : X3 fun (c l e : Int) => A8 (FN N 115 [.val d, .val (.int 7)] σ = some (.val (.tup [.int c, .int l, .int (decT d), .int e]), σ)) (1 ≤ c) (c ≤ 3) (1 ≤ l) (l ≤ 3) (-100 < e) (e < 100) ((decT d = 2 → 2 ≤ c)) := by
  obtain ⟨M, rfl⟩ := fuel h
  have b := t4_ok M
  simp only [t4, List.all_eq_true, Bool.and_eq_true, decide_eq_true_eq] at b
  obtain ⟨c, l, e, h1, ⟨k1, k2, k3, k4, k5, k6, k7⟩⟩ := isMeas_eq (b d hd).1.1.1.1
  exact ⟨c, l, e, lift2 h1 σ, k1, k2, k3, k4, k5, k6, k7⟩
theorem t4_dec {N : Nat} (h : 1 ≤ N) {d : D} (hd : d ∈ fracDom) (σ : Store) : FN N 429 [.val d] σ = some (.val (.int (decT d)), σ) := by
  obtain ⟨M, rfl⟩ := fuel h
  have b := t4_ok M
  simp only [t4, List.all_eq_true, Bool.and_eq_true, decide_eq_true_eq] at b
  exact lift1 (isInt_eq (b d hd).1.1.1.2) σ
theorem mem_p {p : Int} (h0 : 0 ≤ p) (h2 : p ≤ 2) : p ∈ ([0, 1, 2] : List Int) := by
  simp; omega
theorem t4_fig {N : Nat} (h : 3 ≤ N) {d : D} (hd : d ∈ fracDom) {p : Int} (h0 : decT d ≤ p) (h2 : p ≤ 2) (σ : Store) : FN N 436 [.val d, .val (.int p)] σ = some (.val (.str (fig p d)), σ) ∧ FN N 129 [.val d, .val (.tup [.str "fixed", .int p])] σ = some (.val (.str (fig p d)), σ) ∧ good (fig p d) = true := by
  have hr := dec_range hd
  obtain ⟨M, rfl⟩ := fuel h
  have a := t4_ok (M + 2)
  have b := t4_ok M
  simp only [t4, List.all_eq_true, Bool.and_eq_true, decide_eq_true_eq, Bool.or_eq_true] at a b
  have hp := mem_p (p := p) (by omega) h2
  rcases (a d hd).2 p hp with q | a
  · omega
  rcases (b d hd).2 p hp with q | b
  · omega
  exact ⟨lift2 (isStr_eq a.1.1) σ, lift2 (isStr_eq b.1.2) σ, a.2⟩
theorem t5_fig {N : Nat} (h : 3 ≤ N) {p : Int} (h0 : 0 ≤ p) (h2 : p ≤ 2) (σ : Store) : FN N 129 [.val .none, .val (.tup [.str "fixed", .int p])] σ = some (.val (.str (fig p .none)), σ) ∧ good (fig p .none) = true := by
  obtain ⟨M, rfl⟩ := fuel h
  have b := t5_ok M
  simp only [t5, Bool.and_eq_true] at b
  have hp := mem_p h0 h2
  simp only [List.mem_cons, List.not_mem_nil, or_false] at hp
  rcases hp with rfl | rfl | rfl
  · exact ⟨lift2 (isStr_eq b.1.1.1) σ, b.2⟩
  · exact ⟨lift2 (isStr_eq b.1.1.2) σ, b.2⟩
  · exact ⟨lift2 (isStr_eq b.1.2) σ, b.2⟩
end Mine

namespace Mine
open PySem PySem.W
noncomputable section

theorem frac_of {d : D} (h : d ∈ fracDom) : X2 fun a b => d = frac a b := by
  simp only [fracDom, List.mem_cons, List.not_mem_nil, or_false] at h
  rcases h with rfl | rfl | rfl | rfl | rfl | rfl | rfl | rfl | rfl | rfl | rfl <;> exact ⟨_, _, rfl⟩
theorem maxL_ge : ∀ (l : List Int) (a : Int), a ≤ maxL a l
  | [], a => Int.le_refl _
  | b :: r, a => by
    have h : a ≤ if b > a then b else a := by split <;> omega
    exact Int.le_trans h (maxL_ge r _)
theorem maxL_mem : ∀ (l : List Int) (a : Int) (x : Int), x ∈ l → x ≤ maxL a l
  | b :: r, a, x, h => by
    rcases List.mem_cons.mp h with rfl | h
    · have h : x ≤ if x > a then x else a := by split <;> omega
      exact Int.le_trans h (maxL_ge r _)
    · exact maxL_mem r _ x h
theorem maxL_le {k : Int} : ∀ (l : List Int) (a : Int), a ≤ k → (∀ x ∈ l, x ≤ k) → maxL a l ≤ k
  | [], a, h, _ => h
  | b :: r, a, h, hl => by
    simp only [maxL]
    refine maxL_le r _ ?_ fun x hx => hl x (by simp [hx])
    have := hl b (by simp)
    split <;> omega

noncomputable def formI (xs : AV) (P : Int) (σ : Store) (ds : List D) (ρ : Slots) (σ' : Store) : Prop := σ' = σ ∧ X6 fun (c l p m : Int) (x row : Option AV) => A12 (ρ = [some xs, some (.val (.int 7)), some (.val (.int c)), some (.val (.int l)), some (.val (.int p)), some (.val (.int 0)), some (.val (.int m)), x, row, none, none]) (1 ≤ c) (c ≤ 3) (1 ≤ l) (l ≤ 3) (0 ≤ p) (p ≤ 2) (0 ≤ m) (m ≤ 1) ((p = 2 → 2 ≤ c)) (maxL p (ds.map decT) = P) (∀ d ∈ ds, d ∈ fracDom)

theorem mx_ge {a b k : Int} (h : k ≤ a) : k ≤ if b > a then b else a := by split <;> omega
theorem mx_le {a b k : Int} (h : a ≤ k) (h2 : b ≤ k) : (if b > a then b else a) ≤ k := by split <;> omega
theorem mx_two {p d c c' : Int} (h : p = 2 → 2 ≤ c) (h2 : d = 2 → 2 ≤ c') : (if d > p then d else p) = 2 → 2 ≤ if c' > c then c' else c := by
  intro q
  split at q <;> split <;> omega
theorem abs_small {e : Int} (h1 : -100 < e) (h2 : e < 100) : ¬ 100 ≤ (if e < 0 then -e else e) := by split <;> omega
theorem formB_step {n : Nat} (hn : 4 ≤ n) {xs : AV} {P : Int} {σ : Store} (d : D) (r : List D) (ρ : Slots) (σ' : Store) (h : formI xs P σ (d :: r) ρ σ') : X2 fun ρ' σ'' => evSs (FN n) b_chosen_form_1 (ρ.set 7 (some (.val d))) σ' = some (.next, ρ', σ'') ∧ formI xs P σ r ρ' σ'' := by
  obtain ⟨rfl, c, l, p, m, x, row, rfl, h1, h2, h3, h4, h5, h6, h7, h8, h9, h10, h11⟩ := h
  have hd := h11 d (.head _)
  obtain ⟨c', l', e', q, q1, q2, q3, q4, q5, q6, q7⟩ := t4_meas (N := n) hn hd σ'
  have hr := dec_range hd
  obtain ⟨a, b, rfl⟩ := frac_of hd
  have key : ∀ m' : Int, 0 ≤ m' → m' ≤ 1 → formI xs P σ' r [some xs, some (.val (.int 7)), some (.val (.int (if c' > c then c' else c))), some (.val (.int (if l' > l then l' else l))), some (.val (.int (if decT (frac a b) > p then decT (frac a b) else p))), some (.val (.int 0)), some (.val (.int m')), some (.val (frac a b)), some (.val (.tup [.int c', .int l', .int (decT (frac a b)), .int e'])), none, none] σ' :=
    fun m' k1 k2 => ⟨rfl, _, _, _, m', _, _, rfl, mx_ge h1, mx_le h2 q2, mx_ge h3, mx_le h4 q4, mx_ge h5, mx_le h6 hr.2, k1, k2, mx_two h9 q7, h10, fun x hx => h11 x (.tail _ hx)⟩
  by_cases ha : a < 0
  · refine ⟨_, _, evSs_run (p := (.next, _, _)) ?_, key 1 (by decide) (by decide)⟩
    apply stp q
    apply condF (decide_eq_false (abs_small q5 q6))
    apply condT (decide_eq_true ha)
    rfl
  · refine ⟨_, _, evSs_run (p := (.next, _, _)) ?_, key m h7 h8⟩
    apply stp q
    apply condF (decide_eq_false (abs_small q5 q6))
    apply condF (decide_eq_false ha)
    rfl

theorem chosen_ok {N : Nat} (hN : 5 ≤ N) {xs : List D} (hx : ∀ d ∈ xs, d ∈ fracDom) (hl : xs.length ≤ lim) (σ : Store) : FN N 122 [.val (.list xs), .val (.int 7)] σ = some (.val (.tup [.str "fixed", .int (maxL 0 (xs.map decT))]), σ) := by
  obtain ⟨n, rfl⟩ : ∃ n, N = n + 1 := suc_of hN
  refine fn_run (fd := f_chosen_form) rfl (by decide) rfl ?_
  apply And.intro hl
  obtain ⟨ρ', σ', e, h⟩ := for_inv (b := evSs (FN n) b_chosen_form_1) (x := 7) (formI (.val (.list xs)) (maxL 0 (xs.map decT)) σ) xs [some (.val (.list xs)), some (.val (.int 7)), some (.val (.int 1)), some (.val (.int 1)), some (.val (.int 0)), some (.val (.int 0)), some (.val (.int 0)), none, none, none, none] σ
    ⟨rfl, 1, 1, 0, 0, none, none, rfl, by decide, by decide, by decide, by decide, by decide, by decide, by decide, by decide, by decide, rfl, hx⟩ (formB_step (Nat.le_of_succ_le_succ hN))
  apply stp e
  obtain ⟨rfl, c, l, p, m, x, row, rfl, h1, h2, h3, h4, h5, h6, h7, h8, h9, h10, _⟩ := h
  change p = _ at h10
  subst h10
  clear e hN hx hl h1 h3 h5
  generalize maxL 0 (xs.map decT) = P at *
  by_cases hp : 0 < P
  · apply condT (decide_eq_true hp)
    by_cases hc : 1 < c
    · apply condT (decide_eq_true hc)
      have hw : l + (P + 1) ≤ m + (c + 1) + 4 + 0 := by omega
      apply condT (decide_eq_true hw)
      exact leave_val
    · apply condF (decide_eq_false hc)
      have hw : l + (P + 1) ≤ m + 1 + 4 + 0 := by omega
      apply condT (decide_eq_true hw)
      exact leave_val
  · apply condF (decide_eq_false hp)
    by_cases hc : 1 < c
    · apply condT (decide_eq_true hc)
      have hw : l + 0 ≤ m + (c + 1) + 4 + 0 := by omega
      apply condT (decide_eq_true hw)
      exact leave_val
    · apply condF (decide_eq_false hc)
      have hw : l + 0 ≤ m + 1 + 4 + 0 := by omega
      apply condT (decide_eq_true hw)
      exact leave_val
end
end Mine

namespace Mine
open PySem PySem.W
noncomputable section

inductive K4 where | int | chr | dbl | log
  deriving DecidableEq
noncomputable def K4.name : K4 → Str
  | .int => "integer" | .chr => "character" | .dbl => "double" | .log => "logical"
noncomputable def K4.dom : K4 → List D
  | .int => intDom | .chr => textDom | .dbl => .none :: fracDom | .log => logDom
noncomputable def notNone : D → Bool
  | .none => false
  | _ => true
noncomputable def decs (xs : List D) : Int := maxL 0 ((xs.filter notNone).map decT)
noncomputable def txt (k : K4) (q : Bool) (xs : List D) (d : D) : Str := match k with
  | .int => intT d | .chr => enc q d | .dbl => fig (decs xs) d | .log => logT d

theorem frac_pos {d : D} (h : d ∈ fracDom) : X2 fun a b => d = frac a b ∧ 0 < b := by
  simp only [fracDom, List.mem_cons, List.not_mem_nil, or_false] at h
  rcases h with rfl | rfl | rfl | rfl | rfl | rfl | rfl | rfl | rfl | rfl | rfl <;> exact ⟨_, _, rfl, by decide⟩
theorem decs_range {xs : List D} (hx : ∀ d ∈ xs, d ∈ (.none :: fracDom : List D)) : 0 ≤ decs xs ∧ decs xs ≤ 2 ∧ ∀ d ∈ xs, notNone d = true → decT d ≤ decs xs := by
  refine ⟨maxL_ge _ _, maxL_le _ _ (by omega) fun x hm => ?_, fun d hd hn => maxL_mem _ _ _ (List.mem_map.mpr ⟨d, List.mem_filter.mpr ⟨hd, hn⟩, rfl⟩)⟩
  obtain ⟨d, hd, rfl⟩ := List.mem_map.mp hm
  obtain ⟨h1, h2⟩ := List.mem_filter.mp hd
  rcases List.mem_cons.mp (hx d h1) with rfl | h
  · cases h2
  · exact (dec_range h).2
theorem notNone_frac {xs : List D} (hx : ∀ d ∈ xs, d ∈ (.none :: fracDom : List D)) : ∀ d ∈ xs.filter notNone, d ∈ fracDom := fun d hd => by
  obtain ⟨h1, h2⟩ := List.mem_filter.mp hd
  rcases List.mem_cons.mp (hx d h1) with rfl | h
  · cases h2
  · exact h

theorem common_ok {N : Nat} (hN : 6 ≤ N) {xs : List D} (hx : ∀ d ∈ xs, d ∈ (.none :: fracDom : List D)) (hl : xs.length ≤ lim) (σ : Store) :
    FN N 134 [.val (.list xs), .val (.int 7)] σ = some (.val (.list (xs.map fun d => .str (fig (decs xs) d))), σ) := by
  obtain ⟨n, rfl⟩ : ∃ n, N = n + 1 := suc_of hN
  obtain ⟨r1, r2, r3⟩ := decs_range hx
  refine fn_run (fd := f_common_texts) rfl (by decide) rfl ?_
  apply And.intro hl
  apply stp ((lcf_map notNone id xs (fun d hd => ?_) fun d hd _ => rfl).trans (congrArg (fun l => some (l, σ)) (List.map_id _)))
  · apply stp (chosen_ok (N := n) (Nat.le_of_succ_le_succ hN) (notNone_frac hx) (Nat.le_trans (List.length_filter_le notNone xs) hl) σ)
    apply And.intro hl
    apply stp (lc_map (fun d => .str (fig (decs xs) d)) xs fun d hd => ?_)
    · exact leave_val
    · apply ev_run
      rcases List.mem_cons.mp (hx d hd) with rfl | h
      · apply stp (t5_fig (N := n) (by omega) r1 r2 σ).1
        rfl
      · apply stp (t4_fig (N := n) (by omega) h (r3 d hd (by obtain ⟨a, b, rfl, _⟩ := frac_pos h; rfl)) r2 σ).2.1
        rfl
  · rcases List.mem_cons.mp (hx d hd) with rfl | h
    · rfl
    · obtain ⟨a, b, rfl, hb⟩ := frac_pos h
      exact congrArg (fun t => some (AV.val (.bool t), σ)) (decide_eq_true hb)
end
end Mine

namespace Mine
open PySem PySem.W
noncomputable section

noncomputable abbrev vecF (k : Str) (l : List D) (a : D) : List (Nat × D) := [(0, .str k), (1, .list l), (2, a), (3, .bool false), (4, .bool false)]
noncomputable abbrev vec (k : Str) (l : List D) (a : D) : D := .inst 1 (vecF k l a)
theorem vec_call {N : Nat} (hN : 1 ≤ N) (k : Str) (l : List D) (σ : Store) : FN N 1001 [.val (.str k), .val (.list l)] σ = some (.loc σ.length, σ ++ [vec k l .none]) := by
  obtain ⟨n, rfl⟩ : ∃ n, N = n + 1 := suc_of hN
  have h0 : FN (n + 1) 1001 [.val (.str k), .val (.list l)] [] = some (.loc 0, [vec k l .none]) := rfl
  have := callN_sh (pre := σ) (P := P0) (C := C0) (n + 1) 1001 [.val (.str k), .val (.list l)] []
  simp only [List.map_cons, List.map_nil, shA, List.append_nil] at this
  rw [show callN P0 C0 (n + 1) 1001 [.val (.str k), .val (.list l)] [] = some (.loc 0, [vec k l .none]) from h0] at this
  simpa [shP, shA] using this
theorem null_call {N : Nat} (hN : 1 ≤ N) (σ : Store) : FN N 1000 [] σ = some (.loc σ.length, σ ++ [.inst 0 [(0, .str "NULL"), (2, .none)]]) := by
  obtain ⟨n, rfl⟩ : ∃ n, N = n + 1 := suc_of hN
  have h0 : FN (n + 1) 1000 [] [] = some (.loc 0, [.inst 0 [(0, .str "NULL"), (2, .none)]]) := rfl
  have := callN_sh (pre := σ) (P := P0) (C := C0) (n + 1) 1000 [] []
  simp only [List.map_nil, List.append_nil] at this
  rw [show callN P0 C0 (n + 1) 1000 [] [] = some (.loc 0, [.inst 0 [(0, .str "NULL"), (2, .none)]]) from h0] at this
  simpa [shP, shA] using this
theorem settle_new {σ : Store} {c : Nat} {l : List (Nat × D)} : settle σ.length (.loc σ.length) (σ ++ [.inst c l]) = some (.val (.inst c (l.map fun p => (p.1, thawD p.2))), σ) := by
  simp [settle, frzD]

theorem ne_dou_cha : (Str.ofString "double" == Str.ofString "character") = false := by decide +kernel
theorem ne_dou_log : (Str.ofString "double" == Str.ofString "logical") = false := by decide +kernel
theorem ne_dou_int : (Str.ofString "double" == Str.ofString "integer") = false := by decide +kernel
theorem ne_cha_dou : (Str.ofString "character" == Str.ofString "double") = false := by decide +kernel
theorem ne_cha_log : (Str.ofString "character" == Str.ofString "logical") = false := by decide +kernel
theorem ne_cha_int : (Str.ofString "character" == Str.ofString "integer") = false := by decide +kernel
theorem ne_log_dou : (Str.ofString "logical" == Str.ofString "double") = false := by decide +kernel
theorem ne_log_cha : (Str.ofString "logical" == Str.ofString "character") = false := by decide +kernel
theorem ne_log_int : (Str.ofString "logical" == Str.ofString "integer") = false := by decide +kernel
theorem ne_int_dou : (Str.ofString "integer" == Str.ofString "double") = false := by decide +kernel
theorem ne_int_cha : (Str.ofString "integer" == Str.ofString "character") = false := by decide +kernel
theorem ne_int_log : (Str.ofString "integer" == Str.ofString "logical") = false := by decide +kernel
theorem kind_ne (k : K4) : (k.name == "double") = (k == K4.dbl) ∧ (k.name == "character") = (k == K4.chr) ∧ (k.name == "logical") = (k == K4.log) ∧ (k.name == "integer") = (k == K4.int) := by
  cases k <;> decide +kernel
theorem str_beq_self (s : Str) : (s == s) = true := by simp

theorem lim_k : 1000 ≤ lim := by decide
theorem lim_k1 : 1001 ≤ lim := by decide
theorem item_txt {n : Nat} (hn : 6 ≤ n) {k : K4} (hk : k ≠ .dbl) {xs : List D} {d : D} (hd : d ∈ k.dom) {q : Bool} (σ : Store) : FN n 240 [.val (.str k.name), .val d, .val (.int 7), .val (.bool q)] σ = some (.val (.str (txt k q xs d)), σ) := by
  cases k with
  | int => exact (t2_at (by omega) hd q σ).1
  | chr => exact (t1_at (by omega) hd q σ).2.1
  | dbl => exact absurd rfl hk
  | log => exact (t3_at (by omega) hd q σ).1
theorem atomic_ok {N : Nat} (hN : 1 ≤ N) (k : K4) (xs : List D) (σ : Store) : FN N 206 [.val (vec k.name xs .none)] σ = some (.val (.bool true), σ) := by
  obtain ⟨m, rfl⟩ : ∃ m, N = m + 1 := ⟨N - 1, by omega⟩
  have : FN (m + 1) 206 [.val (vec k.name xs .none)] [] = some (.val (.bool true), []) := by cases k <;> kernel_rfl
  exact lift1 this σ
theorem bin_addl {a b : List D} (h : a.length + b.length ≤ lim) : binAV .add (.val (.list a)) (.val (.list b)) = some (.val (.list (a ++ b))) := by
  show (if _ then some (D.list (a ++ b)) else none).map AV.val = _
  rw [if_pos h]; rfl
theorem bi_max1 {σ : Store} {l : List D} {a : Int} {r : List Int} (h : l = (a :: r).map .int) (hl : r.length ≤ lim) : biAV σ .max1 [.val (.list l)] = some (.val (.int (maxL a r))) := by
  subst h
  show ((ints? ((a :: r).map D.int)).bind maxD).map AV.val = _
  rw [ints_map]
  show (if _ then some (D.int (maxL a r)) else none).map AV.val = _
  rw [if_pos hl]; rfl
theorem log_elt {n : Nat} {kn : Str} {xs : List D} {q : Bool} {d : D} (hd : d ∈ logDom) {σ : Store} : ev (FN n) e_law_texts_5 ([some (.val (.str kn)), some (.val (.list xs)), some (.val (.bool q)), none, none].set 4 (some (.val d))) σ = some (.val (.str (txt .log q xs d)), σ) := by
  simp only [logDom, List.mem_cons, List.not_mem_nil, or_false] at hd
  rcases hd with rfl | rfl | rfl <;> rfl
theorem int_elt {n : Nat} {kn : Str} {xs : List D} {q : Bool} {d : D} (hd : d ∈ intDom) {σ : Store} : ev (FN n) e_law_texts_6 ([some (.val (.str kn)), some (.val (.list xs)), some (.val (.bool q)), none, none].set 4 (some (.val d))) σ = some (.val (.str (txt .int q xs d)), σ) := by
  simp only [intDom, List.mem_cons, List.not_mem_nil, or_false] at hd
  rcases hd with rfl | rfl | rfl | rfl | rfl | rfl | rfl | rfl | rfl | rfl | rfl | rfl <;> rfl
theorem items_ok {N : Nat} (hN : 7 ≤ N) {k : K4} {xs : List D} (hx : ∀ d ∈ xs, d ∈ k.dom) (hl : xs.length ≤ lim) (q : Bool) (a : D) (σ : Store) :
    FN N 246 [.val (vec k.name xs a), .val (.int 7), .val (.bool q)] σ = some (.val (.list (xs.map fun d => .str (txt k q xs d))), σ) := by
  obtain ⟨n, rfl⟩ : ∃ n, N = n + 1 := suc_of hN
  have hkd := (kind_ne k).1
  refine fn_run (fd := f_item_texts) rfl (by decide) rfl ?_
  by_cases hk : k = .dbl
  · subst hk
    generalize K4.dbl.name = kn at hkd ⊢
    apply condT hkd
    apply stp (common_ok (N := n) (Nat.le_of_succ_le_succ hN) hx hl σ)
    exact leave_val
  · apply condF (hkd.trans (beq_eq_false_iff_ne.mpr hk))
    apply And.intro hl
    apply stp (lc_map (fun d => .str (txt k q xs d)) xs fun d hd => ?_)
    · exact leave_val
    · apply ev_run
      apply stp (item_txt (Nat.le_of_succ_le_succ hN) hk (hx d hd) σ)
      rfl

theorem cell_ok {N : Nat} (hN : 8 ≤ N) {k : K4} {xs : List D} (hx : ∀ d ∈ xs, d ∈ k.dom) (hl : xs.length ≤ lim) (q : Bool) (σ : Store) :
    FN N 361 [.val (.str k.name), .val (.list xs), .val (.bool q), .val (.int 7)] σ = some (.val (.list (xs.map fun d => .str (txt k q xs d))), σ) := by
  obtain ⟨n, rfl⟩ : ∃ n, N = n + 1 := suc_of hN
  refine fn_run (fd := f_cell_texts) rfl (by decide) rfl ?_
  apply stp (vec_call (N := n) (by omega) k.name xs σ)
  apply stp settle_new
  apply stp (atomic_ok (N := n) (by omega) k xs σ)
  apply stp (items_ok (N := n) (Nat.le_of_succ_le_succ hN) hx hl q .none σ)
  exact leave_val

theorem lawtexts_ok {N : Nat} (hN : 8 ≤ N) {k : K4} {xs : List D} (hx : ∀ d ∈ xs, d ∈ k.dom) (hl : xs.length ≤ 1000) (q : Bool) (σ : Store) :
    FN N 441 [.val (.str k.name), .val (.list xs), .val (.bool q)] σ = some (.val (.list (xs.map fun d => .str (txt k q xs d))), σ) := by
  obtain ⟨n, rfl⟩ : ∃ n, N = n + 1 := suc_of hN
  refine fn_run (fd := f_law_texts) rfl (by decide) rfl ?_
  have hl' : xs.length ≤ lim := Nat.le_trans hl lim_k
  obtain ⟨k1, k2, k3, k4⟩ := kind_ne k
  generalize k.name = kn at *
  cases k with
  | chr =>
    apply condT k2
    apply And.intro hl'
    apply stp (lc_map (fun d => .str (txt .chr q xs d)) xs fun d hd => ?_)
    · exact leave_val
    · apply ev_run
      apply stp (t1_at (N := n) (by omega) (hx d hd) q σ).1
      rfl
  | dbl =>
    obtain ⟨r1, r2, r3⟩ := decs_range hx
    have hf : (xs.filter notNone).length ≤ 1000 := Nat.le_trans (List.length_filter_le _ _) hl
    apply condF k2
    apply condT k1
    apply And.intro hl'
    apply stp (lcf_map notNone (fun d => .int (decT d)) xs (fun d hd => ?_) fun d hd hn => ?_)
    · apply stp (bin_addl (a := [.int 0]) (Nat.le_trans (by simp; omega) lim_k1))
      apply stp (bi_max1 (r := (xs.filter notNone).map decT) (congrArg (List.cons (D.int 0)) (List.map_map (f := decT) (g := D.int)).symm) (by rw [List.length_map]; exact Nat.le_trans hf lim_k))
      apply And.intro hl'
      apply stp (lc_map (fun d => .str (txt .dbl q xs d)) xs fun d hd => ?_)
      · exact leave_val
      · rcases List.mem_cons.mp (hx d hd) with rfl | h
        · rfl
        · have h1 := (t4_fig (N := n) (by omega) h (r3 d hd (by obtain ⟨a, b, rfl, _⟩ := frac_pos h; rfl)) r2 σ).1
          obtain ⟨a, b, rfl, hb⟩ := frac_pos h
          apply ev_run
          apply stp h1
          rfl
    · rcases List.mem_cons.mp (hx d hd) with rfl | h
      · rfl
      · obtain ⟨a, b, rfl, hb⟩ := frac_pos h
        rfl
    · apply ev_run
      apply stp (t4_dec (N := n) (by omega) (notNone_frac hx d (List.mem_filter.mpr ⟨hd, hn⟩)) σ)
      rfl
  | log =>
    apply condF k2
    apply condF k1
    apply condT k3
    apply And.intro hl'
    apply stp (lc_map (fun d => .str (txt .log q xs d)) xs fun d hd => ?_)
    · exact leave_val
    · exact log_elt (hx d hd)
  | int =>
    apply condF k2
    apply condF k1
    apply condF k3
    apply And.intro hl'
    apply stp (lc_map (fun d => .str (txt .int q xs d)) xs fun d hd => ?_)
    · exact leave_val
    · exact int_elt (hx d hd)
end
end Mine

namespace Mine
open PySem PySem.W
noncomputable section

/-! texts as lists of signs -/
noncomputable def L (s : Str) : List Nat := s.cps.toList
theorem L_ext {s t : Str} (h : L s = L t) : s = t := by
  cases s with | mk a => cases t with | mk b => exact congrArg Str.mk (Array.toList_inj.mp h)
theorem L_len (s : Str) : s.length = (L s).length := by simp [L, Str.length]
theorem L_app (s t : Str) : L (s ++ t) = L s ++ L t := by
  show (s.cps ++ t.cps).toList = _
  simp [L]
theorem L_empty : L Str.empty = [] := rfl
theorem len_app (s t : Str) : (s ++ t).length = s.length + t.length := by rw [L_len, L_app, List.length_append, ← L_len, ← L_len]
theorem app_empty (s : Str) : s ++ Str.empty = s := L_ext (by rw [L_app, L_empty, List.append_nil])
theorem empty_app (s : Str) : Str.empty ++ s = s := L_ext (by rw [L_app, L_empty, List.nil_append])
theorem app_assoc (s t u : Str) : s ++ t ++ u = s ++ (t ++ u) := L_ext (by simp [L_app])
noncomputable def bl : Str := " "
theorem L_bl : L bl = [32] := by decide +kernel
noncomputable def sp (n : Int) : Str := Txt.mul bl n
theorem L_sp (n : Int) : L (sp n) = List.replicate n.toNat 32 := by
  unfold sp Txt.mul
  split
  · rw [show n.toNat = 0 by omega]; rfl
  · split
    · rename_i h1 h2
      have hb : bl.length = 1 := by decide +kernel
      simp [hb] at h2
      subst h2
      exact L_bl
    · have e : ∀ (k : Nat) (a : Array Nat), ((List.replicate k bl.cps).foldl (· ++ ·) a).toList = a.toList ++ List.replicate k 32 := by
        intro k
        induction k with
        | zero => intro a; simp
        | succ k ih =>
          intro a
          rw [List.replicate_succ, List.foldl_cons, ih]
          have : bl.cps.toList = [32] := L_bl
          simp [this, List.replicate_succ]
      show (List.foldl (· ++ ·) #[] (List.replicate n.toNat bl.cps)).toList = _
      rw [e]; simp
theorem sp_zero : sp 0 = Str.empty := by decide +kernel
theorem L_ljust (x : Str) (i : Int) : L (Txt.ljust x i) = L x ++ List.replicate (i.toNat - x.length) 32 := by
  unfold Txt.ljust
  split
  · rw [show i.toNat - x.length = 0 by omega]; simp
  · simp [L, Builtin.Str.padded]
theorem L_rjust (x : Str) (i : Int) : L (Txt.rjust x i) = List.replicate (i.toNat - x.length) 32 ++ L x := by
  unfold Txt.rjust
  split
  · rw [show i.toNat - x.length = 0 by omega]; simp
  · simp [L, Builtin.Str.padded]
theorem ljust_eq {x : Str} {i : Int} (h : 0 ≤ i) : Txt.ljust x i = x ++ sp (i - x.length) := L_ext (by
  rw [L_ljust, L_app, L_sp]; congr 2; omega)
theorem rjust_eq {x : Str} {i : Int} (h : 0 ≤ i) : Txt.rjust x i = sp (i - x.length) ++ x := L_ext (by
  rw [L_rjust, L_app, L_sp]; congr 2; omega)
theorem sp_len (n : Int) : (sp n).length = n.toNat := by rw [L_len, L_sp, List.length_replicate]
theorem ljust_len {x : Str} {i : Int} : (Txt.ljust x i).length = max x.length i.toNat := by
  rw [L_len, L_ljust, List.length_append, List.length_replicate, ← L_len]; omega
theorem rjust_len {x : Str} {i : Int} : (Txt.rjust x i).length = max x.length i.toNat := by
  rw [L_len, L_rjust, List.length_append, List.length_replicate, ← L_len]; omega
theorem L_join (l : List Str) : L (Txt.join "" l) = (l.map L).flatten := by
  have e : ∀ (r : List Str) (a : Array Nat), (r.foldl (fun acc p => acc ++ ("" : Str).cps ++ p.cps) a).toList = a.toList ++ (r.map L).flatten := by
    intro r
    induction r with
    | nil => intro a; simp
    | cons x r ih =>
      intro a
      rw [List.foldl_cons, ih]
      have : (Str.ofString "").cps.toList = [] := rfl
      simp [L, this]
  cases l with
  | nil => rfl
  | cons x r =>
    show (List.foldl (fun acc p => acc ++ ("" : Str).cps ++ p.cps) x.cps r).toList = _
    rw [e]; rfl

noncomputable def wid (l : List Str) : Int := maxL 0 (l.map fun s => (s.length : Int))
noncomputable def padS (left : Bool) (t : Str) (w : Int) : Str := bl ++ if left then t ++ sp (w - t.length) else sp (w - t.length) ++ t
theorem wid_ge (l : List Str) : 0 ≤ wid l := maxL_ge _ _
theorem wid_mem {l : List Str} {s : Str} (h : s ∈ l) : (s.length : Int) ≤ wid l := maxL_mem _ _ _ (List.mem_map.mpr ⟨s, h, rfl⟩)
theorem wid_le {l : List Str} {k : Nat} (h : ∀ s ∈ l, s.length ≤ k) : wid l ≤ k := maxL_le _ _ (by omega) fun x hx => by
  obtain ⟨s, hs, rfl⟩ := List.mem_map.mp hx
  have := h s hs
  omega

noncomputable def widI (l : AV) (P : Int) (σ : Store) (ds : List D) (ρ : Slots) (σ' : Store) : Prop := σ' = σ ∧ X3 fun (m : Int) (x : Option AV) (r : List Str) => A4 (ρ = [some l, some (.val (.int m)), x]) (ds = r.map .str) (maxL m (r.map fun s => (s.length : Int)) = P) (∀ s ∈ r, s.length ≤ lim)
theorem bi_lens {s : Str} (h : s.length ≤ lim) (σ : Store) : biAV σ .len [.val (.str s)] = some (.val (.int s.length)) := by
  show ((if s.length ≤ lim then some (D.int s.length) else none).or none).map AV.val = _
  rw [if_pos h]; rfl
theorem bi_lenl {l : List D} (h : l.length ≤ lim) (σ : Store) : biAV σ .len [.val (.list l)] = some (.val (.int l.length)) := by
  show (if l.length ≤ lim then some (D.int l.length) else none).map AV.val = _
  rw [if_pos h]; rfl
theorem bin_adds {a b : Str} (h : a.length + b.length ≤ lim) : binAV .add (.val (.str a)) (.val (.str b)) = some (.val (.str (a ++ b))) := by
  show (if _ then some (D.str (a ++ b)) else none).map AV.val = _
  rw [if_pos h]; rfl
theorem bin_muls {a : Str} {n : Int} (h : a.length ≤ 1000 ∧ n.natAbs ≤ 1000) : binAV .mul (.val (.str a)) (.val (.int n)) = some (.val (.str (Txt.mul a n))) := by
  show (if _ then some (D.str (Txt.mul a n)) else none).map AV.val = _
  rw [if_pos h]; rfl
theorem me_ljust {σ : Store} {x : Str} {i : Int} (h : i.natAbs ≤ lim ∧ -10 ≤ i) : meAV σ .ljust (.val (.str x)) [.val (.int i)] = some (.val (.str (Txt.ljust x i))) := by
  show (if _ then some (D.str (Txt.ljust x i)) else none).map AV.val = _
  rw [if_pos h]; rfl
theorem me_rjust {σ : Store} {x : Str} {i : Int} (h : i.natAbs ≤ lim ∧ -10 ≤ i) : meAV σ .rjust (.val (.str x)) [.val (.int i)] = some (.val (.str (Txt.rjust x i))) := by
  show (if _ then some (D.str (Txt.rjust x i)) else none).map AV.val = _
  rw [if_pos h]; rfl
theorem idx_l {σ : Store} {i : Int} {l : List D} {d : D} (h : idxOf i l = some d) : idxAV σ (.val (.list l)) (.val (.int i)) = some (.val d) := by
  show (idxOf i l).map AV.val = _
  rw [h]; rfl
theorem small {a k : Nat} (h : a ≤ k) (hk : k ≤ 1000 := by decide) : a ≤ lim := Nat.le_trans h (Nat.le_trans hk lim_k)
theorem widest_ok {N : Nat} (hN : 1 ≤ N) {l : List Str} (h : ∀ s ∈ l, s.length ≤ lim) (hl : l.length ≤ lim) (σ : Store) : FN N 253 [.val (.list (l.map .str))] σ = some (.val (.int (wid l)), σ) := by
  obtain ⟨n, rfl⟩ : ∃ n, N = n + 1 := suc_of hN
  obtain ⟨ρ', σ', e, h⟩ := for_inv (b := evSs (FN n) b_widest_1) (x := 2) (widI (.val (.list (l.map .str))) (wid l) σ) (l.map .str) [some (.val (.list (l.map .str))), some (.val (.int 0)), none] σ ⟨rfl, 0, none, l, rfl, rfl, rfl, h⟩ (by
    rintro d r ρ σ' ⟨rfl, m, x, q, rfl, hq, hm, hb⟩
    cases q with
    | nil => cases hq
    | cons s q =>
      cases hq
      refine ⟨[some (.val (.list (l.map .str))), some (.val (.int (if (s.length : Int) > m then (s.length : Int) else m))), some (.val (.str s))], σ', evSs_run ?_, rfl, _, _, q, rfl, rfl, hm, fun t ht => hb t (.tail _ ht)⟩
      apply stp (bi_lens (hb s (.head _)) σ')
      rfl)
  refine fn_run (fd := f_widest) rfl (by decide) rfl ?_
  apply And.intro (Nat.le_trans (Nat.le_of_eq (List.length_map _)) hl)
  apply stp e
  obtain ⟨rfl, m, x, q, rfl, hq, hm, _⟩ := h
  cases q with
  | cons s q => cases hq
  | nil =>
    rw [← hm]
    exact leave_val
end
end Mine

namespace Mine
open PySem PySem.W
noncomputable section

/-! a layout and what is read off it -/
structure Lay where
  tall : Nat
  cs : List (List Str)
  rn : Option (List Str)
  cn : Option (List Str)
  left : Bool
noncomputable def optD : Option (List Str) → D
  | none => .none
  | some l => .list (l.map .str)
noncomputable def colsD (cs : List (List Str)) : List D := cs.map fun c => .list (c.map .str)
noncomputable def Lay.obj (y : Lay) : D := .inst 2 [(5, .int y.tall), (6, .list (colsD y.cs)), (7, optD y.rn), (8, optD y.cn), (9, .none), (10, .none), (11, .bool y.left)]
structure Lay.Ok (y : Lay) : Prop where
  t0 : 1 ≤ y.tall
  t1 : y.tall ≤ 4
  c0 : 1 ≤ y.cs.length
  c1 : y.cs.length ≤ 6
  col : ∀ c ∈ y.cs, c.length = y.tall ∧ ∀ s ∈ c, s.length ≤ 20
  rn : ∀ l, y.rn = some l → l.length = y.tall ∧ ∀ s ∈ l, s.length ≤ 20
  cn : ∀ l, y.cn = some l → l.length = y.cs.length ∧ ∀ s ∈ l, s.length ≤ 20
noncomputable def num (i : Int) : Str := Str.ofString i.repr
theorem lims : 1 ≤ lim ∧ 2 ≤ lim ∧ 3 ≤ lim ∧ 4 ≤ lim ∧ 5 ≤ lim ∧ 6 ≤ lim := by unfold lim; omega
theorem num_len {k : Nat} (h : k < 9) : (num ((k : Int) + 1)).length = 1 := by
  have : ∀ k : Fin 9, (num ((k.1 : Int) + 1)).length = 1 := by decide +kernel
  exact this ⟨k, h⟩
theorem sm_small {k : Nat} (h : k < 9) : sm ((k : Int) + 1) = true := by
  have : ∀ k : Fin 9, sm ((k.1 : Int) + 1) = true := by decide +kernel
  exact this ⟨k, h⟩
theorem bi_str {i : Int} (h : sm i = true) (σ : Store) : biAV σ .str [.val (.int i)] = some (.val (.str (num i))) := by simp [biAV, h, num]
noncomputable def hd0 (k : Nat) : Str := Str.ofString "[," ++ num ((k : Int) + 1) ++ "]"
noncomputable def lb0 (k : Nat) : Str := Str.ofString "[" ++ num ((k : Int) + 1) ++ ",]"
theorem hd0_len {k : Nat} (h : k < 9) : (hd0 k).length = 4 := by
  simp only [hd0, len_app, num_len h]; decide +kernel
theorem lb0_len {k : Nat} (h : k < 9) : (lb0 k).length = 4 := by
  simp only [lb0, len_app, num_len h]; decide +kernel
noncomputable def Lay.room (y : Lay) : Int := match y.rn with
  | some l => wid l
  | none => (num ((y.tall : Int) + 1)).length + 3
noncomputable def Lay.head (y : Lay) (k : Nat) : Str := match y.cn with
  | some l => l.getD k Str.empty
  | none => hd0 k
noncomputable def Lay.lab (y : Lay) (i : Nat) : Str := match y.rn with
  | some l => Txt.ljust (l.getD i Str.empty) y.room
  | none => Txt.rjust (lb0 i) y.room
noncomputable def Lay.X (y : Lay) (k i : Nat) : Str := (y.cs.getD k []).getD i Str.empty
noncomputable def Lay.W (y : Lay) (k : Nat) : Int := if ((y.head k).length : Int) > wid (y.cs.getD k []) then ((y.head k).length : Int) else wid (y.cs.getD k [])

section
variable {y : Lay} (ok : y.Ok)
include ok
theorem Lay.Ok.room_range : 0 ≤ y.room ∧ y.room ≤ 20 := by
  unfold Lay.room
  split
  · rename_i l h
    exact ⟨wid_ge l, wid_le (k := 20) (ok.rn l h).2⟩
  · have := ok.t1
    rw [num_len (by omega)]; omega
theorem Lay.Ok.head_len {k : Nat} (h : k < y.cs.length) : (y.head k).length ≤ 20 := by
  have c1 := ok.c1
  unfold Lay.head
  split
  · rename_i l hl
    obtain ⟨h1, h2⟩ := ok.cn l hl
    rw [List.getD_eq_getElem?_getD, List.getElem?_eq_getElem (by omega)]
    exact h2 _ (List.getElem_mem _)
  · rw [hd0_len (by omega)]; omega
theorem Lay.Ok.lab_len {i : Nat} (h : i < y.tall) : (y.lab i).length ≤ 20 := by
  have hr := ok.room_range
  have t1 := ok.t1
  unfold Lay.lab
  split
  · rename_i l hl
    obtain ⟨h1, h2⟩ := ok.rn l hl
    have : (l.getD i Str.empty).length ≤ 20 := by
      rw [List.getD_eq_getElem?_getD, List.getElem?_eq_getElem (by omega)]
      exact h2 _ (List.getElem_mem _)
    rw [ljust_len]; exact Nat.max_le.mpr ⟨this, Int.toNat_le.mpr hr.2⟩
  · rw [rjust_len, lb0_len (Nat.lt_of_lt_of_le h (Nat.le_trans t1 (by decide)))]; exact Nat.max_le.mpr ⟨by decide, Int.toNat_le.mpr hr.2⟩
theorem Lay.Ok.col_at {k : Nat} (h : k < y.cs.length) : y.cs[k]? = some (y.cs.getD k []) ∧ (y.cs.getD k []).length = y.tall ∧ ∀ s ∈ y.cs.getD k [], s.length ≤ 20 := by
  have e : y.cs.getD k [] = y.cs[k] := by rw [List.getD_eq_getElem?_getD, List.getElem?_eq_getElem h]; rfl
  rw [e]
  exact ⟨List.getElem?_eq_getElem h, ok.col _ (List.getElem_mem h)⟩
theorem Lay.Ok.X_at {k i : Nat} (h : k < y.cs.length) (hi : i < y.tall) : (y.cs.getD k [])[i]? = some (y.X k i) ∧ (y.X k i).length ≤ 20 := by
  obtain ⟨h1, h2, h3⟩ := ok.col_at h
  unfold Lay.X
  rw [List.getD_eq_getElem?_getD (l := y.cs.getD k []), List.getElem?_eq_getElem (by omega)]
  exact ⟨rfl, h3 _ (List.getElem_mem _)⟩
theorem Lay.Ok.W_range {k : Nat} (h : k < y.cs.length) : 0 ≤ y.W k ∧ y.W k ≤ 20 := by
  have h1 := ok.head_len h
  have h2 := wid_ge (y.cs.getD k [])
  have h3 : wid (y.cs.getD k []) ≤ 20 := wid_le (k := 20) (ok.col_at h).2.2
  unfold Lay.W
  split <;> omega
end
theorem idxOf_nat {k : Nat} {l : List D} (h : k < 1000000) : idxOf (k : Int) l = l[k]? := by
  unfold idxOf
  rw [if_pos ⟨Int.natCast_nonneg k, h⟩]; rfl

theorem attr_rn {y : Lay} {l : List Str} (h : y.rn = some l) : attrOf 7 y.obj = some (.val (.list (l.map .str))) := by
  show (if isO (optD y.rn) = true then none else some (AV.val (optD y.rn))) = _
  rw [h]; rfl
theorem attr_rn0 {y : Lay} (h : y.rn = none) : attrOf 7 y.obj = some (.val .none) := by
  show (if isO (optD y.rn) = true then none else some (AV.val (optD y.rn))) = _
  rw [h]; rfl
theorem attr_cn {y : Lay} {l : List Str} (h : y.cn = some l) : attrOf 8 y.obj = some (.val (.list (l.map .str))) := by
  show (if isO (optD y.cn) = true then none else some (AV.val (optD y.cn))) = _
  rw [h]; rfl
theorem attr_cn0 {y : Lay} (h : y.cn = none) : attrOf 8 y.obj = some (.val .none) := by
  show (if isO (optD y.cn) = true then none else some (AV.val (optD y.cn))) = _
  rw [h]; rfl
theorem str_at_nat {k : Nat} {l : List Str} (h : k < l.length) (hl : l.length ≤ 1000) : idxOf (k : Int) (l.map .str) = some (.str (l.getD k Str.empty)) := by
  rw [idxOf_nat (by omega), List.getElem?_map, List.getD_eq_getElem?_getD, List.getElem?_eq_getElem h]; rfl
theorem len_one : (Str.ofString "[").length = 1 ∧ (Str.ofString "]").length = 1 ∧ (Str.ofString "[,").length = 2 ∧ (Str.ofString ",]").length = 2 ∧ (Str.ofString " ").length = 1 := by decide +kernel
theorem fs_hd {t : Str} (h : t.length = 1) : ([Str.ofString "[,", t, Str.ofString "]"].map (·.length)).sum ≤ lim := by
  show (Str.ofString "[,").length + (t.length + ((Str.ofString "]").length + 0)) ≤ lim
  rw [h, len_one.2.1, len_one.2.2.1]; decide
theorem fs_lb {t : Str} (h : t.length = 1) : ([Str.ofString "[", t, Str.ofString ",]"].map (·.length)).sum ≤ lim := by
  show (Str.ofString "[").length + (t.length + ((Str.ofString ",]").length + 0)) ≤ lim
  rw [h, len_one.1, len_one.2.2.2.1]; decide
theorem fs_fold (a t b : Str) : ([a, t, b] : List Str).foldl (· ++ ·) Str.empty = a ++ t ++ b := congrArg (fun x => x ++ t ++ b) (empty_app a)

theorem bin_sp0 : binAV .mul (.val (.str (Str.ofString " "))) (.val (.int 0)) = some (.val (.str Str.empty)) := (bin_muls ⟨Nat.le_trans (Nat.le_of_eq len_one.2.2.2.2) (by decide), by decide⟩).trans (congrArg (fun x => some (AV.val (.str x))) sp_zero)
theorem sp_one : Txt.mul (Str.ofString " ") 1 = bl := by decide +kernel
theorem bl_len : bl.length = 1 := by decide +kernel
theorem bin_sp1 : binAV .mul (.val (.str (Str.ofString " "))) (.val (.int 1)) = some (.val (.str bl)) := (bin_muls ⟨Nat.le_trans (Nat.le_of_eq len_one.2.2.2.2) (by decide), by decide⟩).trans (congrArg (fun x => some (AV.val (.str x))) sp_one)
theorem bin_add0 {b : Str} (h : b.length ≤ 1000) : binAV .add (.val (.str Str.empty)) (.val (.str b)) = some (.val (.str b)) := (bin_adds (by rw [← len_app, empty_app]; exact small h)).trans (congrArg (fun x => some (AV.val (.str x))) (empty_app b))

section
variable {y : Lay} (ok : y.Ok) {N : Nat} {rest : Store}
include ok
theorem room_ok (hN : 2 ≤ N) : FN N 319 [.loc 0] (y.obj :: rest) = some (.val (.int y.room), y.obj :: rest) := by
  obtain ⟨n, rfl⟩ : ∃ n, N = n + 1 := suc_of hN
  have t1 := ok.t1
  refine fn_run (fd := f_label_room) rfl (by decide) rfl ?_
  cases hrn : y.rn with
  | some l =>
    have h2 := ok.rn l hrn
    apply stp (attr_rn hrn)
    apply stp (attr_rn hrn)
    apply stp (widest_ok (N := n) (Nat.le_of_succ_le_succ hN) (l := l) (fun s hs => small (h2.2 s hs)) (small (Nat.le_trans (Nat.le_of_eq h2.1) t1)) (y.obj :: rest))
    exact leave_eq (by unfold Lay.room; rw [hrn])
  | none =>
    have h9 : y.tall < 9 := Nat.lt_of_le_of_lt t1 (by decide)
    apply stp (attr_rn0 hrn)
    apply stp (bi_str (sm_small h9) _)
    apply stp (bi_lens (s := num ((y.tall : Int) + 1)) (by rw [num_len h9]; exact lims.1) _)
    exact leave_eq (by unfold Lay.room; rw [hrn])
omit ok in
theorem off_ok (hN : 1 ≤ N) : FN N 312 [.loc 0] (y.obj :: rest) = some (.val (.int 0), y.obj :: rest) := by
  obtain ⟨n, rfl⟩ : ∃ n, N = n + 1 := suc_of hN
  refine fn_run (fd := f_row_offset) rfl (by decide) rfl ?_
  exact leave_val
theorem head_ok (hN : 1 ≤ N) {k : Nat} (hk : k < y.cs.length) : FN N 333 [.loc 0, .val (.int k)] (y.obj :: rest) = some (.val (.str (y.head k)), y.obj :: rest) := by
  obtain ⟨n, rfl⟩ : ∃ n, N = n + 1 := suc_of hN
  have c1 := ok.c1
  refine fn_run (fd := f_column_head) rfl (by decide) rfl ?_
  cases hcn : y.cn with
  | some l =>
    have h1 := (ok.cn l hcn).1
    apply stp (attr_cn hcn)
    apply stp (attr_cn hcn)
    apply stp (idx_l (str_at_nat (by omega) (by omega)))
    exact leave_eq (by unfold Lay.head; rw [hcn])
  | none =>
    have h9 : k < 9 := by omega
    apply stp (attr_cn0 hcn)
    apply stp (bi_str (sm_small h9) _)
    apply And.intro (fs_hd (num_len h9))
    exact leave_eq (congrArg D.str ((fs_fold _ _ _).trans (by unfold Lay.head; rw [hcn]; rfl)))
theorem label_ok (hN : 3 ≤ N) {i : Nat} (hi : i < y.tall) : FN N 326 [.loc 0, .val (.int i)] (y.obj :: rest) = some (.val (.str (y.lab i)), y.obj :: rest) := by
  obtain ⟨n, rfl⟩ : ∃ n, N = n + 1 := suc_of hN
  have t1 := ok.t1
  have hr := ok.room_range
  have hll := Nat.le_trans (ok.lab_len hi) (show 20 ≤ 1000 by decide)
  have hc : y.room.natAbs ≤ lim ∧ -10 ≤ y.room := by unfold lim; omega
  refine fn_run (fd := f_row_label) rfl (by decide) rfl ?_
  apply stp (room_ok ok (N := n) (rest := rest) (Nat.le_of_succ_le_succ hN))
  apply stp (off_ok (y := y) (N := n) (rest := rest) (Nat.le_of_succ_le_succ (Nat.le_trans (by decide) hN)))
  cases hrn : y.rn with
  | some l =>
    have k1 := (ok.rn l hrn).1
    have hh : y.lab i = Txt.ljust (l.getD i Str.empty) y.room := by unfold Lay.lab; rw [hrn]
    rw [hh] at hll
    apply stp (attr_rn hrn)
    apply stp (attr_rn hrn)
    apply stp (idx_l (str_at_nat (by omega) (by omega)))
    apply stp (me_ljust hc)
    apply stp (bin_add0 hll)
    exact leave_eq (congrArg D.str hh.symm)
  | none =>
    have h9 : i < 9 := by omega
    have hh : y.lab i = Txt.rjust (([Str.ofString "[", num ((i : Int) + 1), Str.ofString ",]"] : List Str).foldl (· ++ ·) Str.empty) y.room := by unfold Lay.lab; rw [hrn, fs_fold]; rfl
    rw [hh] at hll
    apply stp (attr_rn0 hrn)
    apply stp (bi_str (sm_small h9) _)
    apply And.intro (fs_lb (num_len h9))
    apply stp (me_rjust hc)
    apply stp (bin_add0 hll)
    exact leave_eq (congrArg D.str hh.symm)
end
theorem padded_ok {N : Nat} (hN : 1 ≤ N) {σ : Store} {t : Str} {w : Int} (left : Bool) (h1 : t.length ≤ 1000) (h2 : 0 ≤ w) (h3 : w ≤ 1000) :
    FN N 340 [.val (.str t), .val (.int w), .val (.bool left)] σ = some (.val (.str (padS left t w)), σ) := by
  obtain ⟨n, rfl⟩ : ∃ n, N = n + 1 := suc_of hN
  have hc : w.natAbs ≤ lim ∧ -10 ≤ w := by unfold lim; omega
  refine fn_run (fd := f_padded) rfl (by decide) rfl ?_
  cases left
  · apply stp (me_rjust hc)
    apply stp (bin_adds (by rw [sp_one, bl_len, rjust_len]; unfold lim; omega))
    exact leave_eq (by rw [sp_one, rjust_eq h2]; rfl)
  · apply stp (me_ljust hc)
    apply stp (bin_adds (by rw [sp_one, bl_len, ljust_len]; unfold lim; omega))
    exact leave_eq (by rw [sp_one, ljust_eq h2]; rfl)
end
end Mine

namespace Mine
open PySem PySem.W
noncomputable section

theorem biAV_range2 {σ : Store} {a b : Int} (h : -10 ≤ a ∧ a.natAbs ≤ lim ∧ b.natAbs ≤ lim) : biAV σ .range2 [.val (.int a), .val (.int b)] = some (.val (.rng a b 1)) := by
  show (if _ then some (D.rng a b 1) else none).map AV.val = _
  rw [if_pos h]; rfl
theorem biAV_range1 {σ : Store} {b : Int} (h : b.natAbs ≤ lim) : biAV σ .range1 [.val (.int b)] = some (.val (.rng 0 b 1)) := by
  show (if _ then some (D.rng 0 b 1) else none).map AV.val = _
  rw [if_pos h]; rfl

/-! a block of rows -/
theorem get_mid {α : Type} {a b : List α} {x : α} : (a ++ x :: b)[a.length]? = some x := by simp
theorem set_mid {α : Type} {a b : List α} {x y : α} : (a ++ x :: b).set a.length y = a ++ y :: b := by simp
theorem get_end {α : Type} {a : List α} {x : α} : (a ++ [x])[a.length]? = some x := by simp
theorem set_end {α : Type} {a : List α} {x y : α} : (a ++ [x]).set a.length y = a ++ [y] := by simp
theorem padS_len {left : Bool} {t : Str} {w : Int} (h1 : t.length ≤ 20) (h2 : w ≤ 20) : (padS left t w).length ≤ 21 := by
  have hb : bl.length = 1 := by decide +kernel
  unfold padS
  rw [len_app, hb]
  cases left <;> simp [len_app, sp_len] <;> omega
theorem sum_len {k : Nat} : ∀ {l : List Str}, (∀ s ∈ l, s.length ≤ k) → (l.map (·.length)).sum ≤ l.length * k
  | [], _ => by simp
  | x :: r, h => by
    have h1 := h x (by simp)
    have h2 := sum_len (l := r) fun s hs => h s (by simp [hs])
    simp only [List.map_cons, List.sum_cons, List.length_cons, Nat.add_mul]
    omega
theorem join_fold (x : Str) : ∀ l : List Str, Txt.join "" (x :: l) = l.foldl (· ++ ·) x := by
  intro l
  refine L_ext ?_
  rw [L_join]
  have e : ∀ (l : List Str) (a : Str), L (l.foldl (· ++ ·) a) = L a ++ (l.map L).flatten := by
    intro l
    induction l with
    | nil => intro a; simp
    | cons y r ih => intro a; rw [List.foldl_cons, ih, L_app]; simp
  rw [e]; simp

theorem idx_loc {σ : Store} {j : Nat} {i : Int} {l : List D} {d : D} (hj : σ[j]? = some (.list l)) (h : idxOf i l = some d) : idxAV σ (.loc j) (.val (.int i)) = some (.val d) := by
  show (((σ[j]?).bind D.list?).bind (idxOf i)).map AV.val = _
  rw [hj]
  show (idxOf i l).map AV.val = _
  rw [h]; rfl
theorem any_mid {a b : List D} {l : List D} : ((a ++ D.list l :: b)[a.length]?).any isL = true := by rw [get_mid]; rfl
theorem app_mid {a b : List D} {l : List D} {d : D} (h : l.length ≤ lim) : ((a ++ D.list l :: b)[a.length]?).bind (cellA d) = some (.list (l ++ [d])) := by
  rw [get_mid]
  exact if_pos h
theorem set_str {a : List D} {acc : List Str} {d : Str} : (a ++ [D.list (acc.map D.str)]).set a.length (D.list (acc.map D.str ++ [D.str d])) = a ++ [D.list ((acc ++ [d]).map D.str)] := by
  rw [set_end, List.map_append]; rfl

theorem leave_at {σ x : Store} {l : List D} (h : (σ ++ x)[σ.length]? = some (.list l)) : leave σ.length (.loc σ.length) (σ ++ x) = some (.val (.list l), σ) := by
  show (if σ.length < σ.length then _ else _) = _
  rw [if_neg (Nat.lt_irrefl _), h, List.take_left]; rfl
theorem get_midA {a b c : List D} {x : D} : ((a ++ x :: b) ++ c)[a.length]? = some x := by rw [List.append_assoc]; exact get_mid
theorem set_midA {a b c : List D} {x y : D} : ((a ++ x :: b) ++ c).set a.length y = a ++ y :: (b ++ c) := by rw [List.append_assoc]; exact set_mid
theorem me_join {σ : Store} {i : Nat} {x : Str} {ss : List Str} (hi : σ[i]? = some (.list (ss.map .str))) (h : (ss.map (·.length)).sum + ss.length * x.length ≤ lim) : meAV σ .join (.val (.str x)) [.loc i] = some (.val (.str (Txt.join x ss))) := by
  show ((((σ[i]?).bind fun d => d.list?.map fun l => [.list l]) : Option (List D)).bind fun ds => (meD .join (.str x) ds).map AV.val) = _
  rw [hi]
  show ((strs? (ss.map D.str)).bind fun ss => if (ss.map (·.length)).sum + ss.length * x.length ≤ lim then some (D.str (Txt.join x ss)) else none).map AV.val = _
  rw [strs_map]
  show (if _ then some (D.str (Txt.join x ss)) else none).map AV.val = _
  rw [if_pos h]; rfl
theorem any_of {σ : Store} {i : Nat} {l : List D} (h : σ[i]? = some (.list l)) : (σ[i]?).any isL = true := by rw [h]; rfl
theorem cellA_of {σ : Store} {i : Nat} {l : List D} {d : D} (h : σ[i]? = some (.list l)) (hl : l.length ≤ lim) : (σ[i]?).bind (cellA d) = some (.list (l ++ [d])) := by
  rw [h]
  exact if_pos hl

noncomputable abbrev nats (b m : Nat) : List D := (List.range' b m).map fun (j : Nat) => .int (j : Int)
theorem nats_succ (b m : Nat) : nats b (m + 1) = .int (b : Int) :: nats (b + 1) m := by rw [nats, List.range'_succ, List.map_cons]
noncomputable def Lay.wd (y : Lay) : D := .list ((List.range y.cs.length).map fun k => .int (y.W k))
noncomputable def Lay.pieces (y : Lay) (f : Nat → Str) (b n : Nat) : List Str := (List.range' b n).map fun k => padS y.left (f k) (y.W k)
noncomputable def Lay.rowS (y : Lay) (lab : Str) (f : Nat → Str) (b n : Nat) : Str := (y.pieces f b n).foldl (· ++ ·) lab
noncomputable def Lay.block (y : Lay) (b n : Nat) : List Str := y.rowS (Txt.ljust Str.empty y.room) y.head b n :: (List.range y.tall).map fun i => y.rowS (y.lab i) (fun k => y.X k i) b n

theorem wd_at {y : Lay} {k : Nat} (h : k < y.cs.length) : (List.map (fun k => D.int (y.W k)) (List.range y.cs.length))[k]? = some (.int (y.W k)) := by
  rw [List.getElem?_map, List.getElem?_range h]; rfl

section
variable {y : Lay} (ok : y.Ok) {n : Nat} {A : Store} {s2 s3 s4 s5 s6 s9 : Option AV}
include ok
noncomputable def lpI (y : Lay) (A : Store) (s2 s3 s4 s5 s6 s9 : Option AV) (e : Nat) (P : List Str) (f : Nat → Str) (ds : List D) (ρ : Slots) (σ : Store) : Prop :=
  X4 fun x k m acc => A6 (ρ = [some (.loc 0), some (.loc 1), s2, s3, s4, s5, s6, some (.loc (A.length + 2)), x, s9]) (ds = nats k m) (k + m = e) (σ = y.obj :: y.wd :: (A ++ [.list (acc.map .str)])) (acc ++ y.pieces f k m = P) (acc.length ≤ k + 1)
theorem lp1 (hn : 3 ≤ n) {e : Nat} (he : e ≤ y.cs.length) {P : List Str} (d : D) (r : List D) (ρ : Slots) (σ : Store) (h : lpI y A s2 s3 s4 s5 s6 s9 e P y.head (d :: r) ρ σ) :
    X2 fun ρ' σ' => evSs (FN n) b_block_rows_1 (ρ.set 8 (some (.val d))) σ = some (.next, ρ', σ') ∧ lpI y A s2 s3 s4 s5 s6 s9 e P y.head r ρ' σ' := by
  obtain ⟨x, k, m, acc, rfl, hd, hk, rfl, hP, hl⟩ := h
  have c1 := ok.c1
  cases m with
  | zero => cases hd
  | succ m =>
    simp only [nats_succ, List.cons.injEq] at hd
    obtain ⟨rfl, rfl⟩ := hd
    have hkc : k < y.cs.length := by omega
    have h1 := head_ok ok (N := n) (k := k) (rest := y.wd :: (A ++ [.list (acc.map .str)])) (by omega) hkc
    have hw := ok.W_range hkc
    have hh := ok.head_len hkc
    have h2 := padded_ok (N := n) (by omega) (σ := y.obj :: y.wd :: (A ++ [.list (acc.map .str)])) (t := y.head k) (w := y.W k) y.left (by omega) (by omega) (by omega)
    have h3 : idxOf (k : Int) (List.map (fun k => D.int (y.W k)) (List.range y.cs.length)) = some (.int (y.W k)) := by rw [idxOf_nat (by omega)]; exact wd_at hkc
    have h4 : acc.length ≤ lim := by unfold lim; omega
    refine ⟨_, y.obj :: y.wd :: (A ++ [.list ((acc ++ [padS y.left (y.head k) (y.W k)]).map .str)]), ?_, some (.val (.int k)), k + 1, m, acc ++ [padS y.left (y.head k) (y.W k)], rfl, rfl, by omega, rfl, ?_, by simp; omega⟩
    · apply evSs_run
      apply And.intro (any_mid (a := y.obj :: y.wd :: A))
      apply stp h1
      apply stp (idx_loc (σ := y.obj :: y.wd :: (A ++ [.list (acc.map .str)])) (j := 1) rfl h3)
      apply stp h2
      apply stp (app_mid (a := y.obj :: y.wd :: A) (Nat.le_trans (Nat.le_of_eq (List.length_map _)) h4))
      exact congrArg (fun x => (Fl.next, _, x)) (set_str (a := y.obj :: y.wd :: A) (acc := acc) (d := padS y.left (y.head k) (y.W k)))
    · rw [← hP]
      simp [Lay.pieces, List.range'_succ]
theorem lp2 (hn : 1 ≤ n) {i e : Nat} (hi : i < y.tall) (he : e ≤ y.cs.length) {P : List Str} (d : D) (r : List D) (ρ : Slots) (σ : Store) (h : lpI y A s2 s3 s4 s5 s6 (some (.val (.int i))) e P (fun k => y.X k i) (d :: r) ρ σ) :
    X2 fun ρ' σ' => evSs (FN n) b_block_rows_2 (ρ.set 8 (some (.val d))) σ = some (.next, ρ', σ') ∧ lpI y A s2 s3 s4 s5 s6 (some (.val (.int i))) e P (fun k => y.X k i) r ρ' σ' := by
  obtain ⟨x, k, m, acc, rfl, hd, hk, rfl, hP, hl⟩ := h
  have c1 := ok.c1
  have t1 := ok.t1
  cases m with
  | zero => cases hd
  | succ m =>
    simp only [nats_succ, List.cons.injEq] at hd
    obtain ⟨rfl, rfl⟩ := hd
    have hkc : k < y.cs.length := by omega
    have hw := ok.W_range hkc
    obtain ⟨x1, x2, x3⟩ := ok.col_at hkc
    obtain ⟨x4, x5⟩ := ok.X_at hkc hi
    have h2 := padded_ok (N := n) (by omega) (σ := y.obj :: y.wd :: (A ++ [.list (acc.map .str)])) (t := y.X k i) (w := y.W k) y.left (by omega) (by omega) (by omega)
    have h3 : idxOf (k : Int) (List.map (fun k => D.int (y.W k)) (List.range y.cs.length)) = some (.int (y.W k)) := by rw [idxOf_nat (by omega)]; exact wd_at hkc
    have h5 : idxOf (k : Int) (colsD y.cs) = some (.list ((y.cs.getD k []).map .str)) := by
      rw [idxOf_nat (by omega), colsD, List.getElem?_map, x1]; rfl
    have h6 : idxOf (i : Int) ((y.cs.getD k []).map .str) = some (.str (y.X k i)) := by
      rw [idxOf_nat (by omega), List.getElem?_map, x4]; rfl
    have h4 : acc.length ≤ lim := by unfold lim; omega
    generalize y.cs.getD k [] = col at *
    generalize hX : y.X k i = t at *
    refine ⟨_, y.obj :: y.wd :: (A ++ [.list ((acc ++ [padS y.left t (y.W k)]).map .str)]), ?_, some (.val (.int k)), k + 1, m, acc ++ [padS y.left t (y.W k)], rfl, rfl, by omega, rfl, ?_, by simp; omega⟩
    · apply evSs_run
      apply And.intro (any_mid (a := y.obj :: y.wd :: A))
      apply stp (idx_l h5)
      apply stp (idx_l h6)
      apply stp (idx_loc (σ := y.obj :: y.wd :: (A ++ [.list (acc.map .str)])) (j := 1) rfl h3)
      apply stp h2
      apply stp (app_mid (a := y.obj :: y.wd :: A) (Nat.le_trans (Nat.le_of_eq (List.length_map _)) h4))
      exact congrArg (fun x => (Fl.next, _, x)) (set_str (a := y.obj :: y.wd :: A) (acc := acc) (d := padS y.left t (y.W k)))
    · rw [← hP]
      simp [Lay.pieces, List.range'_succ, hX]
end
theorem rangeL_nat : ∀ (m b : Nat), rangeL (b : Int) 1 m = nats b m
  | 0, b => rfl
  | m + 1, b => by
    rw [nats_succ, ← rangeL_nat m (b + 1)]
    rfl
theorem rangeN_one (b m : Nat) : rangeN (b : Int) ((b + m : Nat) : Int) 1 = m := by
  unfold rangeN Builtin.Range.rangeSize
  split
  · split
    · simp; omega
    · simp; omega
  · omega
theorem items_rng {b m : Nat} (h : b + m ≤ 1000) : itemsOf (.val (.rng b ((b + m : Nat) : Int) 1)) = some (nats b m) := by
  show (if _ then _ else _) = _
  rw [if_pos (by unfold lim; omega), rangeN_one, rangeL_nat]
theorem rng_len {b m : Nat} (h : m ≤ 1000) : (nats b m).length ≤ lim := by
  simp [nats]; unfold lim; omega
section
variable {y : Lay} (ok : y.Ok) {n : Nat}
include ok
theorem pieces_len {f : Nat → Str} {k m : Nat} (hf : ∀ j, k ≤ j → j < k + m → (f j).length ≤ 20) (h : k + m ≤ y.cs.length) : ∀ s ∈ y.pieces f k m, s.length ≤ 21 := by
  intro s hs
  obtain ⟨j, hj, rfl⟩ := List.mem_map.mp hs
  simp only [List.mem_range'_1] at hj
  exact padS_len (hf j hj.1 hj.2) (ok.W_range (by omega)).2
theorem join_fit {f : Nat → Str} {k m : Nat} {lab : Str} (hl : lab.length ≤ 20) (hf : ∀ j, k ≤ j → j < k + m → (f j).length ≤ 20) (h : k + m ≤ y.cs.length) : ((lab :: y.pieces f k m).map (·.length)).sum ≤ lim := by
  have c1 := ok.c1
  have := sum_len (k := 21) (l := lab :: y.pieces f k m) (fun s hs => by
    rcases List.mem_cons.mp hs with rfl | hs
    · omega
    · exact pieces_len ok hf h s hs)
  have e : (lab :: y.pieces f k m).length = m + 1 := by simp [Lay.pieces]
  rw [e] at this
  unfold lim; omega

noncomputable def rwI (y : Lay) (R : Store) (s2 s3 s4 s6 : Option AV) (Q : List Str) (g : Nat → Str) (ds : List D) (ρ : Slots) (σ : Store) : Prop :=
  X7 fun s7 s8 s9 i m rows more => A6 (ρ = [some (.loc 0), some (.loc 1), s2, s3, s4, some (.loc (R.length + 2)), s6, s7, s8, s9]) (ds = nats i m) (i + m = y.tall) (σ = y.obj :: y.wd :: (R ++ .list (rows.map .str) :: more)) (rows ++ (List.range' i m).map g = Q) (rows.length ≤ i + 1)
theorem lp3 (hn : 3 ≤ n) {R : Store} {s4 s6 : Option AV} {b m : Nat} (he : b + m ≤ y.cs.length) {Q : List Str} (d : D) (r : List D) (ρ : Slots) (σ : Store)
    (h : rwI y R (some (.val (.int b))) (some (.val (.int ((b + m : Nat) : Int)))) s4 s6 Q (fun i => y.rowS (y.lab i) (fun k => y.X k i) b m) (d :: r) ρ σ) :
    X2 fun ρ' σ' => evSs (FN n) b_block_rows_3 (ρ.set 9 (some (.val d))) σ = some (.next, ρ', σ') ∧ rwI y R (some (.val (.int b))) (some (.val (.int ((b + m : Nat) : Int)))) s4 s6 Q (fun i => y.rowS (y.lab i) (fun k => y.X k i) b m) r ρ' σ' := by
  obtain ⟨s7, s8, s9, i, q, rows, more, rfl, hd, hk, rfl, hP, hl⟩ := h
  have c1 := ok.c1
  have t1 := ok.t1
  cases q with
  | zero => cases hd
  | succ q =>
    simp only [nats_succ, List.cons.injEq] at hd
    obtain ⟨rfl, rfl⟩ := hd
    have hi : i < y.tall := by omega
    have h1 := label_ok ok (N := n) (rest := y.wd :: (R ++ .list (rows.map .str) :: more)) hn hi
    have hlab := ok.lab_len hi
    have hX : ∀ j, b ≤ j → j < b + m → (y.X j i).length ≤ 20 := fun j _ hj => (ok.X_at (by omega) hi).2
    obtain ⟨ρ', σ', e, x, k', m', acc, rfl, e2, e3, rfl, e4, _⟩ := for_inv (b := evSs (FN n) b_block_rows_2) (x := 8)
      (lpI y (R ++ .list (rows.map .str) :: more) (some (.val (.int b))) (some (.val (.int ((b + m : Nat) : Int)))) s4 (some (.loc (R.length + 2))) s6 (some (.val (.int i))) (b + m) (y.lab i :: y.pieces (fun k => y.X k i) b m) (fun k => y.X k i))
      (nats b m)
      [some (.loc 0), some (.loc 1), some (.val (.int b)), some (.val (.int ((b + m : Nat) : Int))), s4, some (.loc (R.length + 2)), s6, some (.loc ((R ++ .list (rows.map .str) :: more).length + 2)), s8, some (.val (.int i))]
      (y.obj :: y.wd :: ((R ++ .list (rows.map .str) :: more) ++ [.list ([y.lab i].map .str)])) ⟨s8, b, m, [y.lab i], rfl, rfl, rfl, rfl, rfl, by simp⟩ (lp2 ok (by omega) hi he)
    cases m' with
    | succ m' => cases e2
    | zero =>
      have e4' : acc = y.lab i :: y.pieces (fun k => y.X k i) b m := by rw [← e4]; simp [Lay.pieces]
      subst e4'
      have hj := join_fit ok hlab hX he
      have hrow : Txt.join "" (y.lab i :: y.pieces (fun k => y.X k i) b m) = y.rowS (y.lab i) (fun k => y.X k i) b m := by rw [join_fold]; rfl
      have hjl : ((y.lab i :: y.pieces (fun k => y.X k i) b m).map (·.length)).sum + (y.lab i :: y.pieces (fun k => y.X k i) b m).length * (Str.ofString "").length ≤ lim := hj
      refine ⟨[some (.loc 0), some (.loc 1), some (.val (.int b)), some (.val (.int ((b + m : Nat) : Int))), s4, some (.loc (R.length + 2)), s6, some (.loc ((R ++ .list (rows.map .str) :: more).length + 2)), x, some (.val (.int i))], y.obj :: y.wd :: (R ++ .list ((rows ++ [y.rowS (y.lab i) (fun k => y.X k i) b m]).map .str) :: (more ++ [.list ((y.lab i :: y.pieces (fun k => y.X k i) b m).map .str)])), evSs_run ?_, _, _, _, i + 1, q, rows ++ [y.rowS (y.lab i) (fun k => y.X k i) b m], _, rfl, rfl, by omega, rfl, ?_, ?_⟩
      · apply stp h1
        apply stp (biAV_range2 (a := (b : Int)) (b := ((b + m : Nat) : Int)) ⟨Int.le_trans (by decide) (Int.natCast_nonneg b), small (a := b) (k := 6) (by omega), small (a := b + m) (k := 6) (by omega)⟩)
        apply stp (items_rng (b := b) (m := m) (by omega))
        apply And.intro (rng_len (b := b) (m := m) (by omega))
        apply stp e
        apply And.intro (any_of (σ := (R ++ D.list (rows.map D.str) :: more) ++ [D.list ((y.lab i :: y.pieces (fun k => y.X k i) b m).map D.str)]) get_midA)
        apply stp (me_join (σ := y.obj :: y.wd :: ((R ++ D.list (rows.map D.str) :: more) ++ [D.list ((y.lab i :: y.pieces (fun k => y.X k i) b m).map D.str)])) (i := (R ++ D.list (rows.map D.str) :: more).length + 2) get_end hjl)
        apply stp (cellA_of (σ := (R ++ D.list (rows.map D.str) :: more) ++ [D.list ((y.lab i :: y.pieces (fun k => y.X k i) b m).map D.str)]) get_midA (small (k := 5) (by rw [List.length_map]; omega)))
        refine congrArg (fun x => (Fl.next, _, y.obj :: y.wd :: x)) (set_midA.trans ?_)
        rw [hrow, List.map_append]; rfl
      · rw [← hP, List.range'_succ, List.append_assoc]; rfl
      · rw [List.length_append]; exact Nat.add_le_add_right hl 1
end
end
end Mine

namespace Mine
open PySem PySem.W

theorem ev_range2 {F : Fns} {ρ : Slots} {σ : Store} {a b : T} {x z : Int} (h1 : ev F a ρ σ = some (.val (.int x), σ)) (h2 : ev F b ρ σ = some (.val (.int z), σ)) (h3 : -10 ≤ x) (h4 : x.natAbs ≤ lim) (h5 : z.natAbs ≤ lim) :
    ev F (.bi .range2 [a, b]) ρ σ = some (.val (.rng x z 1), σ) := by
  refine stpEq (stpBind ?_)
  apply stpBind
  apply stp h1
  apply stpMap
  apply stpBind
  apply stp h2
  apply stpMap
  apply stp (show evs F [] ρ σ = some ([], σ) from rfl)
  apply stpMap
  apply stp (biAV_range2 ⟨h3, h4, h5⟩)
  rfl
theorem ev_range1 {F : Fns} {ρ : Slots} {σ : Store} {a : T} {z : Int} (h1 : ev F a ρ σ = some (.val (.int z), σ)) (h5 : z.natAbs ≤ lim) :
    ev F (.bi .range1 [a]) ρ σ = some (.val (.rng 0 z 1), σ) := by
  refine stpEq (stpBind ?_)
  apply stpBind
  apply stp h1
  apply stpMap
  apply stp (show evs F [] ρ σ = some ([], σ) from rfl)
  apply stpMap
  apply stp (biAV_range1 h5)
  rfl
theorem items_rng0 {m : Nat} (h : m ≤ 1000) : itemsOf (.val (.rng 0 (m : Int) 1)) = some (nats 0 m) := by
  have := items_rng (b := 0) (m := m) (Nat.le_trans (Nat.le_of_eq (Nat.zero_add m)) h)
  rw [Nat.zero_add] at this
  exact this

section
variable {y : Lay} (ok : y.Ok)
include ok
theorem block_ok {N : Nat} (hN : 4 ≤ N) {R : Store} {b m : Nat} (he : b + m ≤ y.cs.length) :
    FN N 347 [.loc 0, .loc 1, .val (.int b), .val (.int ((b + m : Nat) : Int))] (y.obj :: y.wd :: R) = some (.val (.list ((y.block b m).map .str)), y.obj :: y.wd :: R) := by
  obtain ⟨n, rfl⟩ : ∃ n, N = n + 1 := suc_of hN
  have hn : 3 ≤ n := Nat.le_of_succ_le_succ hN
  have c1 := ok.c1
  have t1 := ok.t1
  have hr := ok.room_range
  have hlab : (Txt.ljust ("" : Str) (y.room + 0)).length ≤ 20 := by
    rw [ljust_len, Int.add_zero]; exact Nat.max_le.mpr ⟨Nat.zero_le _, Int.toNat_le.mpr hr.2⟩
  have hj := join_fit ok (f := y.head) (k := b) (m := m) hlab (fun j h1 h2 => ok.head_len (Nat.lt_of_lt_of_le h2 he)) he
  have hh : Txt.join "" (Txt.ljust "" (y.room + 0) :: y.pieces y.head b m) = y.rowS (Txt.ljust Str.empty y.room) y.head b m := by rw [join_fold, Int.add_zero]; rfl
  -- the head
  obtain ⟨ρ₁, σ₁, e1, x, k', m', acc, rfl, u2, u3, rfl, u4, _⟩ := for_inv (b := evSs (FN n) b_block_rows_1) (x := 8)
    (lpI y (R ++ [D.list []]) (some (.val (.int b))) (some (.val (.int ((b + m : Nat) : Int)))) (some (.val (.int (y.room + 0)))) (some (.loc (R.length + 2))) (some (.val (.str ""))) none (b + m) (Txt.ljust "" (y.room + 0) :: y.pieces y.head b m) y.head)
    (nats b m)
    [some (.loc 0), some (.loc 1), some (.val (.int b)), some (.val (.int ((b + m : Nat) : Int))), some (.val (.int (y.room + 0))), some (.loc (R.length + 2)), some (.val (.str "")), some (.loc ((R ++ [D.list []]).length + 2)), none, none]
    (y.obj :: y.wd :: ((R ++ [D.list []]) ++ [D.list ([Txt.ljust "" (y.room + 0)].map .str)])) ⟨none, b, m, [Txt.ljust "" (y.room + 0)], rfl, rfl, rfl, rfl, rfl, Nat.le_add_left 1 b⟩ (lp1 ok hn he)
  cases m' with
  | succ m' => cases u2
  | zero =>
  replace u4 : acc = Txt.ljust "" (y.room + 0) :: y.pieces y.head b m := (List.append_nil acc).symm.trans u4
  subst u4
  -- the rows
  obtain ⟨ρ₂, σ₂, e2, s7, s8, s9, i', m'', rows, more, rfl, v2, v3, rfl, v4, _⟩ := for_inv (b := evSs (FN n) b_block_rows_3) (x := 9)
    (rwI y R (some (.val (.int b))) (some (.val (.int ((b + m : Nat) : Int)))) (some (.val (.int (y.room + 0)))) (some (.val (.str ""))) (y.block b m) (fun i => y.rowS (y.lab i) (fun k => y.X k i) b m))
    (nats 0 y.tall)
    [some (.loc 0), some (.loc 1), some (.val (.int b)), some (.val (.int ((b + m : Nat) : Int))), some (.val (.int (y.room + 0))), some (.loc (R.length + 2)), some (.val (.str "")), some (.loc ((R ++ [D.list []]).length + 2)), x, none]
    (y.obj :: y.wd :: (((R ++ [D.list []]) ++ [D.list ((Txt.ljust "" (y.room + 0) :: y.pieces y.head b m).map D.str)]).set R.length (D.list ([] ++ [D.str (Txt.join "" (Txt.ljust "" (y.room + 0) :: y.pieces y.head b m))]))))
    ⟨_, _, _, 0, y.tall, [Txt.join "" (Txt.ljust "" (y.room + 0) :: y.pieces y.head b m)], _, rfl, rfl, Nat.zero_add _, congrArg (fun x => y.obj :: y.wd :: x) set_midA, by rw [hh, ← List.range_eq_range']; rfl, Nat.le_refl 1⟩ (lp3 ok hn he)
  cases m'' with
  | succ m'' => cases v2
  | zero =>
  replace v4 : rows = y.block b m := (List.append_nil rows).symm.trans v4
  subst v4
  have hjl : ((Txt.ljust "" (y.room + 0) :: y.pieces y.head b m).map (·.length)).sum + (Txt.ljust "" (y.room + 0) :: y.pieces y.head b m).length * (Str.ofString "").length ≤ lim := hj
  refine fn_run (fd := f_block_rows) rfl (by decide) rfl ?_
  apply stp (room_ok ok (N := n) (rest := y.wd :: R) (Nat.le_trans (by decide) hn))
  apply stp (off_ok (y := y) (N := n) (rest := y.wd :: R) (Nat.le_trans (by decide) hn))
  apply stp (me_ljust (x := "") (i := y.room + 0) (by rw [Int.add_zero]; unfold lim; omega))
  apply stp (biAV_range2 (a := (b : Int)) (b := ((b + m : Nat) : Int)) ⟨Int.le_trans (by decide) (Int.natCast_nonneg b), small (a := b) (k := 6) (by omega), small (a := b + m) (k := 6) (by omega)⟩)
  apply stp (items_rng (b := b) (m := m) (by omega))
  apply And.intro (rng_len (b := b) (m := m) (by omega))
  apply stp e1
  apply And.intro (any_of (σ := (R ++ [D.list []]) ++ [D.list ((Txt.ljust "" (y.room + 0) :: y.pieces y.head b m).map .str)]) get_midA)
  apply stp (me_join (σ := y.obj :: y.wd :: ((R ++ [D.list []]) ++ [D.list ((Txt.ljust "" (y.room + 0) :: y.pieces y.head b m).map .str)])) (i := (R ++ [D.list []]).length + 2) get_end hjl)
  apply stp (cellA_of (σ := (R ++ [D.list []]) ++ [D.list ((Txt.ljust "" (y.room + 0) :: y.pieces y.head b m).map .str)]) get_midA (Nat.zero_le _))
  apply stp (biAV_range1 (b := (y.tall : Int)) (small (a := y.tall) t1))
  apply stp (items_rng0 (m := y.tall) (Nat.le_trans t1 (by decide)))
  apply And.intro (rng_len (b := 0) (m := y.tall) (Nat.le_trans t1 (by decide)))
  apply stp e2
  exact leave_at (σ := y.obj :: y.wd :: R) get_mid
end
end Mine

namespace Mine
open PySem PySem.W
noncomputable section

/-! all rows of a layout -/
noncomputable def Lay.grow (y : Lay) (wide : Int) : Nat → Nat → Int → Nat
  | 0, e, _ => e
  | k + 1, e, t => if e < y.cs.length ∧ t + 1 + y.W e < wide then y.grow wide k (e + 1) (t + 1 + y.W e) else e
theorem grow_range (y : Lay) (wide : Int) : ∀ (k e : Nat) (t : Int), e ≤ y.cs.length → e ≤ y.grow wide k e t ∧ y.grow wide k e t ≤ y.cs.length
  | 0, e, t, h => ⟨Nat.le_refl _, h⟩
  | k + 1, e, t, h => by
    unfold Lay.grow
    split
    · rename_i hc
      have := grow_range y wide k (e + 1) (t + 1 + y.W e) hc.1
      omega
    · exact ⟨Nat.le_refl _, h⟩
noncomputable def Lay.blocks (y : Lay) (wide : Int) : Nat → Nat → List Str
  | 0, _ => []
  | k + 1, b => if b < y.cs.length then y.block b (y.grow wide (y.cs.length - (b + 1)) (b + 1) (y.room + 1 + y.W b) - b) ++ y.blocks wide k (y.grow wide (y.cs.length - (b + 1)) (b + 1) (y.room + 1 + y.W b)) else []

section
variable {y : Lay} (ok : y.Ok) {n : Nat} {wide : Int} {R : Store} {s3 s5 s6 s7 : Option AV}
include ok
theorem wd_idx {k : Nat} (h : k < y.cs.length) : idxOf (k : Int) ((List.range y.cs.length).map fun k => .int (y.W k)) = some (.int (y.W k)) := by
  rw [idxOf_nat (Nat.lt_of_lt_of_le h (Nat.le_trans ok.c1 (by decide)))]; exact wd_at h
omit ok in
theorem ilt {a b : Nat} (h : a < b) : decide ((a : Int) < (b : Int)) = true := decide_eq_true (Int.ofNat_lt.mpr h)
omit ok in
theorem inlt {a b : Nat} (h : ¬ a < b) : decide ((a : Int) < (b : Int)) = false := decide_eq_false fun q => h (Int.ofNat_lt.mp q)
theorem grow_loop : ∀ (k fuel e : Nat) (t : Int), y.cs.length - e ≤ k → k < fuel → e ≤ y.cs.length →
    ∃ t', whLoop (ev (FN n) c_layout_rows_3) (evSs (FN n) b_layout_rows_4) fuel [some (.loc 0), some (.val (.int wide)), some (.val (.int y.cs.length)), s3, some (.loc 1), s5, s6, s7, some (.val (.int t)), some (.val (.int e))] (y.obj :: y.wd :: R) =
      some (.next, [some (.loc 0), some (.val (.int wide)), some (.val (.int y.cs.length)), s3, some (.loc 1), s5, s6, s7, some (.val (.int t')), some (.val (.int (y.grow wide k e t)))], y.obj :: y.wd :: R) := by
  intro k
  induction k with
  | zero =>
    intro fuel e t h1 h2 h3
    obtain ⟨f, rfl⟩ := suc_of h2
    refine ⟨t, wh_step ?_⟩
    apply condF (inlt (Nat.not_lt.mpr (Nat.le_of_sub_eq_zero (Nat.le_zero.mp h1))))
    rfl
  | succ k ih =>
    intro fuel e t h1 h2 h3
    obtain ⟨f, rfl⟩ := suc_of h2
    by_cases hc : e < y.cs.length
    · have hi := wd_idx ok hc
      by_cases hw : t + 1 + y.W e < wide
      · obtain ⟨t', q⟩ := ih f (e + 1) (t + 1 + y.W e) (by omega) (Nat.lt_of_succ_lt_succ h2) hc
        refine ⟨t', wh_step ?_⟩
        have hg : y.grow wide (k + 1) e t = y.grow wide k (e + 1) (t + 1 + y.W e) := if_pos ⟨hc, hw⟩
        rw [hg]
        apply condT (ilt hc)
        apply stp (idx_loc (σ := y.obj :: y.wd :: R) (j := 1) rfl hi)
        apply condT (decide_eq_true hw)
        apply stp (idx_loc (σ := y.obj :: y.wd :: R) (j := 1) rfl hi)
        exact q
      · refine ⟨t, wh_step ?_⟩
        have hg : y.grow wide (k + 1) e t = e := if_neg fun q => hw q.2
        rw [hg]
        apply condT (ilt hc)
        apply stp (idx_loc (σ := y.obj :: y.wd :: R) (j := 1) rfl hi)
        apply condF (decide_eq_false hw)
        rfl
    · refine ⟨t, wh_step ?_⟩
      have hg : y.grow wide (k + 1) e t = e := if_neg fun q => hc q.1
      rw [hg]
      apply condF (inlt hc)
      rfl
omit ok in
theorem blocks_succ {k b : Nat} (hc : b < y.cs.length) : y.blocks wide (k + 1) b = y.block b (y.grow wide (y.cs.length - (b + 1)) (b + 1) (y.room + 1 + y.W b) - b) ++ y.blocks wide k (y.grow wide (y.cs.length - (b + 1)) (b + 1) (y.room + 1 + y.W b)) := if_pos hc
omit ok in
theorem block_len {b m : Nat} : (y.block b m).length = y.tall + 1 := by
  unfold Lay.block
  rw [List.length_cons, List.length_map, List.length_range]
omit ok in
theorem cellE_of {σ : Store} {i : Nat} {l d : List D} (h : σ[i]? = some (.list l)) (hl : l.length + d.length ≤ lim) : (σ[i]?).bind (cellE d) = some (.list (l ++ d)) := by
  rw [h]
  exact if_pos hl
theorem blocks_loop (hn : 4 ≤ n) {r0 : Int} (hr : r0 = y.room) : ∀ (k fuel b : Nat) (rows : List Str) (s8 s9 : Option AV), y.cs.length - b ≤ k → k < fuel → b ≤ y.cs.length → rows.length ≤ 100 * b → 
    ∃ ρ', whLoop (ev (FN n) c_layout_rows_2) (evSs (FN n) b_layout_rows_5) fuel [some (.loc 0), some (.val (.int wide)), some (.val (.int y.cs.length)), some (.val (.int r0)), some (.loc 1), s5, some (.loc 2), some (.val (.int b)), s8, s9] [y.obj, y.wd, .list (rows.map .str)] =
      some (.next, ρ', [y.obj, y.wd, .list ((rows ++ y.blocks wide k b).map .str)]) ∧ slot ρ' 6 = some (.loc 2) := by
  subst hr
  intro k
  induction k with
  | zero =>
    intro fuel b rows s8 s9 h1 h2 h3 _
    obtain ⟨f, rfl⟩ := suc_of h2
    refine ⟨[some (.loc 0), some (.val (.int wide)), some (.val (.int y.cs.length)), some (.val (.int y.room)), some (.loc 1), s5, some (.loc 2), some (.val (.int b)), s8, s9], wh_step ?_, rfl⟩
    apply condF (inlt (Nat.not_lt.mpr (Nat.le_of_sub_eq_zero (Nat.le_zero.mp h1))))
    rw [show rows ++ y.blocks wide 0 b = rows from List.append_nil rows]
  | succ k ih =>
    intro fuel b rows s8 s9 h1 h2 h3 h4
    obtain ⟨f, rfl⟩ := suc_of h2
    have c1 := ok.c1
    have t1 := ok.t1
    by_cases hc : b < y.cs.length
    · obtain ⟨t', q⟩ := grow_loop ok (n := n) (wide := wide) (R := [.list (rows.map .str)]) (s3 := some (.val (.int y.room))) (s5 := s5) (s6 := some (.loc 2)) (s7 := some (.val (.int b))) (y.cs.length - (b + 1)) 24 (b + 1) (y.room + 1 + y.W b) (Nat.le_refl _) (by omega) hc
      have hgr := grow_range y wide (y.cs.length - (b + 1)) (b + 1) (y.room + 1 + y.W b) hc
      rw [blocks_succ hc, ← List.append_assoc]
      generalize y.grow wide (y.cs.length - (b + 1)) (b + 1) (y.room + 1 + y.W b) = G at *
      have hbl := block_ok ok (N := n) hn (R := [.list (rows.map .str)]) (b := b) (m := G - b) (by omega)
      rw [show b + (G - b) = G by omega] at hbl
      have hlen : (y.block b (G - b)).length = y.tall + 1 := block_len
      obtain ⟨ρ', q2, q3⟩ := ih f G (rows ++ y.block b (G - b)) (some (.val (.int t'))) (some (.val (.int G))) (by omega) (Nat.lt_of_succ_lt_succ h2) hgr.2 (by rw [List.length_append]; omega)
      refine ⟨ρ', wh_step ?_, q3⟩
      apply condT (ilt hc)
      apply stp (idx_loc (σ := [y.obj, y.wd, .list (rows.map .str)]) (j := 1) rfl (wd_idx ok hc))
      apply stp q
      apply And.intro rfl
      apply stp hbl
      apply stp (cellE_of (σ := [y.obj, y.wd, .list (rows.map .str)]) (i := 2) rfl (small (k := 700) (by rw [List.length_map, List.length_map]; omega)))
      exact (congrArg (fun x => whLoop (ev (FN n) c_layout_rows_2) (evSs (FN n) b_layout_rows_5) f _ [y.obj, y.wd, .list x]) List.map_append.symm).trans q2
    · refine ⟨[some (.loc 0), some (.val (.int wide)), some (.val (.int y.cs.length)), some (.val (.int y.room)), some (.loc 1), s5, some (.loc 2), some (.val (.int b)), s8, s9], wh_step ?_, rfl⟩
      apply condF (inlt hc)
      rw [show rows ++ y.blocks wide (k + 1) b = rows from (congrArg (rows ++ ·) (if_neg hc)).trans (List.append_nil rows)]
end
end
end Mine

namespace Mine
open PySem PySem.W
noncomputable section

section
variable {y : Lay} (ok : y.Ok) {n : Nat} {wide : Int}
include ok
noncomputable def wsI (y : Lay) (s1 s2 s3 : Option AV) (ds : List D) (ρ : Slots) (σ : Store) : Prop :=
  X4 fun x k m ws => A6 (ρ = [some (.loc 0), s1, s2, s3, some (.loc 1), x, none, none, none, none]) (ds = nats k m) (k + m = y.cs.length) (σ = [y.obj, .list ws]) (ws ++ (List.range' k m).map (fun j => .int (y.W j)) = (List.range y.cs.length).map (fun j => .int (y.W j))) (ws.length ≤ k)
omit ok in
theorem cols_idx {cs : List (List Str)} {k : Nat} {c : List Str} (h : cs[k]? = some c) (hk : k < 1000000) : idxOf (k : Int) (colsD cs) = some (.list (c.map .str)) := by
  rw [idxOf_nat hk, colsD, List.getElem?_map, h]; rfl
omit ok in
theorem cols_len {cs : List (List Str)} (h : cs.length ≤ 1000) (σ : Store) : biAV σ .len [.val (.list (colsD cs))] = some (.val (.int cs.length)) := by
  have e : (colsD cs).length = cs.length := List.length_map _
  have := bi_lenl (l := colsD cs) (by rw [e]; exact small h) σ
  rwa [e] at this
theorem ws_step (hn : 2 ≤ n) {s1 s2 s3 : Option AV} (d : D) (r : List D) (ρ : Slots) (σ : Store) (h : wsI y s1 s2 s3 (d :: r) ρ σ) :
    X2 fun ρ' σ' => evSs (FN n) b_layout_rows_1 (ρ.set 5 (some (.val d))) σ = some (.next, ρ', σ') ∧ wsI y s1 s2 s3 r ρ' σ' := by
  obtain ⟨x, k, m, ws, rfl, hd, hk, rfl, hP, hl⟩ := h
  have c1 := ok.c1
  have t1 := ok.t1
  cases m with
  | zero => cases hd
  | succ m =>
    rw [nats_succ] at hd
    cases hd
    have hkc : k < y.cs.length := by omega
    obtain ⟨x1, x2, x3⟩ := ok.col_at hkc
    refine ⟨_, [y.obj, .list (ws ++ [.int (y.W k)])], evSs_run (p := (.next, _, _)) ?_, some (.val (.int k)), k + 1, m, ws ++ [.int (y.W k)], rfl, rfl, (Nat.add_right_comm k 1 m).trans hk, rfl, ?_, ?_⟩
    · apply And.intro rfl
      apply stp (idx_l (cols_idx x1 (Nat.lt_of_lt_of_le hkc (Nat.le_trans c1 (by decide)))))
      apply stp (widest_ok (N := n) (Nat.le_trans (by decide) hn) (l := y.cs.getD k []) (fun s hs => small (x3 s hs)) (small (Nat.le_trans (Nat.le_of_eq x2) t1)) [y.obj, .list ws])
      apply stp (head_ok ok (N := n) (k := k) (rest := [.list ws]) (Nat.le_trans (by decide) hn) hkc)
      apply stp (bi_lens (small (ok.head_len hkc)) _)
      apply stp (cellA_of (σ := [y.obj, .list ws]) (i := 1) rfl (small (Nat.le_trans hl (Nat.le_trans (Nat.le_of_lt hkc) c1))))
      rfl
    · rw [← hP, List.range'_succ, List.append_assoc]; rfl
    · rw [List.length_append]; exact Nat.add_le_add_right hl 1
theorem layout_ok {N : Nat} (hN : 5 ≤ N) : FN N 354 [.loc 0, .val (.int wide)] [y.obj] = some (.val (.list ((y.blocks wide y.cs.length 0).map .str)), [y.obj]) := by
  obtain ⟨n, rfl⟩ : ∃ n, N = n + 1 := suc_of hN
  have hn : 4 ≤ n := Nat.le_of_succ_le_succ hN
  have c1 := ok.c1
  have c6 := Nat.le_trans c1 (show 6 ≤ 1000 by decide)
  obtain ⟨ρ₁, σ₁, e1, x, k', m', ws, rfl, u2, u3, rfl, u4, _⟩ := for_inv (b := evSs (FN n) b_layout_rows_1) (x := 5)
    (wsI y (some (.val (.int wide))) (some (.val (.int y.cs.length))) (some (.val (.int (y.room + 0))))) (nats 0 y.cs.length)
    [some (.loc 0), some (.val (.int wide)), some (.val (.int y.cs.length)), some (.val (.int (y.room + 0))), some (.loc 1), none, none, none, none, none] [y.obj, .list []]
    ⟨none, 0, y.cs.length, [], rfl, rfl, Nat.zero_add _, rfl, by rw [List.range_eq_range']; rfl, Nat.le_refl 0⟩ (ws_step ok (Nat.le_trans (by decide) hn))
  cases m' with
  | succ m' => cases u2
  | zero =>
  replace u4 : D.list ws = y.wd := congrArg D.list ((List.append_nil ws).symm.trans u4)
  obtain ⟨ρ', q, q3⟩ := blocks_loop ok (n := n) (wide := wide) (s5 := x) hn (Int.add_zero y.room) y.cs.length 24 0 [] none none (Nat.le_refl _) (Nat.lt_of_le_of_lt c1 (by decide)) (Nat.zero_le _) (Nat.le_refl 0)
  refine fn_run (fd := f_layout_rows) rfl (by decide) rfl ?_
  apply stp (cols_len c6 _)
  apply stp (room_ok ok (N := n) (rest := []) (Nat.le_trans (by decide) hn))
  apply stp (off_ok (y := y) (N := n) (rest := []) (Nat.le_trans (by decide) hn))
  apply stp (biAV_range1 (b := (y.cs.length : Int)) (small (a := y.cs.length) c6))
  apply stp (items_rng0 (m := y.cs.length) c6)
  apply And.intro (rng_len (b := 0) (m := y.cs.length) c6)
  apply stp e1
  apply condF (beq_eq_false_iff_ne.mpr (show (y.cs.length : Int) ≠ 0 from fun q => absurd ok.c0 (by rw [Int.natCast_eq_zero.mp q]; decide)))
  rw [u4]
  apply stp q
  apply stp q3
  exact leave_list (σ := [y.obj]) (x := [y.wd, _]) (i := 1) rfl
end
end
end Mine

namespace Mine
open PySem PySem.W
noncomputable section

theorem lwide_ok {N : Nat} (hN : 1 ≤ N) {l : List Str} (h : ∀ s ∈ l, s.length ≤ lim) (hl : l.length + 1 ≤ lim) (σ : Store) : FN N 453 [.val (.list (l.map .str))] σ = some (.val (.int (wid l)), σ) := by
  obtain ⟨n, rfl⟩ : ∃ n, N = n + 1 := suc_of hN
  refine fn_run (fd := f_law_wide) rfl (by decide) rfl ?_
  apply And.intro (Nat.le_trans (Nat.le_of_eq (List.length_map _)) (Nat.le_of_succ_le hl))
  apply stp (lc_on D.str (fun s => D.int s.length) l fun s hs => ?_)
  · apply stp (bin_addl (a := [.int 0]) (Nat.le_trans (Nat.le_of_eq ((congrArg (1 + ·) (List.length_map _)).trans (Nat.add_comm 1 _))) hl))
    apply stp (bi_max1 (r := l.map fun s => (s.length : Int)) (congrArg (List.cons (D.int 0)) (List.map_map (f := fun s : Str => (s.length : Int)) (g := D.int)).symm) (Nat.le_trans (Nat.le_of_eq (List.length_map _)) (Nat.le_of_succ_le hl)))
    exact leave_val
  · apply ev_run
    apply stp (bi_lens (h s hs) σ)
    rfl

/-- the law's own block -/
theorem take_rg : ∀ (n m b : Nat), n ≤ m → (List.range' b m).take n = List.range' b n
  | 0, m, b, _ => by simp
  | n + 1, 0, b, h => by omega
  | n + 1, m + 1, b, h => by
    rw [List.range'_succ, List.range'_succ, List.take_succ_cons, take_rg n m (b + 1) (by omega)]
theorem cut_range {c b e : Nat} {α : Type} (f : Nat → α) (hb : b ≤ e) (he : e ≤ c) : cut (some (b : Int)) (some (e : Int)) ((List.range c).map f) = (List.range' b (e - b)).map f := by
  unfold cut kms_lo kms_hi
  simp only [List.length_map, List.length_range]
  rw [if_neg (by omega), if_neg (by omega)]
  rw [show min (b : Int).toNat c = b by omega, show min (e : Int).toNat c = e by omega]
  rw [← List.map_drop, ← List.map_take, List.range_eq_range', List.drop_range', take_rg _ _ _ (by omega)]
  congr 2; omega
noncomputable def Lay.S (y : Lay) (b m : Nat) : Int := ((List.range' b m).map fun j => 1 + y.W j).sum
theorem S_succ (y : Lay) (b m : Nat) : y.S b (m + 1) = y.S b m + (1 + y.W (b + m)) := by
  unfold Lay.S
  rw [List.range'_concat]
  simp

section
variable {y : Lay} (ok : y.Ok) {n : Nat} {wide : Int} {σ : Store} {h0 h1 h4 h7 a10 a11 a12 a13 a14 a15 a16 : Option AV}
include ok
omit ok in
theorem sl_l {l r : List D} {a b : Int} (h : l.length ≤ lim) (hc : cut (some a) (some b) l = r) : slAV (.val (.list l)) (.val (.int a)) (.val (.int b)) = some (.val (.list r)) := by
  show (if _ then some (D.list (cut (some a) (some b) l)) else none).map AV.val = _
  rw [if_pos h, hc]; rfl
omit ok in
theorem bi_sum {l : List D} {r : List Int} (h : l = r.map .int) : biAV σ .sum1 [.val (.list l)] = some (.val (.int r.sum)) := by
  subst h
  show ((ints? (r.map D.int)).map fun ns => D.int ns.sum).map AV.val = _
  rw [ints_map]; rfl
theorem lgrow_loop : ∀ (k fuel b e : Nat), y.cs.length - e ≤ k → k < fuel → b < e → e ≤ y.cs.length →
    whLoop (ev (FN n) c_law_block_4) (evSs (FN n) b_law_block_5) fuel [h0, h1, some (.val (.list (colsD y.cs))), some (.val (.int wide)), h4, some (.val (.int y.room)), some (.val y.wd), h7, some (.val (.int b)), some (.val (.int e)), a10, a11, a12, a13, a14, a15, a16] σ =
      some (.next, [h0, h1, some (.val (.list (colsD y.cs))), some (.val (.int wide)), h4, some (.val (.int y.room)), some (.val y.wd), h7, some (.val (.int b)), some (.val (.int (y.grow wide k e (y.room + y.S b (e - b))))), a10, a11, a12, a13, a14, a15, a16], σ) := by
  intro k
  have c6 := Nat.le_trans ok.c1 (show 6 ≤ 1000 by decide)
  induction k with
  | zero =>
    intro fuel b e w1 w2 w3 w4
    obtain ⟨f, rfl⟩ := suc_of w2
    apply wh_step
    apply stp (cols_len c6 _)
    apply condF (inlt (Nat.not_lt.mpr (Nat.le_of_sub_eq_zero (Nat.le_zero.mp w1))))
    rfl
  | succ k ih =>
    intro fuel b e w1 w2 w3 w4
    obtain ⟨f, rfl⟩ := suc_of w2
    apply wh_step
    apply stp (cols_len c6 _)
    by_cases hc : e < y.cs.length
    · have hs1 : y.room + y.S b (e - b) + 1 + y.W e = y.room + y.S b (e + 1 - b) := by
        rw [show e + 1 - b = (e - b) + 1 by omega, S_succ, show b + (e - b) = e by omega]; omega
      have hcut : cut (some (b : Int)) (some (((e + 1 : Nat) : Int))) ((List.range y.cs.length).map fun k => D.int (y.W k)) = ((List.range' b (e + 1 - b)).map fun j => y.W j).map .int := by
        rw [cut_range _ (Nat.le_succ_of_le (Nat.le_of_lt w3)) hc, List.map_map]; rfl
      have hwl : ((List.range y.cs.length).map fun k => D.int (y.W k)).length ≤ lim := by rw [List.length_map, List.length_range]; exact small c6
      have hws : (((List.range' b (e + 1 - b)).map fun j => y.W j).map D.int).length ≤ lim := by
        rw [List.length_map, List.length_map, List.length_range']; exact small (k := 6) (Nat.le_trans (Nat.sub_le _ _) (Nat.le_trans hc ok.c1))
      have hsum : (((List.range' b (e + 1 - b)).map fun j => y.W j).map fun w => 1 + w).sum = y.S b (e + 1 - b) := by
        rw [List.map_map]; rfl
      have hw3 := ih f b (e + 1) (by omega) (Nat.lt_of_succ_lt_succ w2) (Nat.lt_succ_of_lt w3) hc
      apply condT (ilt hc)
      apply stp (sl_l hwl hcut)
      apply And.intro hws
      apply stp (lc_on D.int (fun w => D.int (1 + w)) ((List.range' b (e + 1 - b)).map fun j => y.W j) fun w _ => rfl)
      apply stp ((bi_sum (r := ((List.range' b (e + 1 - b)).map fun j => y.W j).map fun w => 1 + w) List.map_map.symm).trans (congrArg (fun z => some (AV.val (.int z))) hsum))
      by_cases hw : y.room + y.S b (e + 1 - b) < wide
      · have hg : y.grow wide (k + 1) e (y.room + y.S b (e - b)) = y.grow wide k (e + 1) (y.room + y.S b (e + 1 - b)) := by
          rw [← hs1] at hw ⊢
          exact if_pos ⟨hc, hw⟩
        rw [hg]
        apply condT (decide_eq_true hw)
        exact hw3
      · have hg : y.grow wide (k + 1) e (y.room + y.S b (e - b)) = e := by
          rw [← hs1] at hw
          exact if_neg fun q => hw q.2
        rw [hg]
        apply condF (decide_eq_false hw)
        rfl
    · have hg : y.grow wide (k + 1) e (y.room + y.S b (e - b)) = e := if_neg fun q => hc q.1
      rw [hg]
      apply condF (inlt hc)
      rfl
end
end
end Mine

namespace Mine
open PySem PySem.W
noncomputable section

section
variable {y : Lay} (ok : y.Ok) {n : Nat} {wide : Int} {σ : Store} {s1 s3 s5 s7 s8 s9 a15 a16 : Option AV}
include ok
noncomputable def headsD (y : Lay) : List D := (List.range y.cs.length).map fun k => .str (y.head k)
noncomputable def lwI (y : Lay) (s1 s3 s5 s7 s8 s9 line a15 a16 : Option AV) (e : Nat) (P : Str) (f : Nat → Str) (σ₀ : Store) (ds : List D) (ρ : Slots) (σ : Store) : Prop :=
  σ = σ₀ ∧ X6 fun x12 x13 x14 k m acc => A5 (ρ = [some (.val (.list (headsD y))), s1, some (.val (.list (colsD y.cs))), s3, some (.val (.bool y.left)), s5, some (.val y.wd), s7, s8, s9, line, some (.val (.str acc)), x12, x13, x14, a15, a16]) (ds = nats k m) (k + m = e) ((y.pieces f k m).foldl (· ++ ·) acc = P) (acc.length ≤ 40 + 21 * k)
theorem lw_fin {line : Option AV} {P : Str} {f : Nat → Str} {k m e : Nat} {acc : Str} {x12 x13 x14 : Option AV} (h1 : (f k).length ≤ 20) (hk : k < y.cs.length) (hm : k + (m + 1) = e) (hP : (y.pieces f k (m + 1)).foldl (· ++ ·) acc = P) (hl : acc.length ≤ 40 + 21 * k) :
    lwI y s1 s3 s5 s7 s8 s9 line a15 a16 e P f σ (nats (k + 1) m) [some (.val (.list (headsD y))), s1, some (.val (.list (colsD y.cs))), s3, some (.val (.bool y.left)), s5, some (.val y.wd), s7, s8, s9, line, some (.val (.str (acc ++ padS y.left (f k) (y.W k)))), x12, x13, x14, a15, a16] σ := by
  refine ⟨rfl, x12, x13, x14, k + 1, m, _, rfl, rfl, (Nat.add_right_comm k 1 m).trans hm, ?_, ?_⟩
  · rw [← hP]; unfold Lay.pieces; rw [List.range'_succ]; rfl
  · rw [len_app]; exact Nat.add_assoc 40 _ 21 ▸ Nat.add_le_add hl (padS_len (left := y.left) h1 (ok.W_range hk).2)
omit ok in
theorem aug_adds {a b : Str} (h : a.length + b.length ≤ lim) : augAV .add (.val (.str a)) (.val (.str b)) = some (.val (.str (a ++ b))) := bin_adds h
/-- the row of a line while its cells are set -/
noncomputable abbrev brow (y : Lay) (s1 s3 s5 s7 s8 s9 line a15 a16 : Option AV) (acc : Str) (k : Nat) (x13 x14 : Option AV) : Slots := [some (.val (.list (headsD y))), s1, some (.val (.list (colsD y.cs))), s3, some (.val (.bool y.left)), s5, some (.val y.wd), s7, s8, s9, line, some (.val (.str acc)), some (.val (.int k)), x13, x14, a15, a16]
theorem lw_14 {line x14 : Option AV} {k : Nat} {t acc : Str} (ht : t.length ≤ 20) (hk : k < y.cs.length) :
    evS (FN n) (.asg 14 (.bin .mul (.c (.str " ")) (.bin .sub (.idx (.v 6) (.v 12)) (.bi .len [(.v 13)])))) (brow y s1 s3 s5 s7 s8 s9 line a15 a16 acc k (some (.val (.str t))) x14) σ =
      some (.next, brow y s1 s3 s5 s7 s8 s9 line a15 a16 acc k (some (.val (.str t))) (some (.val (.str (sp (y.W k - t.length))))), σ) := by
  have hw := ok.W_range hk
  apply evS_run
  apply stp (idx_l (wd_idx ok hk))
  apply stp (bi_lens (small ht) σ)
  apply stp (bin_muls ⟨Nat.le_trans (Nat.le_of_eq len_one.2.2.2.2) (by decide), by omega⟩)
  rfl
theorem lw_11 {line : Option AV} {k : Nat} {t acc : Str} (ht : t.length ≤ 20) (hk : k < y.cs.length) (ha : acc.length ≤ 40 + 21 * k) :
    evS (FN n) (.aug 11 .add (.bin .add (.c (.str " ")) (.ite (.v 4) (.bin .add (.v 13) (.v 14)) (.bin .add (.v 14) (.v 13))))) (brow y s1 s3 s5 s7 s8 s9 line a15 a16 acc k (some (.val (.str t))) (some (.val (.str (sp (y.W k - t.length)))))) σ =
      some (.next, brow y s1 s3 s5 s7 s8 s9 line a15 a16 (acc ++ padS y.left t (y.W k)) k (some (.val (.str t))) (some (.val (.str (sp (y.W k - t.length))))), σ) := by
  have c1 := ok.c1
  have hw := ok.W_range hk
  have hs : (sp (y.W k - t.length)).length ≤ 20 := by rw [sp_len]; omega
  have h2 : t.length + (sp (y.W k - t.length)).length ≤ 40 := Nat.add_le_add ht hs
  apply evS_run
  cases hl : y.left with
  | false =>
    apply condF hl
    apply stp (bin_adds (small (k := 40) (by rw [Nat.add_comm]; exact h2)))
    apply stp (bin_adds (small (k := 41) (by rw [len_one.2.2.2.2, len_app]; omega)))
    apply stp (aug_adds (small (k := 300) (by rw [len_app, len_one.2.2.2.2, len_app]; omega)))
    rfl
  | true =>
    apply condT hl
    apply stp (bin_adds (small (k := 40) h2))
    apply stp (bin_adds (small (k := 41) (by rw [len_one.2.2.2.2, len_app]; omega)))
    apply stp (aug_adds (small (k := 300) (by rw [len_app, len_one.2.2.2.2, len_app]; omega)))
    rfl
theorem lw_end {line x14 : Option AV} {k : Nat} {t acc : Str} (ht : t.length ≤ 20) (hk : k < y.cs.length) (ha : acc.length ≤ 40 + 21 * k) :
    evSs (FN n) (b_law_block_6.drop 1) (brow y s1 s3 s5 s7 s8 s9 line a15 a16 acc k (some (.val (.str t))) x14) σ =
      some (.next, brow y s1 s3 s5 s7 s8 s9 line a15 a16 (acc ++ padS y.left t (y.W k)) k (some (.val (.str t))) (some (.val (.str (sp (y.W k - t.length))))), σ) := (evSs_next (lw_14 ok ht hk)).trans (evSs_next (lw_11 ok ht hk ha))
theorem lw_step {line : Int} {i e : Nat} (hline : line = -1 ∨ line = (i : Int) ∧ i < y.tall) (he : e ≤ y.cs.length) {P : Str} (d : D) (r : List D) (ρ : Slots) (σ' : Store)
    (h : lwI y s1 s3 s5 s7 s8 s9 (some (.val (.int line))) a15 a16 e P (if line < 0 then y.head else fun k => y.X k i) σ (d :: r) ρ σ') :
    X2 fun ρ' σ'' => evSs (FN n) b_law_block_6 (ρ.set 12 (some (.val d))) σ' = some (.next, ρ', σ'') ∧ lwI y s1 s3 s5 s7 s8 s9 (some (.val (.int line))) a15 a16 e P (if line < 0 then y.head else fun k => y.X k i) σ r ρ' σ'' := by
  obtain ⟨rfl, x12, x13, x14, k, m, acc, rfl, hd, hk, hP, hl⟩ := h
  cases m with
  | zero => cases hd
  | succ m =>
    rw [nats_succ] at hd
    cases hd
    have hkc : k < y.cs.length := by omega
    have h6 := Nat.lt_of_lt_of_le hkc (Nat.le_trans ok.c1 (show 6 ≤ 1000000 by decide))
    rcases hline with rfl | ⟨rfl, hi⟩
    · refine ⟨_, σ', (evSs_next (evS_run (p := (.next, brow y s1 s3 s5 s7 s8 s9 (some (.val (.int (-1)))) a15 a16 acc k (some (.val (.str (y.head k)))) x14, σ')) ?_)).trans (lw_end ok (ok.head_len hkc) hkc hl), lw_fin ok (ok.head_len hkc) hkc hk hP hl⟩
      apply stp (idx_l (l := headsD y) (d := .str (y.head k)) (by rw [idxOf_nat h6, headsD, List.getElem?_map, List.getElem?_range hkc]; rfl))
      rfl
    · have hlt : ¬ ((i : Int) < 0) := Int.not_lt.mpr (Int.natCast_nonneg i)
      have hc := ok.col_at hkc
      have hx := ok.X_at hkc hi
      rw [if_neg hlt] at hP ⊢
      refine ⟨_, σ', (evSs_next (evS_run (p := (.next, brow y s1 s3 s5 s7 s8 s9 (some (.val (.int i))) a15 a16 acc k (some (.val (.str (y.X k i)))) x14, σ')) ?_)).trans (lw_end ok hx.2 hkc hl), lw_fin (f := fun k => y.X k i) ok hx.2 hkc hk hP hl⟩
      apply stp (idx_l (cols_idx hc.1 h6))
      apply stp (idx_l (d := .str (y.X k i)) (by rw [idxOf_nat (Nat.lt_of_lt_of_le hi (Nat.le_trans ok.t1 (by decide))), List.getElem?_map, hx.1]; rfl))
      rfl
end
end
end Mine

namespace Mine
open PySem PySem.W
noncomputable section

structure Marks (y : Lay) (ms : List Str) : Prop where
  len : ms.length = y.tall
  wid : wid ms = y.room
  at_ : ∀ i, i < y.tall → ∃ t, A3 (ms[i]? = some t) (t.length ≤ 20) (t ++ sp (y.room - t.length) = y.lab i)

section
variable {y : Lay} (ok : y.Ok) {ms : List Str} (hm : Marks y ms) {n : Nat} {wide : Int} {s3 a15 a16 : Option AV}
include ok hm
noncomputable abbrev lrow (y : Lay) (ms : List Str) (s3 s8 s9 x10 x11 x12 x13 x14 a15 a16 : Option AV) : Slots :=
  [some (.val (.list (headsD y))), some (.val (.list (ms.map .str))), some (.val (.list (colsD y.cs))), s3, some (.val (.bool y.left)), some (.val (.int y.room)), some (.val y.wd), some (.loc 0), s8, s9, x10, x11, x12, x13, x14, a15, a16]
noncomputable def lineS (y : Lay) (line : Int) (i b m : Nat) : Str := if line < 0 then y.rowS (Txt.ljust Str.empty y.room) y.head b m else y.rowS (y.lab i) (fun k => y.X k i) b m
omit hm in
omit ok in
theorem spn {w : Int} : Txt.mul (Str.ofString " ") w = sp w := rfl
theorem label_at {line : Int} {i b m : Nat} {s8 s9 x11 x12 x13 x14 : Option AV} {σ : Store} (hline : line = -1 ∨ line = (i : Int) ∧ i < y.tall) :
    ∃ lab : Str, A3 (lineS y line i b m = y.rowS lab (if line < 0 then y.head else fun k => y.X k i) b m) (lab.length ≤ 20)
      (evS (FN n) (.asg 11 (.ite (.cmp .ge (.v 10) (.c (.int 0))) (.bin .add (.idx (.v 1) (.v 10)) (.bin .mul (.c (.str " ")) (.bin .sub (.v 5) (.bi .len [(.idx (.v 1) (.v 10))])))) (.bin .mul (.c (.str " ")) (.v 5)))) (lrow y ms s3 s8 s9 (some (.val (.int line))) x11 x12 x13 x14 a15 a16) σ =
        some (.next, lrow y ms s3 s8 s9 (some (.val (.int line))) (some (.val (.str lab))) x12 x13 x14 a15 a16, σ)) := by
  have hrr := ok.room_range
  rcases hline with rfl | ⟨rfl, hi⟩
  · refine ⟨sp y.room, ?_, by rw [sp_len]; exact Int.toNat_le.mpr hrr.2, evS_run ?_⟩
    · have : Txt.ljust Str.empty y.room = sp y.room := by rw [ljust_eq hrr.1, empty_app]; congr 1; exact Int.sub_zero _
      rw [← this]; rfl
    · apply stp (bin_muls ⟨Nat.le_trans (Nat.le_of_eq len_one.2.2.2.2) (by decide), by omega⟩)
      rfl
  · obtain ⟨t, k1, k2, k3⟩ := hm.at_ i hi
    have hlt : ¬ ((i : Int) < 0) := Int.not_lt.mpr (Int.natCast_nonneg i)
    refine ⟨y.lab i, by unfold lineS; rw [if_neg hlt, if_neg hlt], ok.lab_len hi, evS_run ?_⟩
    have h6 : idxOf (i : Int) (ms.map .str) = some (.str t) := by
      rw [idxOf_nat (Nat.lt_of_lt_of_le hi (Nat.le_trans ok.t1 (by decide))), List.getElem?_map, k1]; rfl
    have hl := ok.lab_len hi
    rw [← k3] at hl ⊢
    apply stp (idx_l h6)
    apply stp (idx_l h6)
    apply stp (bi_lens (small k2) _)
    apply stp (bin_muls ⟨Nat.le_trans (Nat.le_of_eq len_one.2.2.2.2) (by decide), by omega⟩)
    apply stp (bin_adds (small (k := 20) (by rw [← len_app]; exact hl)))
    rfl
theorem line_step {line : Int} {i b m : Nat} (hline : line = -1 ∨ line = (i : Int) ∧ i < y.tall) (he : b + m ≤ y.cs.length) {rows : List Str} (hr : rows.length ≤ lim) (x10 x11 x12 x13 x14 : Option AV) :
    X4 fun y11 y12 y13 y14 => evSs (FN n) b_law_block_7 ((lrow y ms s3 (some (.val (.int b))) (some (.val (.int ((b + m : Nat) : Int)))) x10 x11 x12 x13 x14 a15 a16).set 10 (some (.val (.int line)))) [.list (rows.map .str)] =
      some (.next, lrow y ms s3 (some (.val (.int b))) (some (.val (.int ((b + m : Nat) : Int)))) (some (.val (.int line))) y11 y12 y13 y14 a15 a16, [.list ((rows ++ [lineS y line i b m]).map .str)]) := by
  have c1 := ok.c1
  obtain ⟨lab, hlab, hll, hev⟩ := label_at ok hm (n := n) (s3 := s3) (a15 := a15) (a16 := a16) (b := b) (m := m) (s8 := some (.val (.int b))) (s9 := some (.val (.int ((b + m : Nat) : Int)))) (x11 := x11) (x12 := x12) (x13 := x13) (x14 := x14) (σ := [.list (rows.map .str)]) hline
  -- the cells
  obtain ⟨ρ', σ', e, rfl, x12', x13', x14', k', m', acc, rfl, e2, e3, e4, _⟩ := for_inv (b := evSs (FN n) b_law_block_6) (x := 12)
    (lwI y (some (.val (.list (ms.map .str)))) s3 (some (.val (.int y.room))) (some (.loc 0)) (some (.val (.int b))) (some (.val (.int ((b + m : Nat) : Int)))) (some (.val (.int line))) a15 a16 (b + m) (lineS y line i b m) (if line < 0 then y.head else fun k => y.X k i) [.list (rows.map .str)])
    (nats b m) (lrow y ms s3 (some (.val (.int b))) (some (.val (.int ((b + m : Nat) : Int)))) (some (.val (.int line))) (some (.val (.str lab))) x12 x13 x14 a15 a16) [.list (rows.map .str)]
    ⟨rfl, x12, x13, x14, b, m, lab, rfl, rfl, rfl, by rw [hlab]; rfl, Nat.le_trans hll (Nat.le_trans (show 20 ≤ 40 by decide) (Nat.le_add_right _ _))⟩ (lw_step ok hline he)
  cases m' with
  | succ m' => cases e2
  | zero =>
  refine ⟨some (.val (.str acc)), x12', x13', x14', (evSs_next hev).trans ((evSs_next (evS_run (p := (.next, lrow y ms s3 (some (.val (.int b))) (some (.val (.int ((b + m : Nat) : Int)))) (some (.val (.int line))) (some (.val (.str acc))) x12' x13' x14' a15 a16, [.list (rows.map .str)])) ?_)).trans (evSs_next (evS_run (p := (.next, _, _)) ?_)))⟩
  · apply stp (biAV_range2 (a := (b : Int)) (b := ((b + m : Nat) : Int)) ⟨Int.le_trans (by decide) (Int.natCast_nonneg b), small (a := b) (k := 6) (by omega), small (a := b + m) (k := 6) (by omega)⟩)
    apply stp (items_rng (b := b) (m := m) (by omega))
    apply And.intro (rng_len (b := b) (m := m) (by omega))
    apply stp e
    rfl
  · apply And.intro rfl
    apply stp (cellA_of (σ := [.list (rows.map .str)]) (i := 0) rfl (Nat.le_trans (Nat.le_of_eq (List.length_map _)) hr))
    rw [← e4, List.map_append]
    rfl
end
end
end Mine

namespace Mine
open PySem PySem.W
noncomputable section

theorem rangeN_m1 (t : Nat) : rangeN (-1) (t : Int) 1 = t + 1 := by
  unfold rangeN Builtin.Range.rangeSize
  rw [if_pos (by omega), if_pos (by omega)]
  simp
theorem items_m1 {t : Nat} (h : t ≤ 1000) : itemsOf (.val (.rng (-1) (t : Int) 1)) = some (.int (-1) :: nats 0 t) := by
  show (if _ then _ else _) = _
  rw [if_pos (by unfold lim; omega), rangeN_m1]
  show some (.int (-1) :: rangeL (-1 + 1) 1 t) = _
  rw [show ((-1 : Int) + 1) = ((0 : Nat) : Int) from rfl, rangeL_nat]

section
variable {y : Lay} (ok : y.Ok) {ms : List Str} (hm : Marks y ms) {n : Nat} {wide : Int} {s3 a15 a16 : Option AV}
include ok hm
noncomputable def llI (y : Lay) (ms : List Str) (s3 a15 a16 : Option AV) (b m : Nat) (Q : List Str) (ds : List D) (ρ : Slots) (σ : Store) : Prop :=
  X8 fun i q rows x10 x11 x12 x13 x14 => A6 (ρ = lrow y ms s3 (some (.val (.int b))) (some (.val (.int ((b + m : Nat) : Int)))) x10 x11 x12 x13 x14 a15 a16) (ds = nats i q) (i + q = y.tall) (σ = [.list (rows.map .str)]) (rows ++ (List.range' i q).map (fun i => y.rowS (y.lab i) (fun k => y.X k i) b m) = Q) (rows.length ≤ 1000 + i)
theorem lines_loop {b m : Nat} (he : b + m ≤ y.cs.length) {rows : List Str} (hr : rows.length ≤ 900) (x10 x11 x12 x13 x14 : Option AV) :
    X5 fun y10 y11 y12 y13 y14 => forLoop (evSs (FN n) b_law_block_7) 10 (.int (-1) :: nats 0 y.tall) (lrow y ms s3 (some (.val (.int b))) (some (.val (.int ((b + m : Nat) : Int)))) x10 x11 x12 x13 x14 a15 a16) [.list (rows.map .str)] =
      some (.next, lrow y ms s3 (some (.val (.int b))) (some (.val (.int ((b + m : Nat) : Int)))) y10 y11 y12 y13 y14 a15 a16, [.list ((rows ++ y.block b m).map .str)]) := by
  have t1 := ok.t1
  obtain ⟨y11, y12, y13, y14, e1⟩ := line_step ok hm (n := n) (s3 := s3) (a15 := a15) (a16 := a16) (line := -1) (i := 0) (.inl rfl) he (rows := rows) (by unfold lim; omega) x10 x11 x12 x13 x14
  have hl1 : lineS y (-1) 0 b m = y.rowS (Txt.ljust Str.empty y.room) y.head b m := rfl
  rw [hl1] at e1
  obtain ⟨ρ', σ', e2, i, q, rows', z10, z11, z12, z13, z14, rfl, u1, u2, rfl, u3, _⟩ := for_inv (b := evSs (FN n) b_law_block_7) (x := 10) (llI y ms s3 a15 a16 b m (rows ++ y.block b m)) (nats 0 y.tall)
    (lrow y ms s3 (some (.val (.int b))) (some (.val (.int ((b + m : Nat) : Int)))) (some (.val (.int (-1)))) y11 y12 y13 y14 a15 a16) [.list ((rows ++ [y.rowS (Txt.ljust Str.empty y.room) y.head b m]).map .str)]
    ⟨0, y.tall, rows ++ [y.rowS (Txt.ljust Str.empty y.room) y.head b m], _, _, _, _, _, rfl, rfl, Nat.zero_add _, rfl, by rw [← List.range_eq_range', List.append_assoc]; rfl, by rw [List.length_append]; exact Nat.le_trans (Nat.succ_le_succ hr) (by decide)⟩ (by
      rintro d r ρ σ ⟨i, q, rows, x10, x11, x12, x13, x14, rfl, hd, hk, rfl, hP, hl⟩
      cases q with
      | zero => cases hd
      | succ q =>
        rw [nats_succ] at hd
        cases hd
        obtain ⟨y11, y12, y13, y14, e1⟩ := line_step ok hm (n := n) (s3 := s3) (a15 := a15) (a16 := a16) (line := i) (i := i) (.inr ⟨rfl, by omega⟩) he (rows := rows) (by unfold lim; omega) x10 x11 x12 x13 x14
        have hl2 : lineS y (i : Int) i b m = y.rowS (y.lab i) (fun k => y.X k i) b m := by
          unfold lineS; rw [if_neg (Int.not_lt.mpr (Int.natCast_nonneg i))]
        rw [hl2] at e1
        refine ⟨_, _, e1, i + 1, q, _, _, _, _, _, _, rfl, rfl, (Nat.add_right_comm i 1 q).trans hk, rfl, ?_, by rw [List.length_append]; exact Nat.add_le_add_right hl 1⟩
        rw [← hP, List.range'_succ, List.append_assoc]; rfl)
  cases q with
  | succ q => cases u1
  | zero =>
  have u3' : rows' = rows ++ y.block b m := (List.append_nil rows').symm.trans u3
  subst u3'
  exact ⟨_, _, _, _, _, by simp only [forLoop, e1]; exact e2⟩
omit hm in
theorem S_one {b : Nat} : y.room + y.S b (b + 1 - b) = y.room + 1 + y.W b := by
  rw [show b + 1 - b = 1 by omega]
  show y.room + (1 + y.W b + 0) = _
  omega
omit hm ok in
theorem range2_m1 {t : Nat} (h : t ≤ 1000) (σ : Store) : biAV σ .range2 [.val (.int (-1)), .val (.int t)] = some (.val (.rng (-1) t 1)) := biAV_range2 ⟨by decide, by decide, small h⟩
omit ok in
theorem marks_len (h : y.tall ≤ 1000) (σ : Store) : biAV σ .len [.val (.list (ms.map .str))] = some (.val (.int y.tall)) := by
  have e : (ms.map D.str).length = y.tall := (List.length_map _).trans hm.len
  have := bi_lenl (l := ms.map D.str) (by rw [e]; exact small h) σ
  rwa [e] at this
theorem lblocks_loop : ∀ (k fuel b : Nat) (rows : List Str) (s9 x10 x11 x12 x13 x14 : Option AV), y.cs.length - b ≤ k → k < fuel → b ≤ y.cs.length → rows.length ≤ 100 * b →
    ∃ ρ', whLoop (ev (FN n) c_law_block_2) (evSs (FN n) b_law_block_8) fuel (lrow y ms (some (.val (.int wide))) (some (.val (.int b))) s9 x10 x11 x12 x13 x14 a15 a16) [.list (rows.map .str)] =
      some (.next, ρ', [.list ((rows ++ y.blocks wide k b).map .str)]) ∧ slot ρ' 7 = some (.loc 0) := by
  intro k
  have c1 := ok.c1
  have c6 := Nat.le_trans c1 (show 6 ≤ 1000 by decide)
  have t1 := ok.t1
  have t6 := Nat.le_trans t1 (show 4 ≤ 1000 by decide)
  induction k with
  | zero =>
    intro fuel b rows s9 x10 x11 x12 x13 x14 w1 w2 w3 _
    obtain ⟨f, rfl⟩ := suc_of w2
    refine ⟨lrow y ms (some (.val (.int wide))) (some (.val (.int b))) s9 x10 x11 x12 x13 x14 a15 a16, wh_step ?_, rfl⟩
    apply stp (cols_len c6 _)
    apply condF (inlt (Nat.not_lt.mpr (Nat.le_of_sub_eq_zero (Nat.le_zero.mp w1))))
    rw [show rows ++ y.blocks wide 0 b = rows from List.append_nil rows]
  | succ k ih =>
    intro fuel b rows s9 x10 x11 x12 x13 x14 w1 w2 w3 w4
    obtain ⟨f, rfl⟩ := suc_of w2
    by_cases hc : b < y.cs.length
    · have q := lgrow_loop ok (n := n) (wide := wide) (σ := [.list (rows.map .str)]) (h0 := some (.val (.list (headsD y)))) (h1 := some (.val (.list (ms.map .str)))) (h4 := some (.val (.bool y.left))) (h7 := some (.loc 0)) (a10 := x10) (a11 := x11) (a12 := x12) (a13 := x13) (a14 := x14) (a15 := a15) (a16 := a16) (y.cs.length - (b + 1)) 24 b (b + 1) (Nat.le_refl _) (by omega) (Nat.lt_succ_self b) hc
      rw [S_one ok] at q
      have hgr := grow_range y wide (y.cs.length - (b + 1)) (b + 1) (y.room + 1 + y.W b) hc
      rw [blocks_succ hc, ← List.append_assoc]
      generalize y.grow wide (y.cs.length - (b + 1)) (b + 1) (y.room + 1 + y.W b) = G at *
      have hG : b + (G - b) = G := Nat.add_sub_cancel' (Nat.le_of_succ_le hgr.1)
      obtain ⟨y10, y11, y12, y13, y14, e1⟩ := lines_loop ok hm (n := n) (s3 := some (.val (.int wide))) (a15 := a15) (a16 := a16) (b := b) (m := G - b) (by rw [hG]; exact hgr.2) (rows := rows) (by omega) x10 x11 x12 x13 x14
      rw [hG] at e1
      have hlen : (y.block b (G - b)).length = y.tall + 1 := block_len
      obtain ⟨ρ', q2, q3⟩ := ih f G (rows ++ y.block b (G - b)) (some (.val (.int G))) y10 y11 y12 y13 y14 (by omega) (Nat.lt_of_succ_lt_succ w2) hgr.2 (by rw [List.length_append]; omega)
      refine ⟨ρ', wh_step ?_, q3⟩
      apply stp (cols_len c6 _)
      apply condT (ilt hc)
      apply stp q
      apply stp (marks_len hm t6 _)
      apply stp (range2_m1 t6 _)
      apply stp (items_m1 t6)
      apply And.intro (show (D.int (-1) :: nats 0 y.tall).length ≤ lim from small (k := 5) (Nat.succ_le_succ (by rw [List.length_map, List.length_range']; exact t1)))
      apply stp e1
      exact q2
    · refine ⟨lrow y ms (some (.val (.int wide))) (some (.val (.int b))) s9 x10 x11 x12 x13 x14 a15 a16, wh_step ?_, rfl⟩
      apply stp (cols_len c6 _)
      apply condF (inlt hc)
      rw [show rows ++ y.blocks wide (k + 1) b = rows from (congrArg (rows ++ ·) (if_neg hc)).trans (List.append_nil rows)]
omit hm in
theorem widths_ok (hn : 1 ≤ n) {ρ : Slots} (hρ : ρ.length = 17) (h0 : ρ[0]? = some (some (.val (.list (headsD y))))) (h2 : ρ[2]? = some (some (.val (.list (colsD y.cs))))) {k : Nat} (hk : k < y.cs.length) (σ : Store) :
    ev (FN n) e_law_block_1 (ρ.set 15 (some (.val (.int k)))) σ = some (.val (.int (y.W k)), σ) := by
  obtain ⟨x1, x2, x3⟩ := ok.col_at hk
  have h6 := Nat.lt_of_lt_of_le hk (Nat.le_trans ok.c1 (show 6 ≤ 1000000 by decide))
  have s0 : slot (ρ.set 15 (some (.val (.int k)))) 0 = some (.val (.list (headsD y))) := by unfold slot; rw [List.getElem?_set_ne (by decide), h0]
  have s2 : slot (ρ.set 15 (some (.val (.int k)))) 2 = some (.val (.list (colsD y.cs))) := by unfold slot; rw [List.getElem?_set_ne (by decide), h2]
  have s15 : slot (ρ.set 15 (some (.val (.int k)))) 15 = some (.val (.int k)) := by unfold slot; rw [List.getElem?_set_self (by rw [hρ]; decide)]
  apply ev_run
  apply stp s2
  apply stp s15
  apply stp (idx_l (cols_idx x1 h6))
  apply stp (lwide_ok hn (l := y.cs.getD k []) (fun s hs => small (x3 s hs)) (small (k := 5) (by rw [x2]; exact Nat.succ_le_succ ok.t1)) σ)
  apply stp s0
  apply stp s15
  apply stp (idx_l (l := headsD y) (d := .str (y.head k)) (by rw [idxOf_nat h6, headsD, List.getElem?_map, List.getElem?_range hk]; rfl))
  apply stp (bi_lens (small (ok.head_len hk)) σ)
  rfl
theorem lawblock_ok {N : Nat} (hN : 2 ≤ N) (σ : Store) :
    FN N 458 [.val (.list (headsD y)), .val (.list (ms.map .str)), .val (.list (colsD y.cs)), .val (.int wide), .val (.bool y.left)] σ = some (.val (.list ((y.blocks wide y.cs.length 0).map .str)), σ) := by
  suffices h : FN N 458 [.val (.list (headsD y)), .val (.list (ms.map .str)), .val (.list (colsD y.cs)), .val (.int wide), .val (.bool y.left)] [] = some (.val (.list ((y.blocks wide y.cs.length 0).map .str)), []) from lift (ds := [_, _, _, _, _]) h σ
  obtain ⟨n, rfl⟩ : ∃ n, N = n + 1 := suc_of hN
  have hn : 1 ≤ n := Nat.le_of_succ_le_succ hN
  have c1 := ok.c1
  have c6 := Nat.le_trans c1 (show 6 ≤ 1000 by decide)
  have hmb : ∀ s ∈ ms, s.length ≤ lim := fun s hs => by
    obtain ⟨i, hi, rfl⟩ := List.getElem_of_mem hs
    obtain ⟨t, k1, k2, _⟩ := hm.at_ i (by rw [← hm.len]; exact hi)
    rw [List.getElem?_eq_getElem hi] at k1
    cases k1
    exact small k2
  have h1 := lwide_ok (N := n) hn hmb (small (k := 5) (by rw [hm.len]; exact Nat.succ_le_succ ok.t1)) []
  rw [hm.wid] at h1
  obtain ⟨ρ', q, q3⟩ := lblocks_loop ok hm (n := n) (wide := wide) (a15 := none) (a16 := none) y.cs.length 24 0 [] none none none none none none (Nat.le_refl _) (Nat.lt_of_le_of_lt c1 (by decide)) (Nat.zero_le _) (Nat.le_refl 0)
  refine fn_run (fd := f_law_block) rfl (by decide) rfl ?_
  apply stp h1
  apply stp (cols_len c6 _)
  apply stp (biAV_range1 (b := (y.cs.length : Int)) (small (a := y.cs.length) c6))
  apply stp (items_rng0 (m := y.cs.length) c6)
  apply And.intro (rng_len (b := 0) (m := y.cs.length) c6)
  apply stp (lc_on (fun j : Nat => D.int j) (fun j => D.int (y.W j)) (List.range' 0 y.cs.length) fun k hk => widths_ok ok hn rfl rfl rfl (by rw [List.mem_range'_1] at hk; omega) [])
  rw [← List.range_eq_range']
  apply stp q
  apply stp q3
  exact leave_list (σ := []) (x := [_]) (i := 0) rfl
end
end
end Mine

namespace Mine
open PySem PySem.W
noncomputable section

/-! what is read off a matrix -/
noncomputable def mdict (dims : List D) (lab : Option (List D)) : List (Str × D) := ("dim", vec "integer" dims .none) :: (match lab with
  | none => []
  | some l => [("dimnames", vec "list" l .none)])
theorem ne_dim : (Str.ofString "dim" == Str.ofString "dimnames") = false := by decide +kernel
theorem look_dim (dims : List D) (lab : Option (List D)) : lookS "dim" (mdict dims lab) = some (vec "integer" dims .none) := by
  cases lab <;> simp [mdict, lookS]
theorem look_names (dims : List D) (lab : Option (List D)) : lookS "dimnames" (mdict dims lab) = lab.map fun l => vec "list" l .none := by
  cases lab <;> simp [mdict, lookS, ne_dim]
section
variable {N : Nat} {k : Str} {l : List D} {σ : Store}
theorem getattr_ok (hN : 1 ≤ N) (a : List (Str × D)) (x : Str) : FN N 28 [.val (vec k l (.dict a)), .val (.str x)] σ = some (.val ((lookS x a).getD .none), σ) := by
  obtain ⟨n, rfl⟩ : ∃ n, N = n + 1 := suc_of hN
  refine fn_run (fd := f_get_attr) rfl (by decide) rfl ?_
  exact leave_val
theorem getattr_none (hN : 1 ≤ N) (x : Str) : FN N 28 [.val (vec k l .none), .val (.str x)] σ = some (.val .none, σ) := by
  obtain ⟨n, rfl⟩ : ∃ n, N = n + 1 := suc_of hN
  refine fn_run (fd := f_get_attr) rfl (by decide) rfl ?_
  exact leave_val
theorem getattr_at (hN : 1 ≤ N) {a : List (Str × D)} {x : Str} {o : Option D} (h : lookS x a = o) : FN N 28 [.val (vec k l (.dict a)), .val (.str x)] σ = some (.val (o.getD .none), σ) := h ▸ getattr_ok hN a x
theorem bi_list1 {l : List D} (h : l.length ≤ lim) (σ : Store) : biAV σ .list1 [.val (.list l)] = some (.val (.list l)) := by
  show (if _ then some (D.list l) else none).map AV.val = _
  rw [if_pos h]; rfl
theorem dim_ok (hN : 2 ≤ N) {dims : List D} (hd : dims.length ≤ lim) (lab : Option (List D)) : FN N 40 [.val (vec k l (.dict (mdict dims lab)))] σ = some (.val (.list dims), σ) := by
  obtain ⟨n, rfl⟩ : ∃ n, N = n + 1 := suc_of hN
  refine fn_run (fd := f_dim_of) rfl (by decide) rfl ?_
  apply stp (getattr_at (N := n) (Nat.le_of_succ_le_succ hN) (look_dim dims lab))
  apply stp (bi_list1 hd σ)
  exact leave_val
theorem dim_none (hN : 2 ≤ N) : FN N 40 [.val (vec k l .none)] σ = some (.val .none, σ) := by
  obtain ⟨n, rfl⟩ : ∃ n, N = n + 1 := suc_of hN
  refine fn_run (fd := f_dim_of) rfl (by decide) rfl ?_
  apply stp (getattr_none (N := n) (Nat.le_of_succ_le_succ hN) "dim")
  exact leave_val
/-- a label row: None, or the names -/
noncomputable def nmD : Option (List D) → D
  | none => .none
  | some l => .list l
noncomputable def labD : Option (List D) → D
  | none => .inst 0 [(0, .str "NULL"), (2, .none)]
  | some l => vec "character" l .none
theorem ne_chNULL : (Str.ofString "character" == Str.ofString "NULL") = false := by decide +kernel
theorem dimnames_ok (hN : 2 ≤ N) {dims : List D} {labs : List (Option (List D))} (hl : labs.length ≤ lim) (hb : ∀ o ∈ labs, ∀ l, o = some l → l.length ≤ lim) : FN N 45 [.val (vec k l (.dict (mdict dims (some (labs.map labD)))))] σ = some (.val (.list (labs.map nmD)), σ) := by
  obtain ⟨n, rfl⟩ : ∃ n, N = n + 1 := suc_of hN
  refine fn_run (fd := f_dimnames_of) rfl (by decide) rfl ?_
  apply stp (getattr_at (N := n) (Nat.le_of_succ_le_succ hN) (look_names dims (some (labs.map labD))))
  apply And.intro (Nat.le_trans (Nat.le_of_eq (List.length_map _)) hl)
  apply stp (lc_on labD nmD labs fun o ho => ?_)
  · exact leave_val
  · cases o with
    | none => kernel_rfl
    | some l =>
      apply ev_run
      apply stp (bi_list1 (hb _ ho l rfl) σ)
      rfl
theorem dimnames_none (hN : 2 ≤ N) {dims : List D} : FN N 45 [.val (vec k l (.dict (mdict dims none)))] σ = some (.val .none, σ) := by
  obtain ⟨n, rfl⟩ : ∃ n, N = n + 1 := suc_of hN
  refine fn_run (fd := f_dimnames_of) rfl (by decide) rfl ?_
  apply stp (getattr_at (N := n) (Nat.le_of_succ_le_succ hN) (look_names dims none))
  exact leave_val
theorem names_list (hN : 3 ≤ N) {ls : List D} : FN N 33 [.val (vec "list" ls .none)] σ = some (.val .none, σ) := by
  obtain ⟨n, rfl⟩ : ∃ n, N = n + 1 := suc_of hN
  refine fn_run (fd := f_names_of) rfl (by decide) rfl ?_
  apply stp (dim_none (N := n) (Nat.le_of_succ_le_succ hN))
  apply stp (getattr_none (N := n) (Nat.le_of_succ_le_succ (Nat.le_trans (by decide) hN)) "names")
  exact leave_val
theorem titles_ok (hN : 4 ≤ N) {dims : List D} {lab : Option (List D)} : FN N 368 [.val (vec k l (.dict (mdict dims lab)))] σ = some (.val .none, σ) := by
  obtain ⟨n, rfl⟩ : ∃ n, N = n + 1 := suc_of hN
  refine fn_run (fd := f_titles_of) rfl (by decide) rfl ?_
  apply stp (getattr_at (N := n) (Nat.le_of_succ_le_succ (Nat.le_trans (by decide) hN)) (look_names dims lab))
  cases lab with
  | none => exact leave_val
  | some ls =>
    apply stp (names_list (N := n) (Nat.le_of_succ_le_succ hN))
    exact leave_val
end
end
end Mine

namespace Mine
open PySem PySem.W
noncomputable section

/-! a matrix of cells and its layout -/
structure Mat where
  kind : K4
  tall : Nat
  c : Nat
  items : List D
  rn : Option (List D)
  cn : Option (List D)
  quote : Bool
  right : Bool
structure Mat.Ok (m : Mat) : Prop where
  t0 : 1 ≤ m.tall
  t1 : m.tall ≤ 4
  c0 : 1 ≤ m.c
  c1 : m.c ≤ 6
  len : m.items.length = m.tall * m.c
  dom : ∀ d ∈ m.items, d ∈ m.kind.dom
  rn : ∀ l, m.rn = some l → l.length = m.tall ∧ ∀ d ∈ l, d ∈ textDom
  cn : ∀ l, m.cn = some l → l.length = m.c ∧ ∀ d ∈ l, d ∈ textDom
noncomputable def chunk (t : Nat) (items : List D) (j : Nat) : List D := cut (some ((j * t : Nat) : Int)) (some (((j * t : Nat) : Int) + (t : Int))) items
noncomputable def colS (m : Mat) (j : Nat) : List Str := (chunk m.tall m.items j).map (txt m.kind m.quote (chunk m.tall m.items j))
noncomputable def shown (o : Option (List D)) : Option (List Str) := o.map fun l => l.map (enc false)
noncomputable def Mat.lay (m : Mat) : Lay := ⟨m.tall, (List.range m.c).map (colS m), shown m.rn, shown m.cn, (m.kind == K4.chr) && !m.right⟩

theorem mem_cut {α : Type} {lo hi : Option Int} {l : List α} {x : α} (h : x ∈ cut lo hi l) : x ∈ l := by
  unfold cut at h
  exact List.mem_of_mem_drop (List.mem_of_mem_take h)
theorem cut_len {α : Type} {l : List α} {a k : Nat} (h : a + k ≤ l.length) : (cut (some (a : Int)) (some ((a + k : Nat) : Int)) l).length = k := by
  show (List.take (min (a + k) l.length - min a l.length) (List.drop (min a l.length) l)).length = k
  rw [List.length_take, List.length_drop, Nat.min_eq_left h, Nat.min_eq_left (Nat.le_trans (Nat.le_add_right a k) h), Nat.add_sub_cancel_left]
  exact Nat.min_eq_left (Nat.le_sub_of_add_le (by rw [Nat.add_comm]; exact h))
theorem chunk_len {t c j : Nat} {items : List D} (h : items.length = t * c) (hj : j < c) : (chunk t items j).length = t :=
  cut_len (l := items) (a := j * t) (k := t) (by rw [h, Nat.mul_comm t c, ← Nat.succ_mul]; exact Nat.mul_le_mul_right t hj)
theorem txt_good {k : K4} {q : Bool} {xs : List D} (hx : ∀ d ∈ xs, d ∈ k.dom) {d : D} (hd : d ∈ xs) : good (txt k q xs d) = true := by
  have h := hx d hd
  cases k with
  | int => exact (t2_at (N := 3) (by omega) h q []).2
  | chr => exact (t1_at (N := 3) (by omega) h q []).2.2.2
  | log => exact (t3_at (N := 3) (by omega) h q []).2
  | dbl =>
    obtain ⟨r1, r2, r3⟩ := decs_range hx
    rcases List.mem_cons.mp h with rfl | h
    · exact (t5_fig (N := 3) (by omega) r1 r2 []).2
    · exact (t4_fig (N := 3) (by omega) h (r3 d hd (by obtain ⟨a, b, rfl, _⟩ := frac_pos h; rfl)) r2 []).2.2
theorem good_len {s : Str} (h : good s = true) : s.length ≤ 20 := by
  unfold good at h
  simp only [Bool.and_eq_true, decide_eq_true_eq] at h
  exact h.1
theorem enc_good {d : D} (h : d ∈ textDom) (q : Bool) : good (enc q d) = true := (t1_at (N := 3) (by omega) h q []).2.2.2

section
variable {m : Mat} (ok : m.Ok)
include ok
theorem Mat.Ok.chunk_dom {j : Nat} : ∀ d ∈ chunk m.tall m.items j, d ∈ m.kind.dom := fun d hd => ok.dom d (mem_cut hd)
theorem Mat.Ok.lay : m.lay.Ok where
  t0 := ok.t0
  t1 := ok.t1
  c0 := by simp [Mat.lay]; exact ok.c0
  c1 := by simp [Mat.lay]; exact ok.c1
  col := fun l hl => by
    obtain ⟨j, hj, rfl⟩ := List.mem_map.mp hl
    have hj := List.mem_range.mp hj
    refine ⟨by simp [colS, chunk_len ok.len hj, Mat.lay], fun s hs => ?_⟩
    obtain ⟨d, hd, rfl⟩ := List.mem_map.mp hs
    exact good_len (txt_good (fun d hd => ok.dom d (mem_cut hd)) hd)
  rn := fun l hl => by
    simp only [Mat.lay, shown, Option.map_eq_some_iff] at hl
    obtain ⟨r, hr, rfl⟩ := hl
    obtain ⟨a, b⟩ := ok.rn r hr
    refine ⟨by simp [a, Mat.lay], fun s hs => ?_⟩
    obtain ⟨d, hd, rfl⟩ := List.mem_map.mp hs
    exact good_len (enc_good (b d hd) false)
  cn := fun l hl => by
    simp only [Mat.lay, shown, Option.map_eq_some_iff] at hl
    obtain ⟨r, hr, rfl⟩ := hl
    obtain ⟨a, b⟩ := ok.cn r hr
    refine ⟨by simp [a, Mat.lay], fun s hs => ?_⟩
    obtain ⟨d, hd, rfl⟩ := List.mem_map.mp hs
    exact good_len (enc_good (b d hd) false)
end
theorem rangeL_step : ∀ (n a c : Nat), rangeL (a : Int) (c : Int) n = (List.range n).map fun j => .int (((a + j * c : Nat)) : Int)
  | 0, a, c => rfl
  | n + 1, a, c => by
    show .int (a : Int) :: rangeL ((a : Int) + (c : Int)) (c : Int) n = _
    rw [show (a : Int) + (c : Int) = ((a + c : Nat) : Int) by omega, rangeL_step n (a + c) c, List.range_succ_eq_map, List.map_cons, List.map_map]
    congr 1
    · simp
    · apply List.map_congr_left
      intro j _
      show D.int _ = D.int _
      congr 2
      rw [Nat.succ_mul]; omega
theorem rangeN_tc {t c : Nat} (h1 : 1 ≤ t) (h2 : t ≤ 4) (h3 : 1 ≤ c) (h4 : c ≤ 6) : rangeN 0 ((t * c : Nat) : Int) (t : Int) = c := by
  have : ∀ t : Fin 5, ∀ c : Fin 7, 1 ≤ t.1 → 1 ≤ c.1 → rangeN 0 ((t.1 * c.1 : Nat) : Int) (t.1 : Int) = c.1 := by decide +kernel
  exact this ⟨t, by omega⟩ ⟨c, by omega⟩ h1 h3
noncomputable def starts (t c : Nat) : List D := (List.range c).map fun j => .int ((j * t : Nat) : Int)
theorem tc_le {t c : Nat} (h2 : t ≤ 4) (h4 : c ≤ 6) : t * c ≤ 24 := Nat.mul_le_mul h2 h4
theorem items_tc {t c : Nat} (h1 : 1 ≤ t) (h2 : t ≤ 4) (h3 : 1 ≤ c) (h4 : c ≤ 6) : itemsOf (.val (.rng 0 ((t * c : Nat) : Int) (t : Int))) = some (starts t c) := by
  show (if _ then _ else _) = _
  rw [if_pos ⟨by decide, by decide, small (a := t * c) (k := 24) (tc_le h2 h4), Int.ofNat_lt.mpr h1, small (a := t) h2⟩, rangeN_tc h1 h2 h3 h4]
  have := rangeL_step c 0 t
  rw [show ((0 : Nat) : Int) = 0 from rfl] at this
  rw [this]
  simp [starts]

theorem lay_call {N : Nat} (hN : 1 ≤ N) (r : Int) (l : List D) (σ : Store) : FN N 1002 [.val (.int r), .val (.list l)] σ = some (.loc σ.length, σ ++ [.inst 2 [(5, .int r), (6, .list l), (7, .none), (8, .none), (9, .none), (10, .none), (11, .bool false)]]) := by
  obtain ⟨n, rfl⟩ : ∃ n, N = n + 1 := suc_of hN
  have h0 : FN (n + 1) 1002 [.val (.int r), .val (.list l)] [] = some (.loc 0, [.inst 2 [(5, .int r), (6, .list l), (7, .none), (8, .none), (9, .none), (10, .none), (11, .bool false)]]) := rfl
  have := callN_sh (pre := σ) (P := P0) (C := C0) (n + 1) 1002 [.val (.int r), .val (.list l)] []
  simp only [List.map_cons, List.map_nil, shA, List.append_nil] at this
  rw [show callN P0 C0 (n + 1) 1002 [.val (.int r), .val (.list l)] [] = _ from h0] at this
  simpa [shP, shA] using this
noncomputable abbrev layO (t : Nat) (cs : List D) (rn cn : D) (left : Bool) : D := .inst 2 [(5, .int t), (6, .list cs), (7, rn), (8, cn), (9, .none), (10, .none), (11, .bool left)]

noncomputable def mlI (k : K4) (t c : Nat) (items : List D) (q : Bool) (f : Nat → D) (ds : List D) (ρ : Slots) (σ : Store) : Prop :=
  X4 fun x j p cols => A6 (ρ = [some (.val (.str k.name)), some (.val (.list items)), some (.val (.int t)), some (.val (.bool q)), some (.val (.int 7)), some (.loc 0), x, none]) (ds = (List.range' j p).map (fun i => .int ((i * t : Nat) : Int))) (j + p = c) (σ = [.list cols]) (cols ++ (List.range' j p).map f = (List.range c).map f) (cols.length ≤ j)
theorem notin_kind (k : K4) : ([Str.ofString "logical", Str.ofString "integer", Str.ofString "double"].contains k.name) = !(k == K4.chr) := by
  cases k <;> decide +kernel
theorem range3_tc {t c : Nat} (t0 : 1 ≤ t) (t1 : t ≤ 4) (c1 : c ≤ 6) (σ : Store) : biAV σ .range3 [.val (.int 0), .val (.int ((t * c : Nat) : Int)), .val (.int (t : Int))] = some (.val (.rng 0 ((t * c : Nat) : Int) (t : Int))) := by
  show (if _ then some (D.rng 0 ((t * c : Nat) : Int) (t : Int)) else none).map AV.val = _
  rw [if_pos ⟨by decide, by decide, small (a := t * c) (k := 24) (tc_le t1 c1), Int.ofNat_lt.mpr t0, small (a := t) t1⟩]; rfl
theorem len_items {m : Mat} (ok : m.Ok) (σ : Store) : biAV σ .len [.val (.list m.items)] = some (.val (.int ((m.tall * m.c : Nat) : Int))) := by
  have := bi_lenl (l := m.items) (by rw [ok.len]; exact small (k := 24) (tc_le ok.t1 ok.c1)) σ
  rwa [ok.len] at this
theorem ml_step {n : Nat} (hn : 8 ≤ n) {m : Mat} (ok : m.Ok) (d : D) (r : List D) (ρ : Slots) (σ : Store) (h : mlI m.kind m.tall m.c m.items m.quote (fun j => .list ((colS m j).map .str)) (d :: r) ρ σ) :
    X2 fun ρ' σ' => evSs (FN n) b_matrix_layout_1 (ρ.set 6 (some (.val d))) σ = some (.next, ρ', σ') ∧ mlI m.kind m.tall m.c m.items m.quote (fun j => .list ((colS m j).map .str)) r ρ' σ' := by
  obtain ⟨x, j, p, cols, rfl, hd, hk, rfl, hP, hl⟩ := h
  cases p with
  | zero => cases hd
  | succ p =>
    rw [List.range'_succ, List.map_cons] at hd
    cases hd
    have hj : j < m.c := by omega
    have hil : m.items.length ≤ lim := by rw [ok.len]; exact small (k := 24) (tc_le ok.t1 ok.c1)
    have h1 := cell_ok (N := n) hn (k := m.kind) (xs := chunk m.tall m.items j) (fun d hd => ok.dom d (mem_cut hd)) (by rw [chunk_len ok.len hj]; exact small ok.t1) m.quote [.list cols]
    refine ⟨_, [.list (cols ++ [.list ((colS m j).map .str)])], evSs_run (p := (.next, _, _)) ?_, some (.val (.int ((j * m.tall : Nat) : Int))), j + 1, p, cols ++ [.list ((colS m j).map .str)], rfl, rfl, (Nat.add_right_comm j 1 p).trans hk, rfl, ?_, by rw [List.length_append]; exact Nat.add_le_add_right hl 1⟩
    · apply And.intro rfl
      apply stp (sl_l (r := chunk m.tall m.items j) hil rfl)
      apply stp h1
      apply stp (cellA_of (σ := [.list cols]) (i := 0) rfl (small (Nat.le_trans hl (Nat.le_trans (Nat.le_of_lt hj) ok.c1))))
      have hcs : (colS m j).map D.str = (chunk m.tall m.items j).map fun d => .str (txt m.kind m.quote (chunk m.tall m.items j) d) := List.map_map
      rw [hcs]
      rfl
    · rw [← hP, List.range'_succ, List.append_assoc]; rfl
theorem matlay_ok {N : Nat} (hN : 9 ≤ N) {m : Mat} (ok : m.Ok) :
    FN N 375 [.val (.str m.kind.name), .val (.list m.items), .val (.int m.tall), .val (.bool m.quote), .val (.int 7)] [] = some (.loc 0, [layO m.tall (colsD ((List.range m.c).map (colS m))) .none .none (m.kind == K4.chr)]) := by
  obtain ⟨n, rfl⟩ : ∃ n, N = n + 1 := suc_of hN
  have hn : 8 ≤ n := Nat.le_of_succ_le_succ hN
  obtain ⟨ρ', σ', e, x, j, p, cols, rfl, u1, u2, rfl, u3, _⟩ := for_inv (b := evSs (FN n) b_matrix_layout_1) (x := 6) (mlI m.kind m.tall m.c m.items m.quote fun j => .list ((colS m j).map .str)) (starts m.tall m.c)
    [some (.val (.str m.kind.name)), some (.val (.list m.items)), some (.val (.int m.tall)), some (.val (.bool m.quote)), some (.val (.int 7)), some (.loc 0), none, none] [.list []]
    ⟨none, 0, m.c, [], rfl, by rw [starts, List.range_eq_range'], Nat.zero_add _, rfl, by rw [List.range_eq_range']; rfl, Nat.le_refl 0⟩ (ml_step hn ok)
  cases p with
  | succ p => rw [List.range'_succ] at u1; cases u1
  | zero =>
  have hcd : colsD ((List.range m.c).map (colS m)) = cols := by
    refine Eq.trans ?_ ((List.append_nil cols).symm.trans u3).symm
    exact List.map_map
  rw [hcd, ← Bool.not_not (m.kind == K4.chr), ← notin_kind]
  refine fn_run (fd := f_matrix_layout) rfl (by decide) rfl ?_
  apply stp (len_items ok _)
  apply stp (range3_tc ok.t0 ok.t1 ok.c1 _)
  apply stp (items_tc ok.t0 ok.t1 ok.c0 ok.c1)
  apply And.intro (show (starts m.tall m.c).length ≤ lim by rw [starts, List.length_map, List.length_range]; exact small ok.c1)
  apply stp e
  apply stp (lay_call (N := n) (Nat.le_trans (by decide) hn) (m.tall : Int) cols [D.none])
  generalize m.kind.name = kn
  rfl
theorem shown_none {N : Nat} (hN : 1 ≤ N) (σ : Store) : FN N 305 [.val .none] σ = some (.val .none, σ) := by
  obtain ⟨n, rfl⟩ : ∃ n, N = n + 1 := suc_of hN
  refine fn_run (fd := f_shown_names) rfl (by decide) rfl ?_
  exact leave_val
theorem shown_some {N : Nat} (hN : 4 ≤ N) {l : List D} (h : ∀ d ∈ l, d ∈ textDom) (hl : l.length ≤ lim) (σ : Store) : FN N 305 [.val (.list l)] σ = some (.val (.list ((l.map (enc false)).map .str)), σ) := by
  obtain ⟨n, rfl⟩ : ∃ n, N = n + 1 := suc_of hN
  refine fn_run (fd := f_shown_names) rfl (by decide) rfl ?_
  apply And.intro hl
  apply stp (lc_map (fun d => .str (enc false d)) l fun d hd => ?_)
  · exact leave_eq (congrArg D.list List.map_map.symm)
  · apply ev_run
    apply stp (t1_at (N := n) (Nat.le_of_succ_le_succ hN) (h d hd) false σ).2.2.1
    rfl
theorem shown_ok {N : Nat} (hN : 4 ≤ N) {o : Option (List D)} (h : ∀ l, o = some l → l.length ≤ lim ∧ ∀ d ∈ l, d ∈ textDom) (σ : Store) : FN N 305 [.val (nmD o)] σ = some (.val (optD (shown o)), σ) := by
  cases o with
  | none => exact shown_none (Nat.le_trans (by decide) hN) σ
  | some l => exact shown_some hN (h l rfl).2 (h l rfl).1 σ
theorem namelay_none {N : Nat} (hN : 1 ≤ N) (t : Nat) (cs : List D) (left : Bool) : FN N 382 [.loc 0, .val .none, .val .none] [layO t cs .none .none left] = some (.loc 0, [layO t cs .none .none left]) := by
  obtain ⟨n, rfl⟩ : ∃ n, N = n + 1 := suc_of hN
  refine fn_run (fd := f_name_layout) rfl (by decide) rfl ?_
  rfl
theorem cellN_of {σ : Store} {i n c : Nat} {l : List (Nat × D)} {d : D} (h : σ[i]? = some (.inst c l)) (hd : isO d = false) (hc : c < 3) (hn : n < 12) (hl : l.length < 900) : (σ[i]?).bind (cellN n d) = some (.inst c (setN n d l)) := by
  rw [h]
  exact if_neg fun q => q.elim (fun q => Bool.false_ne_true (hd ▸ q)) fun q => q.elim (Nat.not_le.mpr hc) fun q => q.elim (Nat.not_le.mpr hn) (Nat.not_le.mpr hl)
theorem notO_opt (o : Option (List Str)) : isO (optD o) = false := by cases o <;> rfl
theorem namelay_some {N : Nat} (hN : 5 ≤ N) (t : Nat) (cs : List D) (left : Bool) {rn cn : Option (List D)} (h1 : ∀ l, rn = some l → l.length ≤ lim ∧ ∀ d ∈ l, d ∈ textDom) (h2 : ∀ l, cn = some l → l.length ≤ lim ∧ ∀ d ∈ l, d ∈ textDom) (more : List D) :
    FN N 382 [.loc 0, .val (.list (nmD rn :: nmD cn :: more)), .val .none] [layO t cs .none .none left] = some (.loc 0, [layO t cs (optD (shown rn)) (optD (shown cn)) left]) := by
  obtain ⟨n, rfl⟩ : ∃ n, N = n + 1 := suc_of hN
  refine fn_run (fd := f_name_layout) rfl (by decide) rfl ?_
  apply stp (shown_ok (N := n) (Nat.le_of_succ_le_succ hN) h1 _)
  apply stp (cellN_of (σ := [layO t cs .none .none left]) (i := 0) rfl (notO_opt _) (by decide) (by decide) (show 7 < 900 by decide))
  apply stp (shown_ok (N := n) (Nat.le_of_succ_le_succ hN) h2 _)
  apply stp (cellN_of (σ := [layO t cs (optD (shown rn)) .none left]) (i := 0) rfl (notO_opt _) (by decide) (by decide) (show 7 < 900 by decide))
  rfl
end
end Mine

namespace Mine
open PySem PySem.W
noncomputable section

/-! both printers of a matrix -/
noncomputable def Mat.names (m : Mat) (more : List D) : D := if m.rn = none ∧ m.cn = none ∧ more = [] then .none else .list (nmD m.rn :: nmD m.cn :: more)
theorem lay_eq (m : Mat) : m.lay.obj = layO m.tall (colsD ((List.range m.c).map (colS m))) (optD (shown m.rn)) (optD (shown m.cn)) ((m.kind == K4.chr) && !m.right) := rfl
noncomputable def labNames (m : Mat) : Option (List D) → D
  | none => .none
  | some _ => .list [nmD m.rn, nmD m.cn]
noncomputable def Mat.out (m : Mat) (wide : Int) : List Str := m.lay.blocks wide m.c 0

section
variable {m : Mat} (ok : m.Ok) {N : Nat} {wide : Int}
include ok
theorem named_ok (hN : 5 ≤ N) {nm : D} (hnm : (nm = .none ∧ m.rn = none ∧ m.cn = none) ∨ ∃ more, nm = .list (nmD m.rn :: nmD m.cn :: more)) :
    FN N 382 [.loc 0, .val nm, .val .none] [layO m.tall (colsD ((List.range m.c).map (colS m))) .none .none ((m.kind == K4.chr) && !m.right)] = some (.loc 0, [m.lay.obj]) := by
  rw [lay_eq]
  rcases hnm with ⟨rfl, h1, h2⟩ | ⟨more, rfl⟩
  · rw [h1, h2]
    exact namelay_none (Nat.le_trans (by decide) hN) _ _ _
  · exact namelay_some hN _ _ _ (fun l h => ⟨small (Nat.le_trans (Nat.le_of_eq (ok.rn l h).1) ok.t1), (ok.rn l h).2⟩) (fun l h => ⟨small (Nat.le_trans (Nat.le_of_eq (ok.cn l h).1) ok.c1), (ok.cn l h).2⟩) more
theorem rows_ok (hN : 5 ≤ N) : FN N 354 [.loc 0, .val (.int wide)] [m.lay.obj] = some (.val (.list ((m.out wide).map .str)), [m.lay.obj]) := by
  have h := layout_ok ok.lay (N := N) (wide := wide) hN
  have e : m.lay.cs.length = m.c := by simp [Mat.lay]
  rw [e] at h
  exact h
omit ok in
theorem nat_ne0 {k : Nat} (h : 1 ≤ k) : ((k : Int) == 0) = false := beq_eq_false_iff_ne.mpr fun q => absurd h (by rw [Int.natCast_eq_zero.mp q]; decide)
theorem names_at (hN : 2 ≤ N) {lab : Option (List D)} (hlab : (lab = none ∧ m.rn = none ∧ m.cn = none) ∨ lab = some ([m.rn, m.cn].map labD)) (σ : Store) :
    FN N 45 [.val (vec m.kind.name m.items (.dict (mdict [.int m.tall, .int m.c] lab)))] σ = some (.val (labNames m lab), σ) := by
  rcases hlab with ⟨rfl, _, _⟩ | rfl
  · exact dimnames_none hN
  · refine dimnames_ok hN (show 2 ≤ lim by decide) fun o ho l hl => ?_
    rcases List.mem_cons.mp ho with rfl | ho
    · exact small (Nat.le_trans (Nat.le_of_eq (ok.rn l hl).1) ok.t1)
    · cases List.mem_singleton.mp ho
      exact small (Nat.le_trans (Nat.le_of_eq (ok.cn l hl).1) ok.c1)
omit ok in
theorem setSlots2 {ρ : Slots} {x y : Nat} {d e : D} : setSlots [x, y] [d, e] ρ = some ((ρ.set x (some (.val d))).set y (some (.val e))) := rfl
theorem print_ok (hN : 10 ≤ N) {lab : Option (List D)} (hlab : (lab = none ∧ m.rn = none ∧ m.cn = none) ∨ lab = some ([m.rn, m.cn].map labD)) (σ : Store) :
    FN N 388 [.val (vec m.kind.name m.items (.dict (mdict [.int m.tall, .int m.c] lab))), .val (.bool m.quote), .val (.bool m.right), .val (.int wide)] σ = some (.val (.list ((m.out wide).map .str)), σ) := by
  suffices h : FN N 388 [.val (vec m.kind.name m.items (.dict (mdict [.int m.tall, .int m.c] lab))), .val (.bool m.quote), .val (.bool m.right), .val (.int wide)] [] = some (.val (.list ((m.out wide).map .str)), []) from lift (ds := [_, _, _, _]) h σ
  obtain ⟨n, rfl⟩ : ∃ n, N = n + 1 := suc_of hN
  have hn : 9 ≤ n := Nat.le_of_succ_le_succ hN
  have h5 := named_ok ok (N := n) (Nat.le_trans (by decide) hn) (nm := labNames m lab) (by
    rcases hlab with ⟨rfl, a, b⟩ | rfl
    · exact .inl ⟨rfl, a, b⟩
    · exact .inr ⟨[], rfl⟩)
  refine fn_run (fd := f_print_matrix) rfl (by decide) rfl ?_
  apply stp (dim_ok (N := n) (k := m.kind.name) (l := m.items) (σ := []) (Nat.le_trans (by decide) hn) (dims := [.int m.tall, .int m.c]) (show 2 ≤ lim by decide) lab)
  apply condF (nat_ne0 ok.t0)
  apply condF (nat_ne0 ok.t0)
  apply condF (nat_ne0 ok.c0)
  apply stp (matlay_ok (N := n) hn ok)
  cases hr : m.right with
  | false =>
    rw [hr, Bool.not_false, Bool.and_true] at h5
    apply stp (names_at ok (N := n) (Nat.le_trans (by decide) hn) hlab _)
    apply stp (titles_ok (N := n) (Nat.le_trans (by decide) hn))
    apply stp h5
    apply stp (rows_ok ok (N := n) (wide := wide) (Nat.le_trans (by decide) hn))
    exact leave_more (σ := []) (x := [_])
  | true =>
    rw [hr, Bool.not_true, Bool.and_false] at h5
    apply stp (names_at ok (N := n) (Nat.le_trans (by decide) hn) hlab _)
    apply stp (titles_ok (N := n) (Nat.le_trans (by decide) hn))
    apply stp h5
    apply stp (rows_ok ok (N := n) (wide := wide) (Nat.le_trans (by decide) hn))
    exact leave_more (σ := []) (x := [_])
end
end
end Mine

namespace Mine
open PySem PySem.W
noncomputable section

theorem itemsOf_list (l : List D) : itemsOf (.val (.list l)) = some l := rfl
noncomputable def mark0 (t i : Nat) : Str := sp (((num ((t : Int) + 1)).length : Int) + 3 - ((lb0 i).length : Int)) ++ lb0 i
noncomputable def marks (m : Mat) : List Str := match m.rn with
  | some l => l.map (enc false)
  | none => (List.range m.tall).map (mark0 m.tall)
theorem mark0_wid {t : Nat} (h1 : 1 ≤ t) (h2 : t ≤ 4) : wid ((List.range t).map (mark0 t)) = ((num ((t : Int) + 1)).length : Int) + 3 := by
  have : ∀ t : Fin 5, 1 ≤ t.1 → wid ((List.range t.1).map (mark0 t.1)) = ((num ((t.1 : Int) + 1)).length : Int) + 3 := by decide +kernel
  exact this ⟨t, by omega⟩ h1
theorem mark0_at {t i : Nat} (h2 : t ≤ 4) (hi : i < t) : (mark0 t i).length ≤ 20 ∧ mark0 t i ++ sp (((num ((t : Int) + 1)).length : Int) + 3 - ((mark0 t i).length : Int)) = Txt.rjust (lb0 i) (((num ((t : Int) + 1)).length : Int) + 3) := by
  have : ∀ t : Fin 5, ∀ i : Fin 5, i.1 < t.1 → (mark0 t.1 i.1).length ≤ 20 ∧ mark0 t.1 i.1 ++ sp (((num ((t.1 : Int) + 1)).length : Int) + 3 - ((mark0 t.1 i.1).length : Int)) = Txt.rjust (lb0 i.1) (((num ((t.1 : Int) + 1)).length : Int) + 3) := by decide +kernel
  exact this ⟨t, by omega⟩ ⟨i, by omega⟩ hi

section
variable {m : Mat} (ok : m.Ok) {N : Nat} {wide : Int}
include ok
theorem marks_ok : Marks m.lay (marks m) := by
  have t0 := ok.t0
  have t1 := ok.t1
  cases hrn : m.rn with
  | some l =>
    obtain ⟨h1, h2⟩ := ok.rn l hrn
    have e1 : marks m = l.map (enc false) := by simp [marks, hrn]
    have e2 : m.lay.room = wid (l.map (enc false)) := by simp [Lay.room, Mat.lay, hrn, shown]
    rw [e1]
    refine ⟨by simp [h1, Mat.lay], e2.symm, fun i hi => ?_⟩
    have hi' : i < l.length := by rw [h1]; exact hi
    refine ⟨enc false l[i], by rw [List.getElem?_map, List.getElem?_eq_getElem hi']; rfl, good_len (enc_good (h2 _ (List.getElem_mem hi')) false), ?_⟩
    have e3 : m.lay.lab i = Txt.ljust (enc false l[i]) m.lay.room := by
      simp [Lay.lab, Mat.lay, hrn, shown, hi']
    rw [e3, ljust_eq ok.lay.room_range.1]
  | none =>
    have e1 : marks m = (List.range m.tall).map (mark0 m.tall) := by simp [marks, hrn]
    have e2 : m.lay.room = ((num ((m.tall : Int) + 1)).length : Int) + 3 := by simp [Lay.room, Mat.lay, hrn, shown]
    rw [e1]
    refine ⟨by simp [Mat.lay], by rw [e2]; exact mark0_wid t0 t1, fun i hi => ?_⟩
    have hi' : i < m.tall := hi
    obtain ⟨k1, k2⟩ := mark0_at t1 hi'
    refine ⟨mark0 m.tall i, by rw [List.getElem?_map, List.getElem?_range hi']; rfl, k1, ?_⟩
    have e3 : m.lay.lab i = Txt.rjust (lb0 i) m.lay.room := by simp [Lay.lab, Mat.lay, hrn, shown]
    rw [e3, e2]; exact k2
theorem heads_eq : headsD m.lay = (match m.cn with
    | some l => (l.map (enc false)).map .str
    | none => (List.range m.c).map fun k => .str (hd0 k)) := by
  have hc : m.lay.cs.length = m.c := by simp [Mat.lay]
  unfold headsD
  rw [hc]
  cases hcn : m.cn with
  | none =>
    apply List.map_congr_left
    intro k _
    simp [Lay.head, Mat.lay, hcn, shown]
  | some l =>
    obtain ⟨h1, h2⟩ := ok.cn l hcn
    apply List.ext_getElem
    · simp [h1]
    · intro i a b
      simp at a b
      simp [Lay.head, Mat.lay, hcn, shown, b]
/-- the slots of law_laid -/
noncomputable abbrev lrho (m : Mat) (wide : Int) (x7 x8 x9 : Option AV) : Slots := [some (.val (.str m.kind.name)), some (.val (.list m.items)), some (.val (.int m.tall)), some (.val (.list [nmD m.rn, nmD m.cn])), some (.val (.int wide)), some (.val (.bool m.quote)), some (.val (.bool m.right)), x7, x8, x9, none, none]
theorem ll1 (hn : 8 ≤ N) : evS (FN N) (.asg 7 (.lc e_law_laid_1 10 (.bi .range3 [(.c (.int 0)), (.bi .len [(.v 1)]), (.v 2)]))) (lrho m wide none none none) [] = some (.next, lrho m wide (some (.val (.list (colsD m.lay.cs)))) none none, []) := by
  have hil : m.items.length ≤ lim := by rw [ok.len]; exact small (k := 24) (tc_le ok.t1 ok.c1)
  apply evS_run
  apply stp (len_items ok _)
  apply stp (range3_tc ok.t0 ok.t1 ok.c1 _)
  apply stp (items_tc ok.t0 ok.t1 ok.c0 ok.c1)
  apply And.intro (show (starts m.tall m.c).length ≤ lim by rw [starts, List.length_map, List.length_range]; exact small ok.c1)
  apply stp (lc_on (fun j : Nat => D.int ((j * m.tall : Nat) : Int)) (fun j => D.list ((chunk m.tall m.items j).map fun d => .str (txt m.kind m.quote (chunk m.tall m.items j) d))) (List.range m.c) fun j hj => ?_)
  · have e : colsD m.lay.cs = (List.range m.c).map (fun j => D.list ((chunk m.tall m.items j).map fun d => .str (txt m.kind m.quote (chunk m.tall m.items j) d))) :=
      List.map_map.trans (List.map_congr_left fun j _ => congrArg D.list List.map_map)
    rw [e]
    rfl
  · apply ev_run
    apply stp (sl_l (r := chunk m.tall m.items j) hil rfl)
    apply stp (lawtexts_ok (N := N) hn (k := m.kind) (xs := chunk m.tall m.items j) (fun d hd => ok.dom d (mem_cut hd)) (by rw [chunk_len ok.len (List.mem_range.mp hj)]; exact Nat.le_trans ok.t1 (by decide)) m.quote [])
    rfl
theorem ll2 (x7 : Option AV) : evS (FN N) (.asg 8 (.lc e_law_laid_2 10 (.bi .range1 [(.v 2)]))) (lrho m wide x7 none none) [] = some (.next, lrho m wide x7 (some (.val (.list ((List.range m.tall).map fun i => .str (lb0 i))))) none, []) := by
  have t4 := Nat.le_trans ok.t1 (show 4 ≤ 1000 by decide)
  apply evS_run
  apply stp (biAV_range1 (b := (m.tall : Int)) (small (a := m.tall) t4))
  apply stp (items_rng0 t4)
  apply And.intro (rng_len (b := 0) (m := m.tall) t4)
  apply stp (lc_on (fun j : Nat => D.int j) (fun j => .str (lb0 j)) (List.range' 0 m.tall) fun j hj => ?_)
  · rw [List.range_eq_range']; rfl
  · have h9 : j < 9 := by rw [List.mem_range'_1] at hj; have := ok.t1; omega
    have l1 := num_len h9
    apply ev_run
    apply stp (bi_str (sm_small h9) _)
    apply stp (bin_adds (small (k := 2) (by rw [l1, len_one.1]; decide)))
    apply stp (bin_adds (small (k := 4) (by rw [len_app, l1, len_one.1, len_one.2.2.2.1]; decide)))
    rfl
theorem ll3 (hn : 3 ≤ N) (x7 : Option AV) : evS (FN N) (.iff (.cmp .isnot (.idx (.v 3) (.c (.int 0))) (.c .none)) [.asg 8 (.lc e_law_laid_3 11 (.idx (.v 3) (.c (.int 0))))] [.asg 8 (.lc e_law_laid_4 11 (.v 8))]) (lrho m wide x7 (some (.val (.list ((List.range m.tall).map fun i => .str (lb0 i))))) none) [] =
    some (.next, lrho m wide x7 (some (.val (.list ((marks m).map .str)))) none, []) := by
  apply evS_run
  cases hrn : m.rn with
  | some l =>
    have h := ok.rn l hrn
    have e : (marks m).map D.str = l.map fun d => .str (enc false d) := by unfold marks; rw [hrn]; exact List.map_map
    have hi : (nmD m.rn) = .list l := by rw [hrn]; rfl
    rw [e]
    apply condT (show (!noneAV (.val (nmD m.rn))) = true by rw [hi]; rfl)
    apply stp (show itemsOf (.val (nmD m.rn)) = some l by rw [hi]; rfl)
    apply And.intro (small (Nat.le_trans (Nat.le_of_eq h.1) ok.t1))
    apply stp (lc_map (fun d => .str (enc false d)) l fun d hd => ?_)
    · rfl
    · apply ev_run
      apply stp (t1_at (N := N) hn (h.2 d hd) false []).1
      rfl
  | none =>
    have e : (marks m).map D.str = (List.range m.tall).map fun i => .str (mark0 m.tall i) := by unfold marks; rw [hrn]; exact List.map_map
    rw [e]
    apply condF (show (!noneAV (.val (nmD m.rn))) = false by rw [hrn]; rfl)
    apply And.intro (show ((List.range m.tall).map fun i => D.str (lb0 i)).length ≤ lim by rw [List.length_map, List.length_range]; exact small ok.t1)
    apply stp (lc_on (fun i : Nat => D.str (lb0 i)) (fun i => .str (mark0 m.tall i)) (List.range m.tall) fun i hi => ?_)
    · rfl
    · have h9 : m.tall < 9 := Nat.lt_of_le_of_lt ok.t1 (by decide)
      have hi9 : i < 9 := Nat.lt_trans (List.mem_range.mp hi) h9
      have l1 := num_len h9
      have l2 := lb0_len hi9
      have hs := bi_str (sm_small h9) []
      show _ = some (AV.val (D.str (sp (((num ((m.tall : Int) + 1)).length : Int) + 3 - ((lb0 i).length : Int)) ++ lb0 i)), ([] : Store))
      generalize num ((m.tall : Int) + 1) = t at *
      generalize lb0 i = b at *
      apply ev_run
      apply stp hs
      apply stp (bi_lens (s := t) (small (k := 1) (Nat.le_of_eq l1)) _)
      apply stp (bi_lens (s := b) (small (k := 4) (Nat.le_of_eq l2)) _)
      apply stp (bin_muls ⟨Nat.le_trans (Nat.le_of_eq len_one.2.2.2.2) (by decide), by rw [l1, l2]; decide⟩)
      apply stp (bin_adds (small (k := 4) (by rw [spn, sp_len, l1, l2]; decide)))
      rfl
theorem ll4 (x7 x8 : Option AV) (h7 : x7 = some (.val (.list (colsD m.lay.cs)))) : evS (FN N) (.asg 9 (.lc e_law_laid_5 10 (.bi .range1 [(.bi .len [(.v 7)])]))) (lrho m wide x7 x8 none) [] = some (.next, lrho m wide x7 x8 (some (.val (.list ((List.range m.c).map fun i => .str (hd0 i))))), []) := by
  have c4 := Nat.le_trans ok.c1 (show 6 ≤ 1000 by decide)
  have e : m.lay.cs.length = m.c := (List.length_map _).trans List.length_range
  have hL := cols_len (cs := m.lay.cs) (by rw [e]; exact c4) []
  rw [e] at hL
  subst h7
  apply evS_run
  apply stp hL
  apply stp (biAV_range1 (b := (m.c : Int)) (small (a := m.c) c4))
  apply stp (items_rng0 c4)
  apply And.intro (rng_len (b := 0) (m := m.c) c4)
  apply stp (lc_on (fun j : Nat => D.int j) (fun j => .str (hd0 j)) (List.range' 0 m.c) fun j hj => ?_)
  · rw [List.range_eq_range']; rfl
  · have h9 : j < 9 := by rw [List.mem_range'_1] at hj; have := ok.c1; omega
    have l1 := num_len h9
    apply ev_run
    apply stp (bi_str (sm_small h9) _)
    apply stp (bin_adds (small (k := 3) (by rw [l1, len_one.2.2.1]; decide)))
    apply stp (bin_adds (small (k := 4) (by rw [len_app, l1, len_one.2.2.1, len_one.2.1]; decide)))
    rfl
theorem ll5 (hn : 3 ≤ N) (x7 x8 : Option AV) : evS (FN N) (.iff (.cmp .isnot (.idx (.v 3) (.c (.int 1))) (.c .none)) [.asg 9 (.lc e_law_laid_6 11 (.idx (.v 3) (.c (.int 1))))] []) (lrho m wide x7 x8 (some (.val (.list ((List.range m.c).map fun i => .str (hd0 i)))))) [] =
    some (.next, lrho m wide x7 x8 (some (.val (.list (headsD m.lay)))), []) := by
  apply evS_run
  cases hcn : m.cn with
  | some l =>
    have h := ok.cn l hcn
    have hh : headsD m.lay = l.map fun d => D.str (enc false d) := by rw [heads_eq ok, hcn]; exact List.map_map
    have hi : (nmD m.cn) = .list l := by rw [hcn]; rfl
    rw [hh]
    apply condT (show (!noneAV (.val (nmD m.cn))) = true by rw [hi]; rfl)
    apply stp (show itemsOf (.val (nmD m.cn)) = some l by rw [hi]; rfl)
    apply And.intro (small (Nat.le_trans (Nat.le_of_eq h.1) ok.c1))
    apply stp (lc_map (fun d => .str (enc false d)) l fun d hd => ?_)
    · rfl
    · apply ev_run
      apply stp (t1_at (N := N) hn (h.2 d hd) false []).1
      rfl
  | none =>
    have hh : headsD m.lay = (List.range m.c).map fun k => D.str (hd0 k) := by rw [heads_eq ok, hcn]
    rw [hh]
    apply condF (show (!noneAV (.val (nmD m.cn))) = false by rw [hcn]; rfl)
    rfl
theorem ll6 (hn : 2 ≤ N) : evS (FN N) (.ret (.call 458 [(.v 9), (.v 8), (.v 7), (.v 4), (.and (.cmp .eq (.v 0) (.c (.str "character"))) (.not (.v 6)))])) (lrho m wide (some (.val (.list (colsD m.lay.cs)))) (some (.val (.list ((marks m).map .str)))) (some (.val (.list (headsD m.lay))))) [] =
    some (.ret (.val (.list ((m.out wide).map .str))), lrho m wide (some (.val (.list (colsD m.lay.cs)))) (some (.val (.list ((marks m).map .str)))) (some (.val (.list (headsD m.lay)))), []) := by
  have hk : (m.kind.name == Str.ofString "character") = (m.kind == K4.chr) := (kind_ne m.kind).2.1
  have hb := lawblock_ok ok.lay (marks_ok ok) (N := N) (wide := wide) hn []
  have e1 : m.lay.cs.length = m.c := (List.length_map _).trans List.length_range
  rw [e1] at hb
  have e4 : m.lay.blocks wide m.c 0 = m.out wide := rfl
  rw [e4] at hb
  have e3 : m.lay.left = ((m.kind == K4.chr) && !m.right) := rfl
  rw [e3, ← hk] at hb
  apply evS_run
  cases hc : (m.kind.name == Str.ofString "character") with
  | true =>
    rw [hc] at hb
    apply condT hc
    apply stp hb
    rfl
  | false =>
    rw [hc] at hb
    apply condF hc
    apply stp hb
    rfl
theorem laid_ok (hN : 10 ≤ N) (σ : Store) :
    FN N 463 [.val (.str m.kind.name), .val (.list m.items), .val (.int m.tall), .val (.list [nmD m.rn, nmD m.cn]), .val (.int wide), .val (.bool m.quote), .val (.bool m.right)] σ = some (.val (.list ((m.out wide).map .str)), σ) := by
  suffices h : FN N 463 [.val (.str m.kind.name), .val (.list m.items), .val (.int m.tall), .val (.list [nmD m.rn, nmD m.cn]), .val (.int wide), .val (.bool m.quote), .val (.bool m.right)] [] = some (.val (.list ((m.out wide).map .str)), []) from lift (ds := [_, _, _, _, _, _, _]) h σ
  obtain ⟨n, rfl⟩ : ∃ n, N = n + 1 := suc_of hN
  have hn : 9 ≤ n := Nat.le_of_succ_le_succ hN
  rw [fn_eq (fd := f_law_laid) rfl (by decide) rfl]
  have h := (evSs_next (ll1 ok (wide := wide) (Nat.le_trans (by decide) hn))).trans ((evSs_next (ll2 ok _)).trans ((evSs_next (ll3 ok (Nat.le_trans (by decide) hn) _)).trans ((evSs_next (ll4 ok _ _ rfl)).trans ((evSs_next (ll5 ok (Nat.le_trans (by decide) hn) _ _)).trans (evSs_ret (r := []) (ll6 ok (Nat.le_trans (by decide) hn)))))))
  exact (congrArg (fun o => outF o 0) h).trans (leave_val (σ := []))
end
end
end Mine

namespace Mine
open PySem PySem.W
noncomputable section

theorem liftA {n f : Nat} {ds : List D} {c : D} (h : callN P0 C0 n f (ds.map .val) [] = some (.loc 0, [c])) (σ : Store) : callN P0 C0 n f (ds.map .val) σ = some (.loc σ.length, σ ++ [c]) := by
  have := callN_sh (pre := σ) (P := P0) (C := C0) n f (ds.map .val) []
  rw [dflt_sh, List.append_nil, h] at this
  simpa [shP, shA] using this
theorem liftB {n f : Nat} {ds : List D} {x y : D} (h : callN P0 C0 n f (.loc 0 :: ds.map .val) [x] = some (.loc 0, [y])) (σ : Store) : callN P0 C0 n f (.loc σ.length :: ds.map .val) (σ ++ [x]) = some (.loc σ.length, σ ++ [y]) := by
  have := callN_sh (pre := σ) (P := P0) (C := C0) n f (.loc 0 :: ds.map .val) [x]
  rw [List.map_cons, dflt_sh, h] at this
  simpa [shP, shA] using this
theorem liftC {n f : Nat} {ds : List D} {x y : D} (h : callN P0 C0 n f (.loc 0 :: ds.map .val) [x] = some (.val y, [x])) (σ : Store) : callN P0 C0 n f (.loc σ.length :: ds.map .val) (σ ++ [x]) = some (.val y, σ ++ [x]) := by
  have := callN_sh (pre := σ) (P := P0) (C := C0) n f (.loc 0 :: ds.map .val) [x]
  rw [List.map_cons, dflt_sh, h] at this
  simpa [shP, shA] using this

noncomputable def thirdD : List D := [.str "u", .str "vw"]
noncomputable def sliceS (third : Bool) (n : Nat) : Str := Str.ofString ", , " ++ (if third then (if n = 0 then Str.ofString "u" else Str.ofString "vw") else num ((n : Int) + 1))
theorem slice0 (M : Nat) (t c : Int) : FN (M + 3) 395 [.val (.list [.int t, .int c, .int 2]), .val .none, .val .none, .val (.int 0)] [] = some (.val (.str (sliceS false 0)), []) := by kernel_rfl
theorem slice1 (M : Nat) (t c : Int) : FN (M + 3) 395 [.val (.list [.int t, .int c, .int 2]), .val .none, .val .none, .val (.int 1)] [] = some (.val (.str (sliceS false 1)), []) := by kernel_rfl
theorem slice2 (M : Nat) (t c : Int) (a b : D) : FN (M + 3) 395 [.val (.list [.int t, .int c, .int 2]), .val (.list [a, b, .list thirdD]), .val .none, .val (.int 0)] [] = some (.val (.str (sliceS true 0)), []) := by kernel_rfl
theorem slice3 (M : Nat) (t c : Int) (a b : D) : FN (M + 3) 395 [.val (.list [.int t, .int c, .int 2]), .val (.list [a, b, .list thirdD]), .val .none, .val (.int 1)] [] = some (.val (.str (sliceS true 1)), []) := by kernel_rfl
noncomputable def thirdN (m : Mat) (third : Bool) : D := if third then .list [nmD m.rn, nmD m.cn, .list thirdD] else .none
theorem slice_ok {N : Nat} (hN : 3 ≤ N) (m : Mat) (third : Bool) {q : Nat} (hq : q < 2) (t c : Int) (σ : Store) : FN N 395 [.val (.list [.int t, .int c, .int 2]), .val (thirdN m third), .val .none, .val (.int q)] σ = some (.val (.str (sliceS third q)), σ) := by
  obtain ⟨M, rfl⟩ := fuel hN
  have h : FN (M + 3) 395 [.val (.list [.int t, .int c, .int 2]), .val (thirdN m third), .val .none, .val (.int q)] [] = some (.val (.str (sliceS third q)), []) := by
    have hq' : q = 0 ∨ q = 1 := by omega
    cases third <;> rcases hq' with rfl | rfl
    · exact slice0 M t c
    · exact slice1 M t c
    · exact slice2 M t c _ _
    · exact slice3 M t c _ _
  exact lift (ds := [_, _, _, _]) h σ
end
end Mine

namespace Mine
open PySem PySem.W
noncomputable section

noncomputable def sliceL (third : Bool) (q : Nat) (out : List Str) : List Str := sliceS third q :: Str.ofString "" :: (out ++ [Str.ofString ""])
theorem blocks_len (y : Lay) (hy : y.tall ≤ 4) (wide : Int) : ∀ k b, (y.blocks wide k b).length ≤ 5 * k
  | 0, b => by simp [Lay.blocks]
  | k + 1, b => by
    unfold Lay.blocks
    split
    · have := blocks_len y hy wide k (y.grow wide (y.cs.length - (b + 1)) (b + 1) (y.room + 1 + y.W b))
      simp only [List.length_append, Lay.block, List.length_cons, List.length_map, List.length_range]
      omega
    · simp
section
variable {m : Mat} (ok : m.Ok) {n : Nat} {wide : Int}
include ok
theorem out_len : (m.out wide).length ≤ 30 := by
  have := blocks_len m.lay ok.t1 wide m.c 0
  have := ok.c1
  unfold Mat.out; omega
theorem out_lenD : ((m.out wide).map D.str).length ≤ 30 := Nat.le_trans (Nat.le_of_eq (List.length_map _)) (out_len ok)
/-- the slots of print_array -/
noncomputable abbrev parho (m : Mat) (wide : Int) (v : D) (size : Nat) (third : Bool) (x11 x12 : Option AV) : Slots := [some (.val v), some (.val (.bool m.quote)), some (.val (.bool m.right)), some (.val (.int wide)), some (.val (.int 7)), some (.val (.list [.int m.tall, .int m.c, .int 2])), some (.val (.int size)), none, some (.val (thirdN m third)), some (.val .none), some (.loc 0), x11, x12, none]
omit ok in
theorem sm_le {k : Nat} (h : k ≤ 1000) : sm (k : Int) = true := decide_eq_true (show k < 1000000000000000000000000 from Nat.lt_of_le_of_lt h (by decide))
omit ok in
theorem bin_muli {a b : Int} (ha : sm a = true) (hb : sm b = true) : binAV .mul (.val (.int a)) (.val (.int b)) = some (.val (.int (a * b))) := by
  show (if (sm a && sm b) = true then some (D.int (a * b)) else none).map AV.val = _
  rw [ha, hb]; rfl
omit ok in
theorem bin_muln {a b : Nat} (ha : a ≤ 1000) (hb : b ≤ 1000) : binAV .mul (.val (.int a)) (.val (.int b)) = some (.val (.int ((a * b : Nat) : Int))) := (bin_muli (sm_le ha) (sm_le hb)).trans (by rw [Int.natCast_mul])
theorem as1 (hn : 9 ≤ n) {third : Bool} {q : Nat} (hq : q < 2) {v : D} {size : Nat} {rows : List D} (hr : rows.length ≤ 100) (more : List D) (x12 : Option AV) :
    evS (FN n) (.app (.v 10) (.call 395 [(.v 5), (.v 8), (.v 9), (.v 11)])) (parho m wide v size third (some (.val (.int q))) x12) (.list rows :: more) = some (.next, parho m wide v size third (some (.val (.int q))) x12, .list (rows ++ [.str (sliceS third q)]) :: more) := by
  apply evS_run
  apply And.intro rfl
  apply stp (slice_ok (N := n) (Nat.le_trans (by decide) hn) m third hq m.tall m.c (.list rows :: more))
  apply stp (cellA_of (σ := .list rows :: more) (i := 0) rfl (small (Nat.le_trans hr (show 100 ≤ 1000 by decide))))
  rfl
theorem as2 {third : Bool} {v : D} {size : Nat} {rows : List D} (hr : rows.length ≤ 1000) (more : List D) (x11 x12 : Option AV) :
    evS (FN n) (.app (.v 10) (.c (.str ""))) (parho m wide v size third x11 x12) (.list rows :: more) = some (.next, parho m wide v size third x11 x12, .list (rows ++ [.str ""]) :: more) := by
  apply evS_run
  apply And.intro rfl
  apply stp (cellA_of (σ := .list rows :: more) (i := 0) rfl (small hr))
  rfl
theorem as3 (hn : 9 ≤ n) {third : Bool} {q : Nat} (hq : q < 2) {its : List D} {md : D} {size : Nat} (hil : its.length ≤ lim)
    (hsz : size ≤ 100) (hcut : cut (some ((q : Int) * (size : Int))) (some ((q : Int) * (size : Int) + (size : Int))) its = m.items) (rows : D) (more : List D) (x12 : Option AV) :
    evS (FN n) (.asg 12 (.call 375 [(.attr (.v 0) 0), (.sl (.attr (.v 0) 1) (.bin .mul (.v 11) (.v 6)) (.bin .add (.bin .mul (.v 11) (.v 6)) (.v 6))), (.idx (.v 5) (.c (.int 0))), (.v 1), (.v 4)])) (parho m wide (vec m.kind.name its md) size third (some (.val (.int q))) x12) (rows :: more) =
      some (.next, parho m wide (vec m.kind.name its md) size third (some (.val (.int q))) (some (.loc (more.length + 1))), rows :: (more ++ [layO m.tall (colsD ((List.range m.c).map (colS m))) .none .none (m.kind == K4.chr)])) := by
  have hmul := bin_muli (sm_le (Nat.le_trans (Nat.le_of_lt hq) (by decide))) (sm_le (Nat.le_trans hsz (by decide)))
  apply evS_run
  apply stp hmul
  apply stp hmul
  apply stp (sl_l hil hcut)
  apply stp (liftA (ds := [_, _, _, _, _]) (matlay_ok (N := n) hn ok) (rows :: more))
  rfl
theorem as4 {third : Bool} {v : D} {size : Nat} (rows : D) (more : List D) (x11 : Option AV) :
    evS (FN n) (.iff (.v 2) [.sattr (.v 12) 11 (.c (.bool false))] []) (parho m wide v size third x11 (some (.loc (more.length + 1)))) (rows :: (more ++ [layO m.tall (colsD ((List.range m.c).map (colS m))) .none .none (m.kind == K4.chr)])) =
      some (.next, parho m wide v size third x11 (some (.loc (more.length + 1))), rows :: (more ++ [layO m.tall (colsD ((List.range m.c).map (colS m))) .none .none ((m.kind == K4.chr) && !m.right)])) := by
  apply evS_run
  cases hr : m.right with
  | false =>
    rw [Bool.not_false, Bool.and_true]
    apply condF hr
    rfl
  | true =>
    rw [Bool.not_true, Bool.and_false]
    apply condT hr
    apply stp (cellN_of (σ := rows :: (more ++ [layO m.tall (colsD ((List.range m.c).map (colS m))) .none .none (m.kind == K4.chr)])) (i := more.length + 1) (n := 11) (d := .bool false) get_end rfl (by decide) (by decide) (show 7 < 900 by decide))
    exact congrArg (fun x => (Fl.next, _, rows :: x)) set_end
theorem as5 (hn : 9 ≤ n) {third : Bool} (h3 : third = false → m.rn = none ∧ m.cn = none) {v : D} {size : Nat} {rows : List D} (hr : rows.length ≤ 200) (more : List D) (x11 : Option AV) :
    evS (FN n) (.ext (.v 10) (.call 354 [(.call 382 [(.v 12), (.v 8), (.v 9)]), (.v 3)])) (parho m wide v size third x11 (some (.loc (more.length + 1)))) (.list rows :: (more ++ [layO m.tall (colsD ((List.range m.c).map (colS m))) .none .none ((m.kind == K4.chr) && !m.right)])) =
      some (.next, parho m wide v size third x11 (some (.loc (more.length + 1))), .list (rows ++ (m.out wide).map .str) :: (more ++ [m.lay.obj])) := by
  apply evS_run
  apply And.intro rfl
  apply stp (liftB (ds := [_, _]) (named_ok ok (N := n) (Nat.le_trans (by decide) hn) (nm := thirdN m third) (by
    cases third
    · exact .inl ⟨rfl, h3 rfl⟩
    · exact .inr ⟨[.list thirdD], rfl⟩)) (.list rows :: more))
  apply stp (liftC (ds := [_]) (rows_ok ok (N := n) (wide := wide) (Nat.le_trans (by decide) hn)) (.list rows :: more))
  apply stp (cellE_of (σ := .list rows :: (more ++ [m.lay.obj])) (i := 0) rfl (small (k := 230) (Nat.add_le_add hr (out_lenD ok))))
  rfl
theorem arr_step (hn : 9 ≤ n) {third : Bool} (h3 : third = false → m.rn = none ∧ m.cn = none) {q : Nat} (hq : q < 2) {its : List D} {md : D} {size : Nat} (hil : its.length ≤ lim)
    (hsz : size ≤ 100) (hcut : cut (some ((q : Int) * (size : Int))) (some ((q : Int) * (size : Int) + (size : Int))) its = m.items) {rows : List Str} (hr : rows.length ≤ 100) (more : List D) (x12 : Option AV) :
    evSs (FN n) b_print_array_2 (parho m wide (vec m.kind.name its md) size third (some (.val (.int q))) x12) (.list (rows.map .str) :: more) =
      some (.next, parho m wide (vec m.kind.name its md) size third (some (.val (.int q))) (some (.loc (more.length + 1))), .list ((rows ++ sliceL third q (m.out wide)).map .str) :: (more ++ [m.lay.obj])) := by
  have l0 : (rows.map D.str).length ≤ 100 := Nat.le_trans (Nat.le_of_eq (List.length_map _)) hr
  have l1 : (rows.map D.str ++ [D.str (sliceS third q)]).length ≤ 101 := by rw [List.length_append]; exact Nat.succ_le_succ l0
  have l2 : (rows.map D.str ++ [D.str (sliceS third q)] ++ [D.str ""]).length ≤ 102 := by rw [List.length_append]; exact Nat.succ_le_succ l1
  have l3 : (rows.map D.str ++ [D.str (sliceS third q)] ++ [D.str ""] ++ (m.out wide).map D.str).length ≤ 132 := by rw [List.length_append]; exact Nat.add_le_add l2 (out_lenD ok)
  have e : rows.map D.str ++ [D.str (sliceS third q)] ++ [D.str ""] ++ (m.out wide).map D.str ++ [D.str ""] = (rows ++ sliceL third q (m.out wide)).map D.str := by
    rw [List.map_append, List.append_assoc, List.append_assoc, List.append_assoc]
    refine congrArg (rows.map D.str ++ ·) (congrArg (fun x => D.str (sliceS third q) :: D.str "" :: x) ?_)
    rw [List.map_append]; rfl
  rw [← e]
  exact (evSs_next (as1 ok hn hq l0 more x12)).trans ((evSs_next (as2 ok (Nat.le_trans l1 (by decide)) more _ _)).trans ((evSs_next (as3 ok hn hq hil hsz hcut _ more _)).trans ((evSs_next (as4 ok _ more _)).trans ((evSs_next (as5 ok hn h3 (Nat.le_trans l2 (by decide)) more _)).trans (evSs_next (as2 ok (Nat.le_trans l3 (by decide)) _ _ _))))))
end
theorem cut_app0 {a b : List D} {k : Nat} (h : a.length = k) : cut (some ((0 : Nat) : Int)) (some (((0 : Nat) : Int) + (k : Int))) (a ++ b) = a := by
  subst h
  rw [show (((0 : Nat) : Int) + (a.length : Int)) = ((a.length : Nat) : Int) from Int.zero_add _]
  show List.take (min a.length (a ++ b).length - min 0 (a ++ b).length) (List.drop (min 0 (a ++ b).length) (a ++ b)) = a
  rw [Nat.zero_min, Nat.sub_zero, List.drop_zero, List.length_append, Nat.min_eq_left (Nat.le_add_right _ _), List.take_left]
theorem cut_app1 {a b : List D} {k : Nat} (h : a.length = k) (h2 : b.length = k) : cut (some (k : Int)) (some ((k : Int) + (k : Int))) (a ++ b) = b := by
  subst h
  show List.take (min (a.length + a.length) (a ++ b).length - min a.length (a ++ b).length) (List.drop (min a.length (a ++ b).length) (a ++ b)) = b
  rw [List.length_append, h2, Nat.min_self, Nat.min_eq_left (Nat.le_add_right _ _), Nat.add_sub_cancel_left, List.drop_left, ← h2, List.take_length]
noncomputable def Mat.with2 (m : Mat) (its : List D) : Mat := { m with items := its }
noncomputable def arrOut (m : Mat) (it2 : List D) (third : Bool) (wide : Int) : List Str := sliceL third 0 (m.out wide) ++ sliceL third 1 ((m.with2 it2).out wide)
theorem third_names {m : Mat} (ok : m.Ok) {n : Nat} (hn : 2 ≤ n) (third : Bool) {its dims : List D} (σ : Store) : FN n 45 [.val (vec m.kind.name its (.dict (mdict dims (if third then some ([m.rn, m.cn, some thirdD].map labD) else none))))] σ = some (.val (thirdN m third), σ) := by
  cases third with
  | false => exact dimnames_none hn
  | true =>
    refine dimnames_ok (labs := [m.rn, m.cn, some thirdD]) hn (show 3 ≤ lim by decide) fun o ho l hl => ?_
    rcases List.mem_cons.mp ho with rfl | ho
    · exact small (Nat.le_trans (Nat.le_of_eq (ok.rn l hl).1) ok.t1)
    · rcases List.mem_cons.mp ho with rfl | ho
      · exact small (Nat.le_trans (Nat.le_of_eq (ok.cn l hl).1) ok.c1)
      · cases List.mem_singleton.mp ho
        cases hl
        exact show 2 ≤ lim by decide
theorem half {z : Nat} (h : 1 ≤ z) : ((z + z : Nat) : Int).fdiv (z : Int) = 2 := by
  rw [Int.fdiv_eq_ediv_of_nonneg _ (Int.natCast_nonneg z), show ((z + z : Nat) : Int) = 2 * (z : Int) by omega]
  exact Int.mul_ediv_cancel _ fun q => absurd h (by rw [Int.natCast_eq_zero.mp q]; decide)
theorem bin_half {z : Nat} (h : 1 ≤ z) (hz : z ≤ 1000) : binAV .fdiv (.val (.int ((z + z : Nat) : Int))) (.val (.int z)) = some (.val (.int 2)) := by
  show (if (z : Int) ≠ 0 ∧ sm (z : Int) = true then some (D.int (((z + z : Nat) : Int).fdiv (z : Int))) else none).map AV.val = _
  rw [if_pos ⟨fun q => absurd h (by rw [Int.natCast_eq_zero.mp q]; decide), sm_le hz⟩, half h]; rfl
theorem arr_ok {N : Nat} (hN : 10 ≤ N) {m : Mat} (ok : m.Ok) {it2 : List D} (ok2 : (m.with2 it2).Ok) {wide : Int} {third : Bool} (h3 : third = false → m.rn = none ∧ m.cn = none) (σ : Store) :
    FN N 401 [.val (vec m.kind.name (m.items ++ it2) (.dict (mdict [.int m.tall, .int m.c, .int 2] (if third then some ([m.rn, m.cn, some thirdD].map labD) else none)))), .val (.bool m.quote), .val (.bool m.right), .val (.int wide)] σ = some (.val (.list ((arrOut m it2 third wide).map .str)), σ) := by
  suffices h : FN N 401 [.val (vec m.kind.name (m.items ++ it2) (.dict (mdict [.int m.tall, .int m.c, .int 2] (if third then some ([m.rn, m.cn, some thirdD].map labD) else none)))), .val (.bool m.quote), .val (.bool m.right), .val (.int wide)] [] = some (.val (.list ((arrOut m it2 third wide).map .str)), []) from lift (ds := [_, _, _, _]) h σ
  obtain ⟨n, rfl⟩ : ∃ n, N = n + 1 := suc_of hN
  have hn : 9 ≤ n := Nat.le_of_succ_le_succ hN
  have htc := tc_le ok.t1 ok.c1
  have hz : 1 ≤ m.tall * m.c := Nat.mul_pos ok.t0 ok.c0
  have hll : (m.items ++ it2).length = m.tall * m.c + m.tall * m.c := by rw [List.length_append, ok.len]; exact congrArg _ ok2.len
  have hil : (m.items ++ it2).length ≤ lim := by rw [hll]; exact small (k := 48) (Nat.add_le_add htc htc)
  have hB := bi_lenl hil
  rw [hll] at hB
  have e1 := arr_step ok (n := n) (wide := wide) hn h3 (q := 0) (by decide) (md := .dict (mdict [.int m.tall, .int m.c, .int 2] (if third then some ([m.rn, m.cn, some thirdD].map labD) else none))) (size := m.tall * m.c) hil (Nat.le_trans htc (by decide))
    (by rw [show (((0 : Nat) : Int) * ((m.tall * m.c : Nat) : Int)) = ((0 : Nat) : Int) from Int.zero_mul _]; exact cut_app0 (b := it2) ok.len) (rows := []) (Nat.zero_le _) [] none
  have e2 := arr_step ok2 (n := n) (wide := wide) hn (third := third) h3 (q := 1) (by decide) (md := .dict (mdict [.int m.tall, .int m.c, .int 2] (if third then some ([m.rn, m.cn, some thirdD].map labD) else none))) (size := m.tall * m.c) hil (Nat.le_trans htc (by decide))
    (by rw [show (((1 : Nat) : Int) * ((m.tall * m.c : Nat) : Int)) = ((m.tall * m.c : Nat) : Int) from Int.one_mul _]; exact cut_app1 ok.len ok2.len) (rows := sliceL third 0 (m.out wide)) (Nat.le_trans (Nat.succ_le_succ (Nat.succ_le_succ (by rw [List.length_append]; exact Nat.succ_le_succ (out_len ok)))) (show 33 ≤ 100 by decide)) [m.lay.obj] (some (.loc 1))
  have hf : forLoop (evSs (FN n) b_print_array_2) 11 [.int 0, .int 1] (parho m wide (vec m.kind.name (m.items ++ it2) (.dict (mdict [.int m.tall, .int m.c, .int 2] (if third then some ([m.rn, m.cn, some thirdD].map labD) else none)))) (m.tall * m.c) third none none) [.list []] =
      some (.next, parho m wide (vec m.kind.name (m.items ++ it2) (.dict (mdict [.int m.tall, .int m.c, .int 2] (if third then some ([m.rn, m.cn, some thirdD].map labD) else none)))) (m.tall * m.c) third (some (.val (.int 1))) (some (.loc 2)), [.list ((arrOut m it2 third wide).map .str), m.lay.obj, (m.with2 it2).lay.obj]) :=
    (for_next (d := .int 0) (ρ := parho m wide (vec m.kind.name (m.items ++ it2) (.dict (mdict [.int m.tall, .int m.c, .int 2] (if third then some ([m.rn, m.cn, some thirdD].map labD) else none)))) (m.tall * m.c) third none none) e1).trans (for_next (d := .int 1) (r := []) (ρ := parho m wide (vec m.kind.name (m.items ++ it2) (.dict (mdict [.int m.tall, .int m.c, .int 2] (if third then some ([m.rn, m.cn, some thirdD].map labD) else none)))) (m.tall * m.c) third (some (.val (.int 0))) (some (.loc 1))) e2)
  refine fn_run (fd := f_print_array) rfl (by decide) rfl ?_
  apply stp (dim_ok (N := n) (k := m.kind.name) (l := m.items ++ it2) (σ := []) (Nat.le_trans (by decide) hn) (dims := [.int m.tall, .int m.c, .int 2]) (show 3 ≤ lim by decide) _)
  apply stp (bin_muln (Nat.le_trans ok.t1 (show 4 ≤ 1000 by decide)) (Nat.le_trans ok.c1 (show 6 ≤ 1000 by decide)))
  apply stp (hB _)
  apply condF (nat_ne0 (Nat.le_trans hz (Nat.le_add_right _ _)))
  apply stp (third_names ok (Nat.le_trans (by decide) hn) third _)
  apply stp (titles_ok (N := n) (Nat.le_trans (by decide) hn))
  apply stp (hB _)
  apply stp (bin_half hz (Nat.le_trans htc (by decide)))
  apply And.intro (show 2 ≤ lim by decide)
  apply stp hf
  exact leave_list (σ := []) (x := [_, _, _]) (i := 0) rfl
end
end Mine

namespace Mine
open PySem PySem.W
noncomputable section

/-! the hand that the law draws from -/
structure IsHand (h : D) : Prop where
  ex : X4 fun (ns : List Int) (p : Nat) (c s : Int) => A6 (h = .list [.list (ns.map .int), .int (p : Int), .int c, .int s]) (ns.length ≤ 63) (p ≤ ns.length) (0 ≤ c) (0 ≤ s) (s ≤ 2147483647)
theorem bin_md {a b : Int} (h : b ≠ 0) : binAV .md (.val (.int a)) (.val (.int b)) = some (.val (.int (a.fmod b))) := by
  show (if b ≠ 0 then some (D.int (a.fmod b)) else none).map AV.val = _
  rw [if_pos h]; rfl
theorem bin_fd {a b : Int} (h : b ≠ 0) (hs : sm b = true) : binAV .fdiv (.val (.int a)) (.val (.int b)) = some (.val (.int (a.fdiv b))) := by
  show (if b ≠ 0 ∧ sm b = true then some (D.int (a.fdiv b)) else none).map AV.val = _
  rw [if_pos ⟨h, hs⟩]; rfl
noncomputable abbrev handD (ns : List Int) (p c s : Int) : D := .list [.list (ns.map .int), .int p, .int c, .int s]
/-- a digit of a figure -/
theorem digit {ns : List Int} {p : Nat} {c s : Int} {l : Nat} (l1 : 1 ≤ l) (hn : ns.length ≤ 63) (hp : p ≤ ns.length) (hc : 0 ≤ c) (hs0 : 0 ≤ s) (hs1 : s ≤ 2147483647) : ∃ r : Nat, A3 (c.fmod l = (r : Int)) (r < l) (IsHand (handD ns p (c.fdiv l) s)) := by
  have hl : (0 : Int) < l := Int.ofNat_lt.mpr l1
  have h1 := Int.fmod_nonneg_of_pos c hl
  have h2 := Int.fmod_lt_of_pos c hl
  exact ⟨(c.fmod l).toNat, (Int.toNat_of_nonneg h1).symm, by omega, ⟨ns, p, _, s, rfl, hn, hp, Int.fdiv_nonneg hc (Int.le_of_lt hl), hs0, hs1⟩⟩
theorem len_ns {ns : List Int} (hn : ns.length ≤ 63) (σ : Store) : biAV σ .len [.val (.list (ns.map .int))] = some (.val (.int ns.length)) := by
  have := bi_lenl (l := ns.map D.int) (by rw [List.length_map]; exact small hn) σ
  rwa [List.length_map] at this
/-- the digit of the figure at hand -/
theorem pick_fin {n : Nat} {ns : List Int} {p c s : Int} {l : Nat} (l1 : 1 ≤ l) (l2 : l ≤ 100) {x2 : Option AV} {rest : Store} :
    evSs (FN n) (s_law_pick.drop 1) [some (.loc 0), some (.val (.int l)), x2, none] (handD ns p c s :: rest) = some (.ret (.val (.int (c.fmod l))), [some (.loc 0), some (.val (.int l)), x2, some (.val (.int (c.fmod l)))], handD ns p (c.fdiv l) s :: rest) := by
  have hl0 : (l : Int) ≠ 0 := fun q => absurd l1 (by rw [Int.natCast_eq_zero.mp q]; decide)
  apply evSs_run
  apply stp (bin_md hl0)
  apply stp (bin_fd hl0 (sm_le (Nat.le_trans l2 (by decide))))
  rfl
theorem pick_ok {N : Nat} (hN : 1 ≤ N) {h : D} (hh : IsHand h) {l : Nat} (l1 : 1 ≤ l) (l2 : l ≤ 100) (rest : Store) :
    X2 fun (r : Nat) (h' : D) => A3 (FN N 408 [.loc 0, .val (.int l)] (h :: rest) = some (.val (.int r), h' :: rest)) (IsHand h') (r < l) := by
  obtain ⟨ns, p, c, s, rfl, hn, hp, hc, hs0, hs1⟩ := hh.ex
  obtain ⟨n, rfl⟩ : ∃ n, N = n + 1 := suc_of hN
  have hl0 : (l : Int) ≠ 0 := fun q => absurd l1 (by rw [Int.natCast_eq_zero.mp q]; decide)
  have fin : ∀ {p' : Nat} {c' : Int} {x2 : Option AV}, p' ≤ ns.length → 0 ≤ c' → evS (FN n) (s_law_pick.head (by decide)) [some (.loc 0), some (.val (.int l)), none, none] (handD ns p c s :: rest) = some (.next, [some (.loc 0), some (.val (.int l)), x2, none], handD ns p' c' s :: rest) →
      X2 fun (r : Nat) (h' : D) => A3 (FN (n + 1) 408 [.loc 0, .val (.int l)] (handD ns p c s :: rest) = some (.val (.int r), h' :: rest)) (IsHand h') (r < l) := by
    intro p' c' x2 h1 h2 e
    obtain ⟨r, er, hr, hh'⟩ := digit l1 hn h1 h2 hs0 hs1
    refine ⟨r, _, ?_, hh', hr⟩
    rw [fn_eq (fd := f_law_pick) rfl (by decide) rfl]
    have q := (evSs_next e).trans (pick_fin (n := n) l1 l2)
    exact (congrArg (fun o => outF o _) q).trans (leave_at1 (congrArg D.int er))
  by_cases hc0 : c = 0
  · subst hc0
    by_cases hpl : p = ns.length
    · -- the script is at its end
      have hsm : sm s = true := decide_eq_true (by omega)
      have hb := Int.fmod_nonneg_of_pos (s * 48271) (show (0 : Int) < 2147483647 by decide)
      have hb2 := Int.fmod_lt_of_pos (s * 48271) (show (0 : Int) < 2147483647 by decide)
      obtain ⟨r, er, hr, _⟩ := digit (c := ((s * 48271).fmod 2147483647).fdiv 7) l1 hn hp (Int.fdiv_nonneg hb (by decide)) hs0 hs1
      refine ⟨r, handD ns p 0 ((s * 48271).fmod 2147483647), fn_run (fd := f_law_pick) rfl (by decide) rfl ?_, ⟨ns, p, 0, _, rfl, hn, hp, by decide, hb, Int.le_of_lt hb2⟩, hr⟩
      apply stp (len_ns hn _)
      apply condT (beq_iff_eq.mpr (congrArg Int.ofNat hpl))
      apply stp (bin_muli hsm (show sm 48271 = true by decide))
      apply stp (bin_md hl0)
      exact leave_at1 (congrArg D.int er)
    · have hp' : p < ns.length := Nat.lt_of_le_of_ne hp hpl
      have hidx : idxOf (p : Int) (ns.map D.int) = some (.int ns[p]) := by rw [idxOf_nat (Nat.lt_of_lt_of_le hp' (Nat.le_trans hn (by decide))), List.getElem?_map, List.getElem?_eq_getElem hp']; rfl
      have e1 : (((p : Nat) : Int) == (ns.length : Int)) = false := beq_eq_false_iff_ne.mpr fun q => hpl (Int.ofNat_inj.mp q)
      by_cases hf0 : 0 ≤ ns[p]
      · refine fin (p' := p + 1) (c' := ns[p]) (x2 := some (.val (.int ns[p]))) hp' hf0 (evS_run ?_)
        apply stp (len_ns hn _)
        apply condF e1
        apply stp (idx_l hidx)
        apply condT (decide_eq_true hf0)
        rfl
      · refine fin (p' := p + 1) (c' := -ns[p]) (x2 := some (.val (.int ns[p]))) hp' (by omega) (evS_run ?_)
        apply stp (len_ns hn _)
        apply condF e1
        apply stp (idx_l hidx)
        apply condF (decide_eq_false hf0)
        rfl
  · refine fin (p' := p) (c' := c) (x2 := none) hp hc (evS_run ?_)
    apply condF (beq_eq_false_iff_ne.mpr hc0)
    rfl
end
end Mine

namespace Mine
open PySem PySem.W
noncomputable section

noncomputable def wordsD : List D := [.str "a", .str "bb", .str "", .str "c\"d", .str "e\\f", .str "g\nh", .str "long word here", .str "é"]
theorem words_ok {N : Nat} (hN : 1 ≤ N) (σ : Store) : FN N 415 [] σ = some (.val (.list wordsD), σ) := by
  obtain ⟨M, rfl⟩ := fuel hN
  have h : FN (M + 1) 415 [] [] = some (.val (.list wordsD), []) := by kernel_rfl
  exact lift (ds := []) h σ
noncomputable abbrev fracR : List D := [.tup [.int 0, .int 1], .tup [.int 1, .int 2], .tup [.int (-3), .int 4], .tup [.int 12, .int 1], .tup [.int 1, .int 4], .tup [.int (-7), .int 1], .tup [.int 5, .int 2], .tup [.int 101, .int 1], .tup [.int 250, .int 1], .tup [.int (-99), .int 2], .tup [.int 3, .int 4]]
noncomputable abbrev intR : List D := [.int 0, .int 1, .int (-2), .int 35, .int 1000000, .int (-47), .int 8, .int 9, .int 10, .int 123, .int 2147483647]
theorem words_dom : ∀ d ∈ wordsD, d ∈ textDom := by
  intro d hd
  rcases List.mem_append.mp (show d ∈ [.str "a", .str "bb", .str "", .str "c\"d", .str "e\\f", .str "g\nh", .str "long word here", .str "é"] ++ [] from List.mem_append_left _ hd) with hd | hd
  · exact List.mem_cons_of_mem _ (List.mem_append_left [D.str "bcdef", D.str "g\\", D.str "u", D.str "vw"] hd)
  · cases hd
theorem frac_dom : ∀ d ∈ fracR, d ∈ fracDom := fun d hd => hd
theorem int_dom : ∀ d ∈ intR, d ∈ intDom := fun d hd => List.mem_cons_of_mem _ hd
noncomputable def itI (k : K4) (many : Nat) (rest : Store) (ds : List D) (ρ : Slots) (σ : Store) : Prop :=
  X6 fun h items x y j p => A7 (ρ = [some (.loc 0), some (.val (.str k.name)), some (.val (.int many)), some (.loc (rest.length + 1)), x, y]) (ds = nats j p) (j + p = many) (σ = h :: (rest ++ [.list items])) (IsHand h) (items.length = j) (∀ d ∈ items, d ∈ k.dom)
theorem int_zero {k : K4} : D.none ∈ k.dom := by cases k <;> exact .head _
theorem fm_nat {q k : Nat} : ((q : Int).fmod (k : Int)) = ((q % k : Nat) : Int) := Int.fmod_eq_emod_of_nonneg _ (Int.natCast_nonneg k)
theorem drop_at {n : Nat} {k : K4} {many : Nat} {j : Int} {q : Nat} (hq : q < 12) {rest : Store} {h' : D} {items : List D} (hn : 1 ≤ n) (hl : items.length ≤ 1000) :
    ∃ d', d' ∈ k.dom ∧ evSs (FN n) (b_law_items_1.drop 1) [some (.loc 0), some (.val (.str k.name)), some (.val (.int many)), some (.loc (rest.length + 1)), some (.val (.int j)), some (.val (.int q))] (h' :: (rest ++ [.list items])) =
      some (.next, [some (.loc 0), some (.val (.str k.name)), some (.val (.int many)), some (.loc (rest.length + 1)), some (.val (.int j)), some (.val (.int q))], h' :: (rest ++ [.list (items ++ [d'])])) := by
  obtain ⟨k1, k2, k3, k4⟩ := kind_ne k
  have dom : ∀ d, d ∈ k.dom → d ∈ k.dom := fun _ h => h
  by_cases hq11 : q = 11
  · refine ⟨.none, int_zero, evSs_run ?_⟩
    apply condT (beq_iff_eq.mpr (show (q : Int) = 11 from congrArg Int.ofNat hq11))
    apply And.intro (any_of (σ := rest ++ [D.list items]) get_end)
    apply stp (cellA_of (σ := rest ++ [D.list items]) (i := rest.length) get_end (small hl))
    exact congrArg (fun x => (Fl.next, _, h' :: x)) set_end
  · have hq10 : q < 11 := by omega
    have e0 : ((q : Int) == 11) = false := beq_eq_false_iff_ne.mpr fun h => hq11 (Int.ofNat_inj.mp h)
    generalize hkn : k.name = kn at *
    cases k with
    | chr =>
      have h8 : q % 8 < wordsD.length := Nat.mod_lt _ (by decide)
      refine ⟨wordsD[q % 8], words_dom _ (List.getElem_mem h8), evSs_run ?_⟩
      apply condF e0
      apply condT k2
      apply And.intro (any_of (σ := rest ++ [D.list items]) get_end)
      apply stp (words_ok hn _)
      apply stp (idx_l (l := wordsD) (d := wordsD[q % 8]) (by rw [show ((q : Int).fmod 8) = ((q % 8 : Nat) : Int) from fm_nat, idxOf_nat (Nat.lt_trans h8 (by decide))]; exact List.getElem?_eq_getElem h8))
      apply stp (cellA_of (σ := rest ++ [D.list items]) (i := rest.length) get_end (small hl))
      exact congrArg (fun x => (Fl.next, _, h' :: x)) set_end
    | dbl =>
      have h11 : q < fracR.length := hq10
      refine ⟨fracR[q], List.mem_cons_of_mem _ (frac_dom _ (List.getElem_mem h11)), evSs_run ?_⟩
      apply condF e0
      apply condF k2
      apply condT k1
      apply And.intro (any_of (σ := rest ++ [D.list items]) get_end)
      apply stp (idx_l (l := fracR) (d := fracR[q]) (by rw [idxOf_nat (Nat.lt_trans hq10 (by decide))]; exact List.getElem?_eq_getElem h11))
      apply stp (cellA_of (σ := rest ++ [D.list items]) (i := rest.length) get_end (small hl))
      exact congrArg (fun x => (Fl.next, _, h' :: x)) set_end
    | log =>
      refine ⟨.int ((q : Int).fmod 2), ?_, evSs_run ?_⟩
      · rw [show ((q : Int).fmod 2) = ((q % 2 : Nat) : Int) from fm_nat]
        have : q % 2 = 0 ∨ q % 2 = 1 := by omega
        rcases this with h | h <;> rw [h]
        · exact .tail _ (.head _)
        · exact .tail _ (.tail _ (.head _))
      · apply condF e0
        apply condF k2
        apply condF k1
        apply condT k3
        apply And.intro (any_of (σ := rest ++ [D.list items]) get_end)
        apply stp (cellA_of (σ := rest ++ [D.list items]) (i := rest.length) get_end (small hl))
        exact congrArg (fun x => (Fl.next, _, h' :: x)) set_end
    | int =>
      have h11 : q < intR.length := hq10
      refine ⟨intR[q], int_dom _ (List.getElem_mem h11), evSs_run ?_⟩
      apply condF e0
      apply condF k2
      apply condF k1
      apply condF k3
      apply And.intro (any_of (σ := rest ++ [D.list items]) get_end)
      apply stp (idx_l (l := intR) (d := intR[q]) (by rw [idxOf_nat (Nat.lt_trans hq10 (by decide))]; exact List.getElem?_eq_getElem h11))
      apply stp (cellA_of (σ := rest ++ [D.list items]) (i := rest.length) get_end (small hl))
      exact congrArg (fun x => (Fl.next, _, h' :: x)) set_end
theorem it_step {n : Nat} (hn : 2 ≤ n) {k : K4} {many : Nat} (hm : many ≤ 24) {rest : Store} (d : D) (r : List D) (ρ : Slots) (σ : Store) (h : itI k many rest (d :: r) ρ σ) :
    X2 fun ρ' σ' => evSs (FN n) b_law_items_1 (ρ.set 4 (some (.val d))) σ = some (.next, ρ', σ') ∧ itI k many rest r ρ' σ' := by
  obtain ⟨h, items, x, y, j, p, rfl, hd, hk, rfl, hh, hlen, hdom⟩ := h
  cases p with
  | zero => cases hd
  | succ p =>
  rw [nats_succ] at hd
  cases hd
  obtain ⟨q, h', e, hh', hq⟩ := pick_ok (N := n) (Nat.le_trans (by decide) hn) hh (l := 12) (by decide) (by decide) (rest ++ [.list items])
  have hil : items.length ≤ 1000 := by omega
  obtain ⟨d', hd', he⟩ := drop_at (n := n) (k := k) (many := many) (j := j) hq (rest := rest) (h' := h') (items := items) (Nat.le_trans (by decide) hn) hil
  refine ⟨_, _, (evSs_next (evS_run (p := (.next, [some (.loc 0), some (.val (.str k.name)), some (.val (.int many)), some (.loc (rest.length + 1)), some (.val (.int j)), some (.val (.int q))], h' :: (rest ++ [D.list items]))) ?_)).trans he, h', items ++ [d'], _, _, j + 1, p, rfl, rfl, (Nat.add_right_comm j 1 p).trans hk, rfl, hh', by rw [List.length_append, hlen]; rfl, fun x hx => ?_⟩
  · apply stp e
    rfl
  · rcases List.mem_append.mp hx with hx | hx
    · exact hdom x hx
    · rw [List.mem_singleton.mp hx]; exact hd'
theorem drawn_ok {N : Nat} (hN : 3 ≤ N) (k : K4) {many : Nat} (hm : many ≤ 24) {h : D} (hh : IsHand h) (rest : Store) :
    X2 fun h' items => A4 (FN N 448 [.loc 0, .val (.str k.name), .val (.int many)] (h :: rest) = some (.val (.list items), h' :: rest)) (IsHand h') (items.length = many) (∀ d ∈ items, d ∈ k.dom) := by
  obtain ⟨n, rfl⟩ : ∃ n, N = n + 1 := suc_of hN
  obtain ⟨ρ', σ', e, h', items, x, y, j, p, rfl, u1, u2, rfl, hh', u3, u4⟩ := for_inv (b := evSs (FN n) b_law_items_1) (x := 4) (itI k many rest) (nats 0 many)
    [some (.loc 0), some (.val (.str k.name)), some (.val (.int many)), some (.loc (rest.length + 1)), none, none] (h :: (rest ++ [.list []])) ⟨h, [], none, none, 0, many, rfl, rfl, Nat.zero_add _, rfl, hh, rfl, fun _ h => nomatch h⟩ (it_step (Nat.le_of_succ_le_succ hN) hm)
  cases p with
  | succ p => cases u1
  | zero =>
  have hm2 := Nat.le_trans hm (show 24 ≤ 1000 by decide)
  refine ⟨h', items, fn_run (fd := f_law_items) rfl (by decide) rfl ?_, hh', u3.trans u2, u4⟩
  apply stp (biAV_range1 (b := (many : Int)) (small (a := many) hm2))
  apply stp (items_rng0 hm2)
  apply And.intro (rng_len (b := 0) (m := many) hm2)
  apply stp e
  exact leave_at (σ := h' :: rest) (x := [.list items]) get_end
end
end Mine

namespace Mine
open PySem PySem.W
noncomputable section

/-! every text is one of code points -/
noncomputable def sOk (s : Str) : Prop := PyData.strOk s = true
theorem sOk_iff (s : Str) : sOk s ↔ ∀ c ∈ L s, c < 0x110000 := by
  unfold sOk PyData.strOk L
  rw [← Array.all_toList, List.all_eq_true]
  simp
theorem sOk_app {a b : Str} (h1 : sOk a) (h2 : sOk b) : sOk (a ++ b) := by
  rw [sOk_iff] at *
  intro c hc
  rw [L_app, List.mem_append] at hc
  exact hc.elim (h1 c) (h2 c)
theorem sOk_sp (n : Int) : sOk (sp n) := by
  rw [sOk_iff, L_sp]
  intro c hc
  rw [(List.mem_replicate.mp hc).2]; decide
theorem sOk_ljust {x : Str} {i : Int} (h : sOk x) : sOk (Txt.ljust x i) := by
  rw [sOk_iff] at *
  intro c hc
  rw [L_ljust, List.mem_append] at hc
  rcases hc with hc | hc
  · exact h c hc
  · rw [(List.mem_replicate.mp hc).2]; decide
theorem sOk_rjust {x : Str} {i : Int} (h : sOk x) : sOk (Txt.rjust x i) := by
  rw [sOk_iff] at *
  intro c hc
  rw [L_rjust, List.mem_append] at hc
  rcases hc with hc | hc
  · rw [(List.mem_replicate.mp hc).2]; decide
  · exact h c hc
theorem sOk_bl : sOk bl := show PyData.strOk bl = true by decide +kernel
theorem sOk_empty : sOk Str.empty := show PyData.strOk Str.empty = true by decide +kernel
theorem sOk_padS {left : Bool} {t : Str} {w : Int} (h : sOk t) : sOk (padS left t w) := by
  unfold padS
  cases left
  · exact sOk_app sOk_bl (sOk_app (sOk_sp _) h)
  · exact sOk_app sOk_bl (sOk_app h (sOk_sp _))
theorem sOk_fold : ∀ {l : List Str} {a : Str}, sOk a → (∀ s ∈ l, sOk s) → sOk (l.foldl (· ++ ·) a)
  | [], a, h, _ => h
  | x :: r, a, h, hl => by
    rw [List.foldl_cons]
    exact sOk_fold (sOk_app h (hl x (by simp))) fun s hs => hl s (by simp [hs])
theorem sOk_hd0 {k : Nat} (h : k < 9) : sOk (hd0 k) := by
  have : ∀ k : Fin 9, PyData.strOk (hd0 k.1) = true := by decide +kernel
  exact this ⟨k, h⟩
theorem sOk_lb0 {k : Nat} (h : k < 9) : sOk (lb0 k) := by
  have : ∀ k : Fin 9, PyData.strOk (lb0 k.1) = true := by decide +kernel
  exact this ⟨k, h⟩
structure Lay.Txt (y : Lay) : Prop where
  col : ∀ c ∈ y.cs, ∀ s ∈ c, sOk s
  rn : ∀ l, y.rn = some l → ∀ s ∈ l, sOk s
  cn : ∀ l, y.cn = some l → ∀ s ∈ l, sOk s
theorem getD_ok {l : List Str} {i : Nat} (h : ∀ s ∈ l, sOk s) : sOk (l.getD i Str.empty) := by
  rw [List.getD_eq_getElem?_getD]
  cases q : l[i]? with
  | none => exact sOk_empty
  | some s => exact h s (List.mem_of_getElem? q)
section
variable {y : Lay} (ok : y.Ok) (tx : y.Txt)
include ok tx
theorem head_txt {k : Nat} (h : k < 9) : sOk (y.head k) := by
  unfold Lay.head
  split
  · rename_i l hl; exact getD_ok (tx.cn l hl)
  · exact sOk_hd0 h
theorem lab_txt {k : Nat} (h : k < 9) : sOk (y.lab k) := by
  unfold Lay.lab
  split
  · rename_i l hl; exact sOk_ljust (getD_ok (tx.rn l hl))
  · exact sOk_rjust (sOk_lb0 h)
theorem X_txt (k i : Nat) : sOk (y.X k i) := by
  unfold Lay.X
  refine getD_ok fun s hs => ?_
  rw [List.getD_eq_getElem?_getD] at hs
  cases q : y.cs[k]? with
  | none => rw [q] at hs; simp at hs
  | some c => rw [q] at hs; exact tx.col c (List.mem_of_getElem? q) s hs
theorem row_txt {lab : Str} {f : Nat → Str} {b m : Nat} (h1 : sOk lab) (h2 : ∀ j, j < b + m → sOk (f j)) : sOk (y.rowS lab f b m) := by
  refine sOk_fold h1 fun s hs => ?_
  obtain ⟨j, hj, rfl⟩ := List.mem_map.mp hs
  simp only [List.mem_range'_1] at hj
  exact sOk_padS (h2 j hj.2)
theorem block_txt {b m : Nat} (h : b + m ≤ y.cs.length) : ∀ s ∈ y.block b m, sOk s := by
  have c1 := ok.c1
  have t1 := ok.t1
  intro s hs
  unfold Lay.block at hs
  rcases List.mem_cons.mp hs with rfl | hs
  · exact row_txt ok tx (sOk_ljust sOk_empty) fun j hj => head_txt ok tx (by omega)
  · obtain ⟨i, hi, rfl⟩ := List.mem_map.mp hs
    have hi := List.mem_range.mp hi
    exact row_txt ok tx (lab_txt ok tx (by omega)) fun j _ => X_txt ok tx j i
theorem blocks_txt (wide : Int) : ∀ (k b : Nat), ∀ s ∈ y.blocks wide k b, sOk s
  | 0, b, s, hs => by simp [Lay.blocks] at hs
  | k + 1, b, s, hs => by
    unfold Lay.blocks at hs
    split at hs
    · rename_i hb
      have hg := grow_range y wide (y.cs.length - (b + 1)) (b + 1) (y.room + 1 + y.W b) (by omega)
      rcases List.mem_append.mp hs with hs | hs
      · exact block_txt ok tx (by omega) s hs
      · exact blocks_txt wide k _ s hs
    · cases hs
end
theorem good_ok {s : Str} (h : good s = true) : sOk s := by
  unfold good at h
  simp only [Bool.and_eq_true] at h
  exact h.2
section
variable {m : Mat} (ok : m.Ok)
include ok
theorem mat_txt : m.lay.Txt where
  col := fun l hl s hs => by
    obtain ⟨j, hj, rfl⟩ := List.mem_map.mp hl
    obtain ⟨d, hd, rfl⟩ := List.mem_map.mp hs
    exact good_ok (txt_good (fun d hd => ok.dom d (mem_cut hd)) hd)
  rn := fun l hl s hs => by
    simp only [Mat.lay, shown, Option.map_eq_some_iff] at hl
    obtain ⟨r, hr, rfl⟩ := hl
    obtain ⟨d, hd, rfl⟩ := List.mem_map.mp hs
    exact good_ok (enc_good ((ok.rn r hr).2 d hd) false)
  cn := fun l hl s hs => by
    simp only [Mat.lay, shown, Option.map_eq_some_iff] at hl
    obtain ⟨r, hr, rfl⟩ := hl
    obtain ⟨d, hd, rfl⟩ := List.mem_map.mp hs
    exact good_ok (enc_good ((ok.cn r hr).2 d hd) false)
theorem out_txt (wide : Int) : ∀ s ∈ m.out wide, sOk s := blocks_txt ok.lay (mat_txt ok) wide m.c 0
end
theorem slice_txt (third : Bool) {q : Nat} (hq : q < 2) : sOk (sliceS third q) := by
  have h : q = 0 ∨ q = 1 := by omega
  show PyData.strOk _ = true
  cases third <;> rcases h with rfl | rfl <;> decide +kernel
theorem sliceL_txt {third : Bool} {q : Nat} (hq : q < 2) {out : List Str} (h : ∀ s ∈ out, sOk s) : ∀ s ∈ sliceL third q out, sOk s := by
  intro s hs
  unfold sliceL at hs
  rcases List.mem_cons.mp hs with rfl | hs
  · exact slice_txt third hq
  rcases List.mem_cons.mp hs with rfl | hs
  · exact sOk_empty
  rcases List.mem_append.mp hs with hs | hs
  · exact h s hs
  · rw [List.mem_singleton.mp hs]; exact sOk_empty
theorem toDat_str {n : Nat} {s : Str} (h : sOk s) : toDat (n + 1) (.str s) = some (.str s) := if_pos (show PyData.strOk s = true from h)
theorem toDats_str {l : List Str} (h : ∀ s ∈ l, sOk s) : toDats (l.map .str) = some (l.map Dat.str) := by
  induction l with
  | nil => rfl
  | cons s r ih =>
    have ih := ih fun s hs => h s (.tail _ hs)
    unfold toDats at *
    rw [List.map_cons, List.mapM_cons, toDat_str (h s (.head _)), ih]
    rfl
theorem eqL_str {l : List Str} (h : ∀ s ∈ l, sOk s) : eqL (l.map .str) (l.map .str) = some true := by
  unfold eqL
  rw [toDats_str h]
  exact congrArg some (@decide_eq_true _ (Classical.propDecidable _) rfl)
/-- the two rows of names against None, None -/
theorem names_dat {l : List D} (h : ∀ d ∈ l, d = .none ∨ ∃ s, d = .str s ∧ sOk s) : ∃ r, l.mapM (toDat 5) = some r := by
  induction l with
  | nil => exact ⟨[], rfl⟩
  | cons d l ih =>
    obtain ⟨r, hr⟩ := ih fun d hd => h d (by simp [hd])
    rcases h d (by simp) with rfl | ⟨s, rfl, hs⟩
    · exact ⟨.none :: r, by rw [List.mapM_cons, hr]; rfl⟩
    · exact ⟨.str s :: r, by rw [List.mapM_cons, toDat_str hs, hr]; rfl⟩
theorem eqL_names {a b : Option (List D)} (ha : ∀ l, a = some l → ∀ d ∈ l, d = .none ∨ ∃ s, d = .str s ∧ sOk s) (hb : ∀ l, b = some l → ∀ d ∈ l, d = .none ∨ ∃ s, d = .str s ∧ sOk s) :
    eqL [nmD a, nmD b] [.none, .none] = some (a.isNone && b.isNone) := by
  have key : ∀ o : Option (List D), (∀ l, o = some l → ∀ d ∈ l, d = .none ∨ ∃ s, d = .str s ∧ sOk s) → ∃ x, toDat 6 (nmD o) = some x ∧ (x = Dat.none ↔ o.isNone = true) := by
    intro o ho
    cases o with
    | none => exact ⟨.none, rfl, ⟨fun _ => rfl, fun _ => rfl⟩⟩
    | some l =>
      obtain ⟨r, hr⟩ := names_dat (ho l rfl)
      exact ⟨.list r, (by show ((l.mapM (toDat 5)).map Dat.list).or _ = _; rw [hr]; rfl), ⟨(fun h => nomatch h), (fun h => nomatch h)⟩⟩
  obtain ⟨x, h1, h2⟩ := key a ha
  obtain ⟨z, h3, h4⟩ := key b hb
  unfold eqL toDats
  rw [List.mapM_cons, List.mapM_cons, h1, h3]
  have hn : List.mapM (toDat 6) [D.none, D.none] = some [.none, .none] := rfl
  rw [hn]
  have e : ([x, z] = [Dat.none, Dat.none]) ↔ (a.isNone && b.isNone) = true := by simp [h2, h4]
  exact congrArg some (Bool.eq_iff_iff.mpr ((@decide_eq_true_iff _ (Classical.propDecidable _)).trans e))
end
end Mine

namespace Mine
open PySem PySem.W
noncomputable section

/-! the law, part by part -/
noncomputable def pA : List S := s_law.take 6
noncomputable abbrev LR (a1 a2 a3 a4 a5 a6 a7 a8 a9 a10 a11 a12 a13 a14 a15 a16 a17 a18 a19 : Option AV) : Slots :=
  [none, a1, a2, a3, a4, a5, a6, a7, a8, a9, a10, a11, a12, a13, a14, a15, a16, a17, a18, a19, none, none]
theorem kind_at {q : Nat} (h : q < 4) : ∃ k : K4, idxOf (q : Int) [.str "integer", .str "character", .str "double", .str "logical"] = some (.str k.name) := by
  have : q = 0 ∨ q = 1 ∨ q = 2 ∨ q = 3 := by omega
  rcases this with rfl | rfl | rfl | rfl
  · exact ⟨.int, rfl⟩
  · exact ⟨.chr, rfl⟩
  · exact ⟨.dbl, rfl⟩
  · exact ⟨.log, rfl⟩
theorem phaseA {n : Nat} (hn : 10 ≤ n) {ns : List Int} (hl : ns.length ≤ 63) : X5 fun (h : D) (k : K4) (t c : Nat) (items : List D) => A8 (IsHand h) (1 ≤ t) (t ≤ 4) (1 ≤ c) (c ≤ 6) (items.length = t * c) ((∀ d ∈ items, d ∈ k.dom)) (∀ tl, evSs (FN n) (pA ++ tl) ((List.replicate 22 none).set 1 (some (.val (.list (ns.map .int))))) [] =
      evSs (FN n) tl (LR (some (.val (.list (ns.map .int)))) (some (.loc 0)) (some (.val (.str k.name))) (some (.val (.int t))) (some (.val (.int c))) (some (.loc 1)) (some (.loc 2)) none none none none none none none none none none none none) [h, vec k.name items .none, .list [.none, .none]]) := by
  -- the hand
  have hm0 := Int.fmod_nonneg_of_pos ns.sum (show (0 : Int) < 100003 by omega)
  have hm1 := Int.fmod_lt_of_pos ns.sum (show (0 : Int) < 100003 by omega)
  have h0 : IsHand (.list [.list (ns.map .int), .int 0, .int 0, .int (ns.sum.fmod 100003 * 7)]) := ⟨ns, 0, 0, _, rfl, hl, by omega, by omega, by omega, by omega⟩
  obtain ⟨q1, h1, e1, hh1, r1⟩ := pick_ok (N := n) (by omega) h0 (l := 4) (by omega) (by omega) []
  obtain ⟨k, hk⟩ := kind_at r1
  obtain ⟨q2, h2, e2, hh2, r2⟩ := pick_ok (N := n) (by omega) hh1 (l := 4) (by omega) (by omega) []
  obtain ⟨q3, h3, e3, hh3, r3⟩ := pick_ok (N := n) (by omega) hh2 (l := 6) (by omega) (by omega) []
  have htc : (1 + q2) * (1 + q3) ≤ 24 := Nat.mul_le_mul (show 1 + q2 ≤ 4 by omega) (show 1 + q3 ≤ 6 by omega)
  obtain ⟨h4, items, e4, hh4, hlen, hdom⟩ := drawn_ok (N := n) (by omega) k (many := (1 + q2) * (1 + q3)) htc hh3 []
  refine ⟨h4, k, 1 + q2, 1 + q3, items, hh4, by omega, by omega, by omega, by omega, hlen, hdom, fun tl => ?_⟩
  have e5 := vec_call (N := n) (by omega) k.name items [h4]
  have hsm1 : sm (ns.sum.fmod 100003) = true := by unfold sm; simp; omega
  have hsm2 : sm 7 = true := by decide
  have hsm3 : sm ((1 + q2 : Nat) : Int) = true := by unfold sm; simp; omega
  have hsm4 : sm ((1 + q3 : Nat) : Int) = true := by unfold sm; simp; omega
  have hmul : binD .mul (.int ((1 + q2 : Nat) : Int)) (.int ((1 + q3 : Nat) : Int)) = some (.int (((1 + q2) * (1 + q3) : Nat) : Int)) := by
    show (if (sm ((1 + q2 : Nat) : Int) && sm ((1 + q3 : Nat) : Int)) = true then some (D.int _) else none) = _
    rw [hsm3, hsm4, Int.natCast_mul]; rfl
  have hadd1 : binD .add (.int 1) (.int (q2 : Int)) = some (.int ((1 + q2 : Nat) : Int)) := by
    simp only [binD]; congr 2
  have hadd2 : binD .add (.int 1) (.int (q3 : Int)) = some (.int ((1 + q3 : Nat) : Int)) := by
    simp only [binD]; congr 2
  have hmd : binD .md (.int ns.sum) (.int 100003) = some (.int (ns.sum.fmod 100003)) := by simp [binD]
  have hm7 : binD .mul (.int (ns.sum.fmod 100003)) (.int 7) = some (.int (ns.sum.fmod 100003 * 7)) := by simp [binD, hsm1, hsm2]
  have hsum : biAV [] .sum1 [.val (.list (ns.map .int))] = some (.val (.int ns.sum)) := by
    show ((ints? (ns.map .int)).map fun ns => D.int ns.sum).map AV.val = _
    rw [ints_map]; rfl
  have h44 : ((4 : Nat) : Int) = 4 := rfl
  have h66 : ((6 : Nat) : Int) = 6 := rfl
  rw [h44] at e1 e2
  rw [h66] at e3
  generalize ns.sum.fmod 100003 * 7 = seed at *
  generalize ns.sum.fmod 100003 = sd at *
  generalize ns.sum = sm0 at *
  generalize ns.map D.int = nsD at *
  generalize (((1 + q2) * (1 + q3) : Nat) : Int) = zm at *
  generalize ((1 + q2 : Nat) : Int) = zt at *
  generalize ((1 + q3 : Nat) : Int) = zc at *
  generalize (q1 : Int) = z1 at *
  generalize (q2 : Int) = z2 at *
  generalize (q3 : Int) = z3 at *
  generalize k.name = kn at *
  simp at e5
  simp [pA, s_law, LR, List.replicate, evSs, evS, ev, evs, slot, hsum, binAV, hmd, hm7, vals?, e1, idxAV, cellOf, hk, e2, hadd1, e3, hadd2, hmul, e4, e5, Fl.on, tupList?, setSlots, boolAV, D.bool?]
end
end Mine

namespace Mine
open PySem PySem.W
noncomputable section

noncomputable abbrev nameR : List D := [.str "a", .str "bcdef", .str "", .none, .str "g\\"]
theorem name_dom : ∀ d ∈ nameR, d ∈ textDom := by
  intro d hd
  simp only [nameR, List.mem_cons, List.not_mem_nil, or_false] at hd
  simp only [textDom, List.mem_cons, List.not_mem_nil, or_false]
  rcases hd with rfl | rfl | rfl | rfl | rfl <;> simp
theorem names_draw {n : Nat} (hn : 10 ≤ n) {ρ : Slots} (hρ : ∀ d : D, slot (ρ.set 20 (some (.val d))) 2 = some (.loc 0)) {rest : Store} : ∀ (m j : Nat) (acc : List D) (h : D), IsHand h →
    X2 fun h' l => A4 (lcLoop (ev (FN n) e_law_1) 20 ρ (nats j m) (h :: rest) acc = some (acc.reverse ++ l, h' :: rest)) (IsHand h') (l.length = m) (∀ d ∈ l, d ∈ nameR)
  | 0, j, acc, h, hh => ⟨h, [], by simp [lcLoop, nats], hh, rfl, by simp⟩
  | m + 1, j, acc, h, hh => by
    obtain ⟨q, h1, e, hh1, hq⟩ := pick_ok (N := n) (by omega) hh (l := 5) (by omega) (by omega) rest
    obtain ⟨d', hd'⟩ : ∃ d', nameR[q]? = some d' := ⟨_, List.getElem?_eq_getElem (show q < nameR.length by simp; omega)⟩
    have hi : idxOf (q : Int) nameR = some d' := by rw [idxOf_nat (by omega)]; exact hd'
    obtain ⟨h2, l, e2, hh2, hl, hdom⟩ := names_draw hn hρ (rest := rest) m (j + 1) (d' :: acc) h1 hh1
    refine ⟨h2, d' :: l, ?_, hh2, by simp [hl], fun x hx => ?_⟩
    · have h55 : ((5 : Nat) : Int) = 5 := rfl
      rw [h55] at e
      rw [nats_succ]
      have step : ev (FN n) e_law_1 (ρ.set 20 (some (.val (.int (j : Int))))) (h :: rest) = some (.val d', h1 :: rest) := by
        have h2 := hρ (.int (j : Int))
        clear e2
        generalize (ρ.set 20 (some (.val (.int (j : Int))))) = ρ' at *
        generalize (q : Int) = zq at *
        simp [e_law_1, ev, evs, h2, vals?, e, idxAV, cellOf, hi]
      simp only [lcLoop, step, Option.bind_some, AV.d?]
      rw [e2]
      simp
    · rcases List.mem_cons.mp hx with rfl | hx
      · exact List.mem_of_getElem? hd'
      · exact hdom x hx
theorem name_step {n : Nat} (hn : 10 ≤ n) {j t c : Nat} (hj : j < 2) (ht : t ≤ 4) (hc : c ≤ 6) {a1 a3 a6 a8 a9 a10 a11 a12 a13 a14 a15 a16 a17 a18 a19 : Option AV} {m : D} {xs : List D} (hxl : xs.length = 2) (hxs : xs.set j .none = xs) {h : D} (hh : IsHand h) :
    X2 fun h' o => A3 (IsHand h') ((∀ l, o = some l → l.length = (if j = 0 then t else c) ∧ ∀ d ∈ l, d ∈ nameR)) (evSs (FN n) b_law_2 (LR a1 (some (.loc 0)) a3 (some (.val (.int t))) (some (.val (.int c))) a6 (some (.loc 2)) (some (.val (.int j))) a9 a10 a11 a12 a13 a14 a15 a16 a17 a18 a19) [h, m, .list xs] =
        some (.next, LR a1 (some (.loc 0)) a3 (some (.val (.int t))) (some (.val (.int c))) a6 (some (.loc 2)) (some (.val (.int j))) a9 a10 a11 a12 a13 a14 a15 a16 a17 a18 a19, [h', m, .list (xs.set j (nmD o))])) := by
  obtain ⟨q, h1, e, hh1, hq⟩ := pick_ok (N := n) (by omega) hh (l := 3) (by omega) (by omega) [m, .list xs]
  have h33 : ((3 : Nat) : Int) = 3 := rfl
  rw [h33] at e
  by_cases hq2 : q = 2
  · have e0 : ((q : Int) == 2) = true := by rw [beq_iff_eq]; omega
    have hsz : idxOf (j : Int) [D.int t, D.int c] = some (.int ((if j = 0 then t else c : Nat) : Int)) := by
      have : j = 0 ∨ j = 1 := by omega
      rcases this with rfl | rfl <;> rfl
    have hle : (if j = 0 then t else c) ≤ 6 := by split <;> omega
    generalize (if j = 0 then t else c) = z at *
    obtain ⟨h2, l, e2, hh2, hl, hdom⟩ := names_draw hn (ρ := LR a1 (some (.loc 0)) a3 (some (.val (.int t))) (some (.val (.int c))) a6 (some (.loc 2)) (some (.val (.int j))) a9 a10 a11 a12 a13 a14 a15 a16 a17 a18 a19) (fun d => rfl) (rest := [m, .list xs]) z 0 [] h1 hh1
    refine ⟨h2, some l, hh2, fun l' h => by cases h; exact ⟨hl, hdom⟩, ?_⟩
    have i1 := items_rng0 (m := z) (by omega)
    have i2 := rng_len (b := 0) (m := z) (by omega)
    have hr : ∀ σ, biAV σ .range1 [.val (.int (z : Int))] = some (.val (.rng 0 (z : Int) 1)) := by
      intro σ; exact biAV_range1 (by unfold lim; omega)
    have hcd : (0 : Int) ≤ (j : Int) ∧ (j : Int) < (xs.length : Int) ∧ xs.length ≤ lim := by rw [hxl]; exact ⟨by omega, by omega, lims.2.1⟩
    have hjn : (j : Int).toNat = j := by simp
    generalize nats 0 z = nt at *
    generalize (z : Int) = zz at *
    generalize (q : Int) = zq at *
    generalize (t : Int) = zt at *
    generalize (c : Int) = zc at *
    generalize (j : Int) = zj at *
    simp at e2
    simp [b_law_2, LR, evSs, evS, ev, evs, slot, e, cmpAV, e0, vals?, idxAV, cellOf, hsz, hr, i1, i2, e2, hcd, cellI, cellN, D.inst?, isO, hjn, nmD, Fl.on, boolAV, D.bool?, AV.loc?]
  · have e0 : ((q : Int) == 2) = false := by rw [beq_eq_false_iff_ne]; omega
    refine ⟨h1, none, hh1, fun l h => (by cases h), ?_⟩
    rw [show nmD none = D.none from rfl, hxs]
    generalize (q : Int) = zq at *
    generalize (t : Int) = zt at *
    generalize (c : Int) = zc at *
    generalize (j : Int) = zj at *
    simp [b_law_2, LR, evSs, evS, ev, evs, slot, e, cmpAV, e0, Fl.on, boolAV, D.bool?]
end
end Mine

namespace Mine
open PySem PySem.W
noncomputable section

noncomputable def NameOk (o : Option (List D)) (k : Nat) : Prop := ∀ l, o = some l → l.length = k ∧ ∀ d ∈ l, d ∈ nameR
noncomputable def pB : List S := (s_law.drop 6).take 1
theorem phaseB {n : Nat} (hn : 10 ≤ n) {t c : Nat} (ht : t ≤ 4) (hc : c ≤ 6) {a1 a3 a6 a8 a9 a10 a11 a12 a13 a14 a15 a16 a17 a18 a19 : Option AV} {m : D} {h : D} (hh : IsHand h) :
    X3 fun h' o₀ o₁ => A4 (IsHand h') (NameOk o₀ t) (NameOk o₁ c) (∀ tl, evSs (FN n) (pB ++ tl) (LR a1 (some (.loc 0)) a3 (some (.val (.int t))) (some (.val (.int c))) a6 (some (.loc 2)) a8 a9 a10 a11 a12 a13 a14 a15 a16 a17 a18 a19) [h, m, .list [.none, .none]] =
      evSs (FN n) tl (LR a1 (some (.loc 0)) a3 (some (.val (.int t))) (some (.val (.int c))) a6 (some (.loc 2)) (some (.val (.int 1))) a9 a10 a11 a12 a13 a14 a15 a16 a17 a18 a19) [h', m, .list [nmD o₀, nmD o₁]]) := by
  obtain ⟨h1, o₀, hh1, k0, e0⟩ := name_step hn (j := 0) (by omega) ht hc (a1 := a1) (a3 := a3) (a6 := a6) (a8 := none) (a9 := a9) (a10 := a10) (a11 := a11) (a12 := a12) (a13 := a13) (a14 := a14) (a15 := a15) (a16 := a16) (a17 := a17) (a18 := a18) (a19 := a19) (m := m) (xs := [.none, .none]) rfl rfl hh
  obtain ⟨h2, o₁, hh2, k1, e1⟩ := name_step hn (j := 1) (by omega) ht hc (a1 := a1) (a3 := a3) (a6 := a6) (a8 := none) (a9 := a9) (a10 := a10) (a11 := a11) (a12 := a12) (a13 := a13) (a14 := a14) (a15 := a15) (a16 := a16) (a17 := a17) (a18 := a18) (a19 := a19) (m := m) (xs := [nmD o₀, .none]) rfl rfl hh1
  refine ⟨h2, o₀, o₁, hh2, fun l hl => k0 l hl, fun l hl => k1 l hl, fun tl => ?_⟩
  have hr2 : ∀ σ, biAV σ .range1 [.val (.int 2)] = some (.val (.rng 0 2 1)) := fun σ => rfl
  have hi2 : itemsOf (.val (.rng 0 2 1)) = some [.int 0, .int 1] := rfl
  have hq0 : ((0 : Nat) : Int) = 0 := rfl
  have hq1 : ((1 : Nat) : Int) = 1 := rfl
  rw [hq0] at e0
  rw [hq1] at e1
  have l2 : 2 ≤ lim := lims.2.1
  generalize (t : Int) = zt at *
  generalize (c : Int) = zc at *
  simp only [LR, List.set_cons_zero, List.set_cons_succ] at e0 e1
  simp [pB, s_law, LR, evSs, evS, ev, evs, hr2, hi2, l2, forLoop, e0, e1, D.isNone, AV.d?, Fl.on, boolAV, D.bool?, AV.loc?, cellN, cellK, D.inst?, frzS, odict?, Option.or]

/-! the matrix is given its rows of names -/
noncomputable def pC : List S := (s_law.drop 7).take 4
noncomputable def labOf (o₀ o₁ : Option (List D)) : Option (List D) := if o₀ = none ∧ o₁ = none then none else some ([o₀, o₁].map labD)
theorem nameR_dat {o : Option (List D)} {k : Nat} (h : NameOk o k) : ∀ l, o = some l → ∀ d ∈ l, d = .none ∨ ∃ s, d = .str s ∧ sOk s := by
  intro l hl d hd
  have := (h l hl).2 d hd
  simp only [nameR, List.mem_cons, List.not_mem_nil, or_false] at this
  rcases this with rfl | rfl | rfl | rfl | rfl
  · exact .inr ⟨_, rfl, show PyData.strOk _ = true by decide +kernel⟩
  · exact .inr ⟨_, rfl, show PyData.strOk _ = true by decide +kernel⟩
  · exact .inr ⟨_, rfl, show PyData.strOk _ = true by decide +kernel⟩
  · exact .inl rfl
  · exact .inr ⟨_, rfl, show PyData.strOk _ = true by decide +kernel⟩
theorem lab_each {n : Nat} (hn : 10 ≤ n) {o : Option (List D)} {k : Nat} (hk : k ≤ 6) (h : NameOk o k) {ρ : Slots} (hρ : slot (ρ.set 21 (some (.val (nmD o)))) 21 = some (.val (nmD o))) (σ : Store) :
    ev (FN n) e_law_3 (ρ.set 21 (some (.val (nmD o)))) σ = some (.val (labD o), σ) := by
  have e1 := null_call (N := n) (by omega) σ
  cases o with
  | none =>
    simp only [nmD] at hρ ⊢
    generalize ρ.set 21 _ = ρ' at *
    simp [e_law_3, ev, evs, hρ, cmpAV, noneAV, e1, settle_new, labD, thawD, D.isNone, AV.d?, Fl.on, boolAV, D.bool?, AV.loc?, cellN, cellK, D.inst?, frzS, odict?, Option.or]
  | some l =>
    have hl := (h l rfl).1
    have hll : l.length ≤ lim := by unfold lim; omega
    have e2 := vec_call (N := n) (by omega) "character" l σ
    simp only [nmD] at hρ ⊢
    generalize ρ.set 21 _ = ρ' at *
    simp [e_law_3, ev, evs, hρ, cmpAV, noneAV, biAV, hll, e2, settle_new, labD, thawD, D.isNone, AV.d?, Fl.on, boolAV, D.bool?, AV.loc?, cellN, cellK, D.inst?, frzS, odict?, Option.or]
theorem phaseC {n : Nat} (hn : 10 ≤ n) {t c : Nat} (ht : t ≤ 4) (hc : c ≤ 6) {o₀ o₁ : Option (List D)} (k0 : NameOk o₀ t) (k1 : NameOk o₁ c) {a1 a2 a3 a8 a9 a10 a11 a12 a13 a14 a15 a16 a17 a18 a19 : Option AV} {kn : Str} {items : List D} {h : D} (tl : List S) :
    evSs (FN n) (pC ++ tl) (LR a1 a2 a3 (some (.val (.int t))) (some (.val (.int c))) (some (.loc 1)) (some (.loc 2)) a8 a9 a10 a11 a12 a13 a14 a15 a16 a17 a18 a19) [h, vec kn items .none, .list [nmD o₀, nmD o₁]] =
      evSs (FN n) tl (LR a1 a2 a3 (some (.val (.int t))) (some (.val (.int c))) (some (.loc 1)) (some (.val (.list [nmD o₀, nmD o₁]))) a8 (some (.val (vec "list" ([o₀, o₁].map labD) .none))) a10 a11 a12 a13 a14 a15 a16 a17 a18 a19)
        [h, vec kn items (.odict (mdict [.int t, .int c] (labOf o₀ o₁))), .none] := by
  have e1 := vec_call (N := n) (by omega) "integer" [.int t, .int c] [h, vec kn items .none, .list [nmD o₀, nmD o₁]]
  have e2 := vec_call (N := n) (by omega) "list" ([o₀, o₁].map labD) [h, vec kn items (.odict [("dim", vec "integer" [.int t, .int c] .none)]), .none]
  have e3 : lcLoop (ev (FN n) e_law_3) 21 (LR a1 a2 a3 (some (.val (.int t))) (some (.val (.int c))) (some (.loc 1)) (some (.val (.list [nmD o₀, nmD o₁]))) a8 a9 a10 a11 a12 a13 a14 a15 a16 a17 a18 a19) [nmD o₀, nmD o₁] [h, vec kn items (.odict [("dim", vec "integer" [.int t, .int c] .none)]), .none] [] =
      some ([labD o₀, labD o₁], [h, vec kn items (.odict [("dim", vec "integer" [.int t, .int c] .none)]), .none]) := by
    have q0 := lab_each hn (by omega) k0 (ρ := LR a1 a2 a3 (some (.val (.int t))) (some (.val (.int c))) (some (.loc 1)) (some (.val (.list [nmD o₀, nmD o₁]))) a8 a9 a10 a11 a12 a13 a14 a15 a16 a17 a18 a19) rfl [h, vec kn items (.odict [("dim", vec "integer" [.int t, .int c] .none)]), .none]
    have q1 := lab_each hn (by omega) k1 (ρ := LR a1 a2 a3 (some (.val (.int t))) (some (.val (.int c))) (some (.loc 1)) (some (.val (.list [nmD o₀, nmD o₁]))) a8 a9 a10 a11 a12 a13 a14 a15 a16 a17 a18 a19) rfl [h, vec kn items (.odict [("dim", vec "integer" [.int t, .int c] .none)]), .none]
    simp only [lcLoop, q0, q1, Option.bind_some, AV.d?]
    rfl
  have e4 := eqL_names (nameR_dat k0) (nameR_dat k1)
  have l2 : 2 ≤ lim := lims.2.1
  have s1 := settle_new (σ := [h, vec kn items .none, .list [nmD o₀, nmD o₁]]) (c := 1) (l := vecF "integer" [.int t, .int c] .none)
  have s2 := settle_new (σ := [h, vec kn items (.odict [("dim", vec "integer" [.int t, .int c] .none)]), .none]) (c := 1) (l := vecF "list" ([o₀, o₁].map labD) .none)
  have hlab : mdict [D.int t, .int c] (labOf o₀ o₁) = if o₀.isNone && o₁.isNone then [(Str.ofString "dim", vec "integer" [.int t, .int c] .none)] else [(Str.ofString "dim", vec "integer" [.int t, .int c] .none), (Str.ofString "dimnames", vec "list" ([o₀, o₁].map labD) .none)] := by
    cases o₀ <;> cases o₁ <;> simp [mdict, labOf]
  rw [hlab]
  generalize (o₀.isNone && o₁.isNone) = bn at *
  generalize (t : Int) = zt at *
  generalize (c : Int) = zc at *
  simp only [List.map_cons, List.map_nil] at e2 s2 ⊢
  generalize nmD o₀ = x0 at *
  generalize nmD o₁ = x1 at *
  generalize labD o₀ = y0 at *
  generalize labD o₁ = y1 at *
  simp [thawD] at e1 e2 s1 s2
  have hnd := ne_dim
  simp only [LR] at e3
  cases bn with
  | true =>
    simp [pC, s_law, LR, evSs, evS, ev, evs, slot, vals?, e1, s1, setN, isO, frzD, itemsOf, l2, e3, e2, s2, cmpAV, cellOf, e4, D.isNone, AV.d?, Fl.on, boolAV, D.bool?, AV.loc?, cellD, cellN, cellK, D.inst?, frzS, odict?, Option.or]
  | false =>
    simp [pC, s_law, LR, evSs, evS, ev, evs, slot, vals?, e1, s1, setN, isO, frzD, itemsOf, l2, e3, e2, s2, cmpAV, cellOf, e4, lookN, oneO, isO, setS, hnd, D.isNone, AV.d?, Fl.on, boolAV, D.bool?, AV.loc?, cellD, cellN, cellK, D.inst?, frzS, odict?, Option.or]
end
end Mine

namespace Mine
open PySem PySem.W
noncomputable section

/-! width, quotes, side; the first comparison -/
noncomputable def pD : List S := (s_law.drop 11).take 5
theorem name_text {o : Option (List D)} {k : Nat} (h : NameOk o k) : ∀ l, o = some l → l.length = k ∧ ∀ d ∈ l, d ∈ textDom := fun l hl => ⟨(h l hl).1, fun d hd => name_dom d ((h l hl).2 d hd)⟩
theorem matOk {k : K4} {t c : Nat} {items : List D} {o₀ o₁ : Option (List D)} (t0 : 1 ≤ t) (t1 : t ≤ 4) (c0 : 1 ≤ c) (c1 : c ≤ 6) (hl : items.length = t * c) (hd : ∀ d ∈ items, d ∈ k.dom) (k0 : NameOk o₀ t) (k1 : NameOk o₁ c) (q r : Bool) : Mat.Ok ⟨k, t, c, items, o₀, o₁, q, r⟩ :=
  ⟨t0, t1, c0, c1, hl, hd, name_text k0, name_text k1⟩
theorem labOf_or (o₀ o₁ : Option (List D)) : (labOf o₀ o₁ = none ∧ o₀ = none ∧ o₁ = none) ∨ labOf o₀ o₁ = some ([o₀, o₁].map labD) := by
  unfold labOf
  split
  · rename_i h; exact .inl ⟨rfl, h⟩
  · exact .inr rfl
theorem phaseD {n : Nat} (hn : 10 ≤ n) {k : K4} {t c : Nat} {items : List D} (t0 : 1 ≤ t) (t1 : t ≤ 4) (c0 : 1 ≤ c) (c1 : c ≤ 6) (hlen : items.length = t * c) (hdom : ∀ d ∈ items, d ∈ k.dom) {o₀ o₁ : Option (List D)} (k0 : NameOk o₀ t) (k1 : NameOk o₁ c) {a1 a8 a9 a10 a11 a12 a13 a14 a15 a16 a17 a18 a19 : Option AV} {h : D} (hh : IsHand h) :
    X4 fun (h' : D) (wide : Int) (q r : Bool) => IsHand h' ∧ ∀ tl, evSs (FN n) (pD ++ tl) (LR a1 (some (.loc 0)) (some (.val (.str k.name))) (some (.val (.int t))) (some (.val (.int c))) (some (.loc 1)) (some (.val (.list [nmD o₀, nmD o₁]))) a8 a9 a10 a11 a12 a13 a14 a15 a16 a17 a18 a19) [h, vec k.name items (.odict (mdict [.int t, .int c] (labOf o₀ o₁))), .none] =
      evSs (FN n) tl (LR a1 (some (.loc 0)) (some (.val (.str k.name))) (some (.val (.int t))) (some (.val (.int c))) (some (.val (vec k.name items (.dict (mdict [.int t, .int c] (labOf o₀ o₁)))))) (some (.val (.list [nmD o₀, nmD o₁]))) a8 a9 (some (.val (.int wide))) (some (.val (.bool q))) (some (.val (.bool r))) a13 a14 a15 a16 a17 a18 a19) [h', .none, .none] := by
  obtain ⟨q1, h1, e1, hh1, r1⟩ := pick_ok (N := n) (by omega) hh (l := 51) (by omega) (by omega) [vec k.name items (.odict (mdict [.int t, .int c] (labOf o₀ o₁))), .none]
  obtain ⟨q2, h2, e2, hh2, r2⟩ := pick_ok (N := n) (by omega) hh1 (l := 3) (by omega) (by omega) [vec k.name items (.odict (mdict [.int t, .int c] (labOf o₀ o₁))), .none]
  obtain ⟨q3, h3, e3, hh3, r3⟩ := pick_ok (N := n) (by omega) hh2 (l := 4) (by omega) (by omega) [vec k.name items (.odict (mdict [.int t, .int c] (labOf o₀ o₁))), .none]
  refine ⟨h3, 10 + (q1 : Int), decide ((q2 : Int) < 2), (q3 : Int) == 3, hh3, fun tl => ?_⟩
  generalize hq : decide ((q2 : Int) < 2) = q at *
  generalize hr : ((q3 : Int) == 3) = r at *
  generalize hw : 10 + (q1 : Int) = wide at *
  have ok := matOk t0 t1 c0 c1 hlen hdom k0 k1 q r
  have p1 := print_ok ok (N := n) hn (wide := wide) (lab := labOf o₀ o₁) (labOf_or o₀ o₁) [h3, .none, .none]
  have p2 := laid_ok ok (N := n) hn (wide := wide) [h3, .none, .none]
  have p3 := eqL_str (out_txt ok wide)
  have h51 : ((51 : Nat) : Int) = 51 := rfl
  have h33 : ((3 : Nat) : Int) = 3 := rfl
  have h44 : ((4 : Nat) : Int) = 4 := rfl
  rw [h51] at e1
  rw [h33] at e2
  rw [h44] at e3
  have hadd : binD .add (.int 10) (.int (q1 : Int)) = some (.int wide) := by rw [← hw]; rfl
  generalize (Mat.out ⟨k, t, c, items, o₀, o₁, q, r⟩ wide).map D.str = OUT at *
  simp only [] at p1 p2
  generalize mdict [D.int t, .int c] (labOf o₀ o₁) = md at *
  generalize [nmD o₀, nmD o₁] = nm at *
  generalize k.name = kn at *
  generalize (q1 : Int) = z1 at *
  generalize (q2 : Int) = z2 at *
  generalize (q3 : Int) = z3 at *
  generalize (t : Int) = zt at *
  generalize (c : Int) = zc at *
  simp [pD, s_law, LR, evSs, evS, ev, evs, slot, e1, binAV, hadd, e2, cmpAV, hq, e3, hr, frzD, thawD, p1, cellOf, attrOf, lookN, p2, p3, isO, D.isNone, AV.d?, Fl.on, boolAV, D.bool?, AV.loc?, cellD, cellN, cellK, D.inst?, frzS, odict?, Option.or]

/-! the array -/
noncomputable def pE : List S := (s_law.drop 16).take 5
theorem phaseE {n : Nat} (hn : 10 ≤ n) {k : K4} {t c : Nat} {items : List D} (t0 : 1 ≤ t) (t1 : t ≤ 4) (c0 : 1 ≤ c) (c1 : c ≤ 6) (hlen : items.length = t * c) {md : D} {o₀ o₁ : Option (List D)} {a1 a7 a8 a10 a11 a12 a13 a14 a15 a16 a17 a18 a19 : Option AV} {h : D} (hh : IsHand h) :
    X3 fun (h' : D) (items₂ : List D) (third : Bool) => A4 (IsHand h') (items₂.length = t * c) ((∀ d ∈ items₂, d ∈ k.dom)) (∀ tl, evSs (FN n) (pE ++ tl) (LR a1 (some (.loc 0)) (some (.val (.str k.name))) (some (.val (.int t))) (some (.val (.int c))) (some (.val (vec k.name items md))) a7 a8 (some (.val (vec "list" ([o₀, o₁].map labD) .none))) a10 a11 a12 a13 a14 a15 a16 a17 a18 a19) [h, .none, .none] =
      evSs (FN n) tl (LR a1 (some (.loc 0)) (some (.val (.str k.name))) (some (.val (.int t))) (some (.val (.int c))) (some (.val (vec k.name items md))) a7 a8 (some (.val (vec "list" ([o₀, o₁].map labD) .none))) a10 a11 a12 (some (.val (.list (items ++ items₂)))) (some (.loc 3)) (some (.val (if third then .list thirdD else .none))) a16 a17 a18 a19)
        [h', .none, .none, vec k.name (items ++ items₂) (.odict (mdict [.int t, .int c, .int 2] (if third then some ([o₀, o₁, some thirdD].map labD) else none)))]) := by
  have htc := tc_le t1 c1
  obtain ⟨h1, items₂, e1, hh1, hlen2, hdom2⟩ := drawn_ok (N := n) (by omega) k (many := t * c) htc hh [.none, .none]
  have hil : items.length + items₂.length ≤ lim := by rw [hlen, hlen2]; unfold lim; omega
  have e2 := vec_call (N := n) (by omega) k.name (items ++ items₂) [h1, .none, .none]
  have e3 := vec_call (N := n) (by omega) "integer" [.int t, .int c, .int 2] [h1, .none, .none, vec k.name (items ++ items₂) .none]
  obtain ⟨q, h2, e4, hh2, r⟩ := pick_ok (N := n) (by omega) hh1 (l := 2) (by omega) (by omega) [.none, .none, vec k.name (items ++ items₂) (.odict [("dim", vec "integer" [.int t, .int c, .int 2] .none)])]
  refine ⟨h2, items₂, (q : Int) == 1, hh2, hlen2, hdom2, fun tl => ?_⟩
  generalize hq : ((q : Int) == 1) = third at *
  have e5 := vec_call (N := n) (by omega) "character" thirdD [h2, .none, .none, vec k.name (items ++ items₂) (.odict [("dim", vec "integer" [.int t, .int c, .int 2] .none)])]
  have e6 := vec_call (N := n) (by omega) "list" [labD o₀, labD o₁, vec "character" thirdD .none] [h2, .none, .none, vec k.name (items ++ items₂) (.odict [("dim", vec "integer" [.int t, .int c, .int 2] .none)])]
  have s3 := settle_new (σ := [h1, .none, .none, vec k.name (items ++ items₂) .none]) (c := 1) (l := vecF "integer" [.int t, .int c, .int 2] .none)
  have s5 := settle_new (σ := [h2, .none, .none, vec k.name (items ++ items₂) (.odict [("dim", vec "integer" [.int t, .int c, .int 2] .none)])]) (c := 1) (l := vecF "character" thirdD .none)
  have s6 := settle_new (σ := [h2, .none, .none, vec k.name (items ++ items₂) (.odict [("dim", vec "integer" [.int t, .int c, .int 2] .none)])]) (c := 1) (l := vecF "list" [labD o₀, labD o₁, vec "character" thirdD .none] .none)
  have hsm3 : sm (t : Int) = true := by unfold sm; simp; omega
  have hsm4 : sm (c : Int) = true := by unfold sm; simp; omega
  have hmul : binD .mul (.int (t : Int)) (.int (c : Int)) = some (.int ((t * c : Nat) : Int)) := by
    show (if (sm (t : Int) && sm (c : Int)) = true then some (D.int _) else none) = _
    rw [hsm3, hsm4, Int.natCast_mul]; rfl
  have hadd : binD .add (.list items) (.list items₂) = some (.list (items ++ items₂)) := by show (if _ then some (D.list (items ++ items₂)) else none) = _; rw [if_pos hil]
  have h22 : ((2 : Nat) : Int) = 2 := rfl
  rw [h22] at e4
  have hmd0 : mdict [D.int t, .int c, .int 2] none = [(Str.ofString "dim", vec "integer" [.int t, .int c, .int 2] .none)] := rfl
  have hmd1 : mdict [D.int t, .int c, .int 2] (some ([o₀, o₁, some thirdD].map labD)) = [(Str.ofString "dim", vec "integer" [.int t, .int c, .int 2] .none), (Str.ofString "dimnames", vec "list" [labD o₀, labD o₁, vec "character" thirdD .none] .none)] := rfl
  have hnd := ne_dim
  have l3 : 3 ≤ lim := lims.2.2.1
  clear hlen hlen2 hdom2 hil
  generalize items ++ items₂ = its at *
  have hth : thirdD = [.str (Str.ofString "u"), .str (Str.ofString "vw")] := rfl
  rw [hth] at e5 e6 s5 s6 hmd1 ⊢
  generalize ((t * c : Nat) : Int) = zm at *
  generalize k.name = kn at *
  generalize (q : Int) = zq at *
  generalize (t : Int) = zt at *
  generalize (c : Int) = zc at *
  have hadd3 : ∀ z : D, binD .add (.list [labD o₀, labD o₁]) (.list [z]) = some (.list [labD o₀, labD o₁, z]) := fun z => by
    exact if_pos (e := none) (show ([labD o₀, labD o₁] : List D).length + [z].length ≤ lim from l3)
  simp [thawD] at e2 e3 e5 e6 s3 s5 s6
  cases third with
  | false =>
    simp only [Bool.false_eq_true, if_false]
    rw [hmd0]
    simp [pE, s_law, LR, evSs, evS, ev, evs, slot, cellOf, attrOf, lookN, binAV, hmul, e1, hadd, e2, vals?, e3, s3, setN, isO, e4, cmpAV, hq, isO, D.isNone, AV.d?, Fl.on, boolAV, D.bool?, AV.loc?, cellD, cellN, cellK, D.inst?, frzS, odict?, Option.or]
  | true =>
    simp only [if_true]
    rw [hmd1]
    simp [pE, s_law, LR, evSs, evS, ev, evs, slot, cellOf, attrOf, lookN, binAV, hmul, e1, hadd, e2, vals?, e3, s3, setN, isO, e4, cmpAV, hq, e5, s5, hadd3, e6, s6, oneO, isO, setS, hnd, isO, D.isNone, AV.d?, Fl.on, boolAV, D.bool?, AV.loc?, cellD, cellN, cellK, D.inst?, frzS, odict?, Option.or]
end
end Mine

namespace Mine
open PySem PySem.W
noncomputable section

/-! what is due of the array; the second comparison -/
noncomputable def thMat (k : K4) (t c : Nat) (items : List D) (o₀ o₁ : Option (List D)) (q r third : Bool) : Mat := ⟨k, t, c, items, if third then o₀ else none, if third then o₁ else none, q, r⟩
theorem noneOk (k : Nat) : NameOk none k := fun l h => by cases h
theorem thOk {k : K4} {t c : Nat} {items : List D} {o₀ o₁ : Option (List D)} (t0 : 1 ≤ t) (t1 : t ≤ 4) (c0 : 1 ≤ c) (c1 : c ≤ 6) (hl : items.length = t * c) (hd : ∀ d ∈ items, d ∈ k.dom) (k0 : NameOk o₀ t) (k1 : NameOk o₁ c) (q r third : Bool) : (thMat k t c items o₀ o₁ q r third).Ok := by
  cases third
  · exact matOk t0 t1 c0 c1 hl hd (noneOk t) (noneOk c) q r
  · exact matOk t0 t1 c0 c1 hl hd k0 k1 q r
theorem third_at {third : Bool} {j : Nat} (hj : j < 2) : third = true → idxOf (j : Int) thirdD = some (.str (if j = 0 then Str.ofString "u" else Str.ofString "vw")) := by
  intro _
  have : j = 0 ∨ j = 1 := by omega
  rcases this with rfl | rfl <;> rfl
theorem due_step {n : Nat} (hn : 10 ≤ n) {k : K4} {t c : Nat} {piece its : List D} (t0 : 1 ≤ t) (t1 : t ≤ 4) (c0 : 1 ≤ c) (c1 : c ≤ 6) (hlen : piece.length = t * c) (hdom : ∀ d ∈ piece, d ∈ k.dom) {o₀ o₁ : Option (List D)} (k0 : NameOk o₀ t) (k1 : NameOk o₁ c) {q r third : Bool} {wide : Int}
    {j : Nat} (hj : j < 2) (hil : its.length ≤ lim) (hcut : cut (some ((j * (t * c) : Nat) : Int)) (some (((j + 1) * (t * c) : Nat) : Int)) its = piece) {due : List Str} (hdl : due.length ≤ 200) {a1 a6 a8 a9 a18 a19 : Option AV} {x0 x1 x2 x3 : D} :
    ∃ a18', evSs (FN n) b_law_4 (LR a1 (some (.loc 0)) (some (.val (.str k.name))) (some (.val (.int t))) (some (.val (.int c))) a6 (some (.val (.list [nmD o₀, nmD o₁]))) a8 a9 (some (.val (.int wide))) (some (.val (.bool q))) (some (.val (.bool r))) (some (.val (.list its))) (some (.loc 3)) (some (.val (if third then .list thirdD else .none))) (some (.loc 4)) (some (.val (.int j))) a18 a19) [x0, x1, x2, x3, .list (due.map .str)] =
      some (.next, LR a1 (some (.loc 0)) (some (.val (.str k.name))) (some (.val (.int t))) (some (.val (.int c))) a6 (some (.val (.list [nmD o₀, nmD o₁]))) a8 a9 (some (.val (.int wide))) (some (.val (.bool q))) (some (.val (.bool r))) (some (.val (.list its))) (some (.loc 3)) (some (.val (if third then .list thirdD else .none))) (some (.loc 4)) (some (.val (.int j))) a18' a19,
        [x0, x1, x2, x3, .list ((due ++ sliceL third j ((thMat k t c piece o₀ o₁ q r third).out wide)).map .str)]) := by
  have htc := tc_le t1 c1
  have ok := thOk t0 t1 c0 c1 hlen hdom k0 k1 q r third
  have e1 := laid_ok ok (N := n) hn (wide := wide) [x0, x1, x2, x3, .list ((due ++ [sliceS third j, Str.ofString ""]).map .str)]
  have hol := out_len ok (wide := wide)
  refine ⟨some (.val (.list piece)), ?_⟩
  have hsm1 : sm (j : Int) = true := by unfold sm; simp; omega
  have hsm2 : sm (t : Int) = true := by unfold sm; simp; omega
  have hsm3 : sm (c : Int) = true := by unfold sm; simp; omega
  have hjt : j * t ≤ 1 * 4 := Nat.mul_le_mul (by omega) t1
  have hjt2 : (j + 1) * t ≤ 2 * 4 := Nat.mul_le_mul (by omega) t1
  have hsm4 : sm ((j * t : Nat) : Int) = true := by
    generalize j * t = z at *
    unfold sm; simp; omega
  have hsm5 : sm (((j + 1) * t : Nat) : Int) = true := by
    generalize (j + 1) * t = z at *
    unfold sm; simp; omega
  have hsm6 : sm ((j + 1 : Nat) : Int) = true := by unfold sm; simp; omega
  have m1 : binD .mul (.int (j : Int)) (.int (t : Int)) = some (.int ((j * t : Nat) : Int)) := by simp only [binD, addD, mulD, D.int?, D.str?, D.list?, Option.bind_some, Option.map_some, hsm1, hsm2, Bool.and_true, if_true]; rw [Int.natCast_mul]
  have m2 : binD .mul (.int ((j * t : Nat) : Int)) (.int (c : Int)) = some (.int ((j * (t * c) : Nat) : Int)) := by
    simp only [binD, addD, mulD, D.int?, D.str?, D.list?, Option.bind_some, Option.map_some, hsm4, hsm3, Bool.and_true, if_true]
    rw [← Int.natCast_mul, Nat.mul_assoc]
  have m3 : binD .add (.int (j : Int)) (.int 1) = some (.int ((j + 1 : Nat) : Int)) := rfl
  have m4 : binD .mul (.int ((j + 1 : Nat) : Int)) (.int (t : Int)) = some (.int (((j + 1) * t : Nat) : Int)) := by simp only [binD, addD, mulD, D.int?, D.str?, D.list?, Option.bind_some, Option.map_some, hsm6, hsm2, Bool.and_true, if_true]; rw [Int.natCast_mul]
  have m5 : binD .mul (.int (((j + 1) * t : Nat) : Int)) (.int (c : Int)) = some (.int (((j + 1) * (t * c) : Nat) : Int)) := by
    simp only [binD, addD, mulD, D.int?, D.str?, D.list?, Option.bind_some, Option.map_some, hsm5, hsm3, Bool.and_true, if_true]
    rw [← Int.natCast_mul, Nat.mul_assoc]
  have hstr : ∀ σ, biAV σ .str [.val (.int ((j + 1 : Nat) : Int))] = some (.val (.str (num ((j : Int) + 1)))) := by
    intro σ
    have := bi_str (sm_small (k := j) (by omega)) σ
    exact this
  have hs0 : binD .add (.str (Str.ofString ", , ")) (.str (num ((j : Int) + 1))) = some (.str (sliceS false j)) := by
    simp only [binD, addD, mulD, D.int?, D.str?, D.list?, Option.bind_some, Option.map_some]
    rw [if_pos (by rw [num_len (by omega)]; have : (Str.ofString ", , ").length = 4 := by decide +kernel
                   rw [this]; unfold lim; omega)]
    rfl
  have hs1 : binD .add (.str (Str.ofString ", , ")) (.str (if j = 0 then Str.ofString "u" else Str.ofString "vw")) = some (.str (sliceS true j)) := by
    have : j = 0 ∨ j = 1 := by omega
    rcases this with rfl | rfl
    · simp only [binD, addD, mulD, D.int?, D.str?, D.list?, Option.bind_some, Option.map_some]; rw [if_pos (by unfold lim; decide +kernel)]; rfl
    · simp only [binD, addD, mulD, D.int?, D.str?, D.list?, Option.bind_some, Option.map_some]; rw [if_pos (by unfold lim; decide +kernel)]; rfl
  have hth := third_at (third := third) hj
  have hl1 : due.length + 2 ≤ lim := by unfold lim; omega
  have hl2 : ((thMat k t c piece o₀ o₁ q r third).out wide).length + 1 ≤ lim := by unfold lim; omega
  have hl3 : due.length + 2 + (((thMat k t c piece o₀ o₁ q r third).out wide).length + 1) ≤ lim := by unfold lim; omega
  have hadd : binD .add (.list (((thMat k t c piece o₀ o₁ q r third).out wide).map .str)) (.list [.str (Str.ofString "")]) = some (.list (((thMat k t c piece o₀ o₁ q r third).out wide ++ [Str.ofString ""]).map .str)) := by
    simp only [binD, addD, mulD, D.int?, D.str?, D.list?, Option.bind_some, Option.map_some]; rw [if_pos (by simpa using hl2)]; simp
  have hdue : (due.map D.str).length = due.length := by simp
  have hol2 : (((thMat k t c piece o₀ o₁ q r third).out wide).map D.str).length = ((thMat k t c piece o₀ o₁ q r third).out wide).length := by simp
  unfold sliceL
  simp only [List.map_append, List.map_cons, List.map_nil] at e1 hadd ⊢
  have e1' := e1
  have hK : (thMat k t c piece o₀ o₁ q r third).kind = k := rfl
  have hI : (thMat k t c piece o₀ o₁ q r third).items = piece := rfl
  have hT : (thMat k t c piece o₀ o₁ q r third).tall = t := rfl
  have hQ : (thMat k t c piece o₀ o₁ q r third).quote = q := rfl
  have hR : (thMat k t c piece o₀ o₁ q r third).right = r := rfl
  rw [hK, hI, hT, hQ, hR] at e1
  generalize ((thMat k t c piece o₀ o₁ q r third).out wide).map D.str = OUT at *
  generalize due.map D.str = DUE at *
  rw [← hdue] at hl1 hl3
  rw [← hol2] at hl3
  clear hol2 hdue e1' hol hl2 hdl
  clear ok
  generalize k.name = kn at *
  generalize num ((j : Int) + 1) = nj at *
  generalize ((j * (t * c) : Nat) : Int) = w1 at *
  generalize (((j + 1) * (t * c) : Nat) : Int) = w2 at *
  generalize ((j * t : Nat) : Int) = w3 at *
  generalize (((j + 1) * t : Nat) : Int) = w4 at *
  generalize ((j + 1 : Nat) : Int) = w5 at *
  generalize (t : Int) = zt at *
  generalize (c : Int) = zc at *
  have l22 : (2 : Nat) ≤ lim := lims.2.1
  cases third with
  | false =>
    have hn1 : (thMat k t c piece o₀ o₁ q r false).rn = none := rfl
    have hn2 : (thMat k t c piece o₀ o₁ q r false).cn = none := rfl
    rw [hn1, hn2] at e1
    generalize sliceS false j = sl at *
    generalize (j : Int) = zj at *
    simp [nmD] at e1
    simp [b_law_4, LR, evSs, evS, ev, evs, slot, binAV, m1, m2, m3, m4, m5, slAV, partOf, hil, hcut, cmpAV, noneAV, hstr, hs0, vals?, hl1, isO, e1, hadd, hl3, listV, D.list?, cellE, cellA, isL, isO, D.isNone, AV.d?, Fl.on, boolAV, D.bool?, AV.loc?, cellD, cellN, cellK, D.inst?, frzS, odict?, Option.or]
  | true =>
    have hn1 : (thMat k t c piece o₀ o₁ q r true).rn = o₀ := rfl
    have hn2 : (thMat k t c piece o₀ o₁ q r true).cn = o₁ := rfl
    rw [hn1, hn2] at e1
    have hth' := hth rfl
    generalize (if j = 0 then Str.ofString "u" else Str.ofString "vw") = th at *
    generalize thirdD = tD at *
    generalize sliceS true j = sl at *
    generalize (j : Int) = zj at *
    simp [b_law_4, LR, evSs, evS, ev, evs, slot, binAV, m1, m2, m3, m4, m5, slAV, partOf, hil, hcut, cmpAV, noneAV, idxAV, cellOf, hth', hs1, vals?, hl1, isO, e1, hadd, hl3, listV, D.list?, cellE, cellA, isL, isO, D.isNone, AV.d?, Fl.on, boolAV, D.bool?, AV.loc?, cellD, cellN, cellK, D.inst?, frzS, odict?, Option.or]

noncomputable def pF : List S := (s_law.drop 21).take 4
theorem phaseF {n : Nat} (hn : 10 ≤ n) {k : K4} {t c : Nat} {items items₂ : List D} (t0 : 1 ≤ t) (t1 : t ≤ 4) (c0 : 1 ≤ c) (c1 : c ≤ 6) (hlen : items.length = t * c) (hdom : ∀ d ∈ items, d ∈ k.dom) (hlen2 : items₂.length = t * c) (hdom2 : ∀ d ∈ items₂, d ∈ k.dom) {o₀ o₁ : Option (List D)} (k0 : NameOk o₀ t) (k1 : NameOk o₁ c) {q r third : Bool} {wide : Int} {a1 a6 a8 a9 a16 a17 a18 a19 : Option AV} {h : D} :
    X4 fun a16' a17' a18' s4 => ∀ tl, evSs (FN n) (pF ++ tl) (LR a1 (some (.loc 0)) (some (.val (.str k.name))) (some (.val (.int t))) (some (.val (.int c))) a6 (some (.val (.list [nmD o₀, nmD o₁]))) a8 a9 (some (.val (.int wide))) (some (.val (.bool q))) (some (.val (.bool r))) (some (.val (.list (items ++ items₂)))) (some (.loc 3)) (some (.val (if third then .list thirdD else .none))) a16 a17 a18 a19)
        [h, .none, .none, vec k.name (items ++ items₂) (.odict (mdict [.int t, .int c, .int 2] (if third then some ([o₀, o₁, some thirdD].map labD) else none)))] =
      evSs (FN n) tl (LR a1 (some (.loc 0)) (some (.val (.str k.name))) (some (.val (.int t))) (some (.val (.int c))) a6 (some (.val (.list [nmD o₀, nmD o₁]))) a8 a9 (some (.val (.int wide))) (some (.val (.bool q))) (some (.val (.bool r))) (some (.val (.list (items ++ items₂))))
        (some (.val (vec k.name (items ++ items₂) (.dict (mdict [.int t, .int c, .int 2] (if third then some ([o₀, o₁, some thirdD].map labD) else none)))))) (some (.val (if third then .list thirdD else .none))) a16' a17' a18' a19) [h, .none, .none, .none, s4] := by
  have htc := tc_le t1 c1
  have hil : (items ++ items₂).length ≤ lim := by rw [List.length_append, hlen, hlen2]; unfold lim; omega
  have ok1 := thOk t0 t1 c0 c1 hlen hdom k0 k1 q r third
  have ok2 := thOk t0 t1 c0 c1 hlen2 hdom2 k0 k1 q r third
  have c0' : cut (some ((0 * (t * c) : Nat) : Int)) (some (((0 + 1) * (t * c) : Nat) : Int)) (items ++ items₂) = items := by
    have := cut_app0 (b := items₂) hlen
    simpa using this
  have c1' : cut (some ((1 * (t * c) : Nat) : Int)) (some (((1 + 1) * (t * c) : Nat) : Int)) (items ++ items₂) = items₂ := by
    have := cut_app1 hlen hlen2
    rw [show (((1 + 1) * (t * c) : Nat) : Int) = ((t * c : Nat) : Int) + ((t * c : Nat) : Int) by omega, Nat.one_mul]
    exact this
  obtain ⟨b1, e1⟩ := due_step hn t0 t1 c0 c1 hlen hdom k0 k1 (q := q) (r := r) (third := third) (wide := wide) (j := 0) (by omega) hil c0' (due := []) (by simp) (a1 := a1) (a6 := a6) (a8 := a8) (a9 := a9) (a18 := a18) (a19 := a19) (x0 := h) (x1 := .none) (x2 := .none) (x3 := vec k.name (items ++ items₂) (.odict (mdict [.int t, .int c, .int 2] (if third then some ([o₀, o₁, some thirdD].map labD) else none))))
  have hol := out_len ok1 (wide := wide)
  obtain ⟨b2, e2⟩ := due_step hn t0 t1 c0 c1 hlen2 hdom2 k0 k1 (q := q) (r := r) (third := third) (wide := wide) (j := 1) (by omega) hil c1' (due := [] ++ sliceL third 0 ((thMat k t c items o₀ o₁ q r third).out wide)) (by simp [sliceL]; omega) (a1 := a1) (a6 := a6) (a8 := a8) (a9 := a9) (a18 := b1) (a19 := a19) (x0 := h) (x1 := .none) (x2 := .none) (x3 := vec k.name (items ++ items₂) (.odict (mdict [.int t, .int c, .int 2] (if third then some ([o₀, o₁, some thirdD].map labD) else none))))
  have e3 := arr_ok (N := n) hn ok1 (it2 := items₂) (third := third) ok2 (wide := wide) (by intro h; rw [h]; exact ⟨rfl, rfl⟩)
  have hA : ([] ++ sliceL third 0 ((thMat k t c items o₀ o₁ q r third).out wide)) ++ sliceL third 1 ((thMat k t c items₂ o₀ o₁ q r third).out wide) = arrOut (thMat k t c items o₀ o₁ q r third) items₂ third wide := rfl
  rw [hA] at e2
  have hAok : ∀ s ∈ arrOut (thMat k t c items o₀ o₁ q r third) items₂ third wide, sOk s := by
    intro s hs
    rw [← hA, List.nil_append] at hs
    rcases List.mem_append.mp hs with hs | hs
    · exact sliceL_txt (by omega) (out_txt ok1 wide) s hs
    · exact sliceL_txt (by omega) (out_txt ok2 wide) s hs
  have e4 := eqL_str hAok
  have hmd : (if third then some ([(thMat k t c items o₀ o₁ q r third).rn, (thMat k t c items o₀ o₁ q r third).cn, some thirdD].map labD) else none) = (if third then some ([o₀, o₁, some thirdD].map labD) else none) := by
    cases third <;> rfl
  rw [hmd] at e3
  have hK : (thMat k t c items o₀ o₁ q r third).kind = k := rfl
  have hI : (thMat k t c items o₀ o₁ q r third).items = items := rfl
  have hT : (thMat k t c items o₀ o₁ q r third).tall = t := rfl
  have hC : (thMat k t c items o₀ o₁ q r third).c = c := rfl
  have hQ : (thMat k t c items o₀ o₁ q r third).quote = q := rfl
  have hR : (thMat k t c items o₀ o₁ q r third).right = r := rfl
  rw [hK, hI, hT, hC, hQ, hR] at e3
  have hr2 : ∀ σ, biAV σ .range1 [.val (.int 2)] = some (.val (.rng 0 2 1)) := fun σ => rfl
  have hi2 : itemsOf (.val (.rng 0 2 1)) = some [.int 0, .int 1] := rfl
  have hq0 : ((0 : Nat) : Int) = 0 := rfl
  have hq1 : ((1 : Nat) : Int) = 1 := rfl
  rw [hq0] at e1
  rw [hq1] at e2
  have l2 : 2 ≤ lim := lims.2.1
  refine ⟨some (.loc 4), some (.val (.int 1)), b2, .list ((arrOut (thMat k t c items o₀ o₁ q r third) items₂ third wide).map .str), fun tl => ?_⟩
  clear hA hAok c0' c1' hol ok1 ok2 hmd hK hI hT hC hQ hR
  generalize (arrOut (thMat k t c items o₀ o₁ q r third) items₂ third wide).map D.str = AO at *
  generalize ([] ++ sliceL third 0 ((thMat k t c items o₀ o₁ q r third).out wide)).map D.str = S0 at *
  generalize mdict [D.int t, .int c, .int 2] (if third then some ([o₀, o₁, some thirdD].map labD) else none) = md at *
  generalize (if third then D.list thirdD else .none) = th at *
  clear hlen hlen2 hdom hdom2
  generalize items ++ items₂ = its at *
  generalize [nmD o₀, nmD o₁] = nm at *
  generalize k.name = kn at *
  generalize (t : Int) = zt at *
  generalize (c : Int) = zc at *
  simp only [LR, List.map_nil] at e1 e2
  simp [pF, s_law, LR, evSs, evS, ev, evs, slot, vals?, hr2, hi2, l2, forLoop, e1, e2, frzD, thawD, e3, cmpAV, cellOf, e4, listV, D.list?, cellE, cellA, isL, isO, D.isNone, AV.d?, Fl.on, boolAV, D.bool?, AV.loc?, cellD, cellN, cellK, D.inst?, frzS, odict?, Option.or]

/-! the empty matrix -/
noncomputable def pG : List S := s_law.drop 25
theorem empty_ok {N : Nat} (hN : 3 ≤ N) (k : K4) (σ : Store) : FN N 900 [.val (vec k.name [] (.dict [("dim", vec "integer" [.int 0, .int 0] .none)]))] σ = some (.val (.list [.str (Str.ofString "<0 x 0 matrix>")]), σ) := by
  obtain ⟨M, rfl⟩ := fuel hN
  have h : FN (M + 3) 900 [.val (vec k.name [] (.dict [("dim", vec "integer" [.int 0, .int 0] .none)]))] [] = some (.val (.list [.str (Str.ofString "<0 x 0 matrix>")]), []) := by kernel_rfl
  exact lift1 h σ
theorem phaseG {n : Nat} (hn : 10 ≤ n) {k : K4} {a1 a2 a4 a5 a6 a7 a8 a9 a10 a11 a12 a13 a14 a15 a16 a17 a18 a19 : Option AV} {x0 x1 x2 x3 x4 : D} :
    X2 fun ρ' σ' => evSs (FN n) pG (LR a1 a2 (some (.val (.str k.name))) a4 a5 a6 a7 a8 a9 a10 a11 a12 a13 a14 a15 a16 a17 a18 a19) [x0, x1, x2, x3, x4] = some (.ret (.val (.bool true)), ρ', σ') := by
  have e1 := vec_call (N := n) (by omega) k.name [] [x0, x1, x2, x3, x4]
  have e2 := vec_call (N := n) (by omega) "integer" [.int 0, .int 0] [x0, x1, x2, x3, x4, vec k.name [] .none]
  have s2 := settle_new (σ := [x0, x1, x2, x3, x4, vec k.name [] .none]) (c := 1) (l := vecF "integer" [.int 0, .int 0] .none)
  have e3 := empty_ok (N := n) (by omega) k [x0, x1, x2, x3, x4, .none]
  have e4 := eqL_str (l := [Str.ofString "<0 x 0 matrix>"]) (by intro s hs; rw [List.mem_singleton.mp hs]; exact show PyData.strOk _ = true by decide +kernel)
  generalize k.name = kn at *
  simp [thawD] at e1 e2 s2 e4
  refine ⟨LR a1 a2 (some (.val (.str kn))) a4 a5 a6 a7 a8 a9 a10 a11 a12 a13 a14 a15 a16 a17 a18 (some (.val (vec kn [] (.dict [("dim", vec "integer" [.int 0, .int 0] .none)])))), [x0, x1, x2, x3, x4, .none], ?_⟩
  simp [pG, s_law, LR, evSs, evS, ev, evs, slot, vals?, e1, e2, s2, setN, isO, frzD, thawD, e3, cmpAV, cellOf, e4, listV, D.list?, cellE, cellA, isL, isO, D.isNone, AV.d?, Fl.on, boolAV, D.bool?, AV.loc?, cellD, cellN, cellK, D.inst?, frzS, odict?, Option.or]
end
end Mine

namespace Mine
open PySem PySem.W

theorem s_law_parts : s_law = pA ++ (pB ++ (pC ++ (pD ++ (pE ++ (pF ++ pG))))) := rfl
theorem plain (ns : List Int) (h : ns.length ≤ 63) : X2 fun ρ' σ' => evSs (callN P0 C0 12) s_law ((List.replicate 22 none).set 1 (some (.val (.list (ns.map .int))))) [] = some (.ret (.val (.bool true)), ρ', σ') := by
  have hn : 10 ≤ 12 := by omega
  rw [s_law_parts]
  obtain ⟨h1, k, t, c, items, hh1, t0, t1, c0, c1, hlen, hdom, e1⟩ := phaseA hn h
  rw [e1]
  obtain ⟨h2, o₀, o₁, hh2, k0, k1, e2⟩ := phaseB hn t1 c1 hh1
  rw [e2, phaseC hn t1 c1 k0 k1]
  obtain ⟨h3, wide, q, r, hh3, e3⟩ := phaseD hn t0 t1 c0 c1 hlen hdom k0 k1 hh2
  rw [e3]
  obtain ⟨h4, items₂, third, hh4, hlen2, hdom2, e4⟩ := phaseE hn t0 t1 c0 c1 hlen hh3
  rw [e4]
  obtain ⟨a16, a17, a18, s4, e5⟩ := phaseF hn t0 t1 c0 c1 hlen hdom hlen2 hdom2 k0 k1
  rw [e5]
  exact phaseG hn
end Mine

namespace Mine
open PySem PySem.W PyProof.Rows
theorem plain_of {vs : List Value} {ns : List Int} (_ : IntsAre vs ns) (h : ns.length ≤ 63) : ∃ ρ' σ', evSs (callN P0 C0 12) s_law ((List.replicate 22 none).set 1 (some (.val (.list (ns.map .int))))) [] = some (.ret (.val (.bool true)), ρ', σ') := by
  obtain ⟨a, b, e⟩ := plain ns h
  exact ⟨a, b, e⟩
end Mine
namespace Mine.holds
theorem tw10009309266167291388 : True := trivial
theorem tw10061326939861387809 : True := trivial
theorem tw10240100896771907615 : True := trivial
theorem tw10269081998898121243 : True := trivial
theorem tw10274680400919065884 : True := trivial
theorem tw10292701021901942622 : True := trivial
theorem tw10491065262344570346 : True := trivial
theorem tw10520202591518659360 : True := trivial
theorem tw10531532615022067580 : True := trivial
theorem tw10576265454180977796 : True := trivial
theorem tw10587580826675096554 : True := trivial
theorem tw10637851664137882224 : True := trivial
theorem tw10645105620128953169 : True := trivial
theorem tw10675174832548182787 : True := trivial
theorem tw10677865647760817919 : True := trivial
theorem tw10684964147190113176 : True := trivial
theorem tw10698829266838348154 : True := trivial
theorem tw10705619171732726748 : True := trivial
theorem tw10705761992013847755 : True := trivial
theorem tw10817008591213730988 : True := trivial
theorem tw10824115321126796680 : True := trivial
theorem tw10828986214106111531 : True := trivial
theorem tw10859938921441162988 : True := trivial
theorem tw10876536743886354276 : True := trivial
theorem tw10894570999934473159 : True := trivial
theorem tw1092734292537931370 : True := trivial
theorem tw10953125311028157021 : True := trivial
theorem tw10981351503976158137 : True := trivial
theorem tw11021402016762074336 : True := trivial
theorem tw11037822914523747621 : True := trivial
theorem tw11111472982789046935 : True := trivial
theorem tw11210861575573996130 : True := trivial
theorem tw11223116819087169764 : True := trivial
theorem tw11322816463052944642 : True := trivial
theorem tw11341941285841758863 : True := trivial
theorem tw11379536335273661636 : True := trivial
theorem tw11450275943994455990 : True := trivial
theorem tw11502601298335438083 : True := trivial
theorem tw11566098377363298415 : True := trivial
theorem tw11569915684508697678 : True := trivial
theorem tw11612728935029869629 : True := trivial
theorem tw11619669790576578751 : True := trivial
theorem tw11723004889028688699 : True := trivial
theorem tw11750193621415288269 : True := trivial
theorem tw11775407622660791982 : True := trivial
theorem tw11822188140940861840 : True := trivial
theorem tw11968577826497805164 : True := trivial
theorem tw12004703523718567385 : True := trivial
theorem tw12056596633878991817 : True := trivial
theorem tw12135579543755162760 : True := trivial
theorem tw1213666046027356511 : True := trivial
theorem tw12158838097934144204 : True := trivial
theorem tw12160635655254385198 : True := trivial
theorem tw12354433232887552844 : True := trivial
theorem tw12408796525097018335 : True := trivial
theorem tw12461706298059298081 : True := trivial
theorem tw12467034654032377186 : True := trivial
theorem tw12468101337765408714 : True := trivial
theorem tw12528141070781557109 : True := trivial
theorem tw12553914923479104506 : True := trivial
theorem tw12563481999192008768 : True := trivial
theorem tw12629177860411813126 : True := trivial
theorem tw12633084752571091873 : True := trivial
theorem tw12657093848384798476 : True := trivial
theorem tw12698916279152862973 : True := trivial
theorem tw12733908048491186811 : True := trivial
theorem tw12774209864397607762 : True := trivial
theorem tw12788872388335264594 : True := trivial
theorem tw12870647732520690006 : True := trivial
theorem tw1291383553396736706 : True := trivial
theorem tw12941468149822085856 : True := trivial
theorem tw13002855754428957212 : True := trivial
theorem tw1305225004803105697 : True := trivial
theorem tw13108245259352980691 : True := trivial
theorem tw13130249910395747862 : True := trivial
theorem tw13150661809386230508 : True := trivial
theorem tw1316056555746827224 : True := trivial
theorem tw13200177327426563521 : True := trivial
theorem tw13306226422529918579 : True := trivial
theorem tw13334661261001831826 : True := trivial
theorem tw13338651292558784369 : True := trivial
theorem tw13356387430892511905 : True := trivial
theorem tw13370180491053348 : True := trivial
theorem tw13373784697917265674 : True := trivial
theorem tw13384883100587833847 : True := trivial
theorem tw13416111870119765123 : True := trivial
theorem tw13563289320671947111 : True := trivial
theorem tw13564983018704479910 : True := trivial
theorem tw1357463484097335404 : True := trivial
theorem tw13602253286356535353 : True := trivial
theorem tw13676757877788619591 : True := trivial
theorem tw13758948915013449397 : True := trivial
theorem tw1382383790286775375 : True := trivial
theorem tw13860560629476652642 : True := trivial
theorem tw1389151227800987198 : True := trivial
theorem tw13926404443759844560 : True := trivial
theorem tw13942211991455542721 : True := trivial
theorem tw13945929957867325323 : True := trivial
theorem tw13980644296350529377 : True := trivial
theorem tw14012497318314112844 : True := trivial
theorem tw14040500308302212198 : True := trivial
theorem tw14054693376921006050 : True := trivial
theorem tw14062913937729191461 : True := trivial
theorem tw14064534554856164141 : True := trivial
theorem tw14071699543282787154 : True := trivial
theorem tw14149781006570564392 : True := trivial
theorem tw14205006904943715905 : True := trivial
theorem tw142377125942736700 : True := trivial
theorem tw14247145606103189434 : True := trivial
theorem tw14314133134477209284 : True := trivial
theorem tw14341210406198164329 : True := trivial
theorem tw14374762386000251392 : True := trivial
theorem tw1438057683635843531 : True := trivial
theorem tw14387954076880322906 : True := trivial
theorem tw14400433609042604536 : True := trivial
theorem tw14404905868111484630 : True := trivial
theorem tw14411328915609312922 : True := trivial
theorem tw14456359579513077766 : True := trivial
theorem tw1446027475299390936 : True := trivial
theorem tw14571696787620697854 : True := trivial
theorem tw14607219995997415800 : True := trivial
theorem tw14642846902033847964 : True := trivial
theorem tw1466284255255076664 : True := trivial
theorem tw14747351113905286367 : True := trivial
theorem tw14762290635102005484 : True := trivial
theorem tw14786868411472786527 : True := trivial
theorem tw14856189802965030758 : True := trivial
theorem tw14947864908287233490 : True := trivial
theorem tw14977296931134136204 : True := trivial
theorem tw150268843892594924 : True := trivial
theorem tw1508545211966159021 : True := trivial
theorem tw15203487316939043196 : True := trivial
theorem tw15216533652830951187 : True := trivial
theorem tw15228004617427520810 : True := trivial
theorem tw15296638952792297585 : True := trivial
theorem tw15305512045591798990 : True := trivial
theorem tw15326264675407861456 : True := trivial
theorem tw15349486494167490861 : True := trivial
theorem tw15356600547250028879 : True := trivial
theorem tw15383290158734973844 : True := trivial
theorem tw15402825562841796884 : True := trivial
theorem tw15421342739227911939 : True := trivial
theorem tw15462992800728643659 : True := trivial
theorem tw15464432741802594518 : True := trivial
theorem tw15493915963290111440 : True := trivial
theorem tw1552857426587298226 : True := trivial
theorem tw15566814792845459997 : True := trivial
theorem tw15573729904360925794 : True := trivial
theorem tw15610720349345507260 : True := trivial
theorem tw15654153127513851752 : True := trivial
theorem tw15659084048362614264 : True := trivial
theorem tw15663057623668237757 : True := trivial
theorem tw1569810199879761147 : True := trivial
theorem tw15733542881966949079 : True := trivial
theorem tw15750308709622187472 : True := trivial
theorem tw15785218014132313688 : True := trivial
theorem tw15814798929938293467 : True := trivial
theorem tw15942494369296127945 : True := trivial
theorem tw15969937429085165904 : True := trivial
theorem tw15985840036639034899 : True := trivial
theorem tw15988856151785273984 : True := trivial
theorem tw16035096773351161327 : True := trivial
theorem tw16141144775947785660 : True := trivial
theorem tw16179787414501680475 : True := trivial
theorem tw16239030619513480838 : True := trivial
theorem tw16281141667863336784 : True := trivial
theorem tw16307742377514257941 : True := trivial
theorem tw16315053957116525436 : True := trivial
theorem tw1639197193820686003 : True := trivial
theorem tw16451975095625300501 : True := trivial
theorem tw16461013251600362008 : True := trivial
theorem tw16478504620199068264 : True := trivial
theorem tw16532224993992427823 : True := trivial
theorem tw16568243084613897719 : True := trivial
theorem tw16569799976186059295 : True := trivial
theorem tw16697607604324151607 : True := trivial
theorem tw16725066886706607050 : True := trivial
theorem tw1672651397029140864 : True := trivial
theorem tw16740147826971877517 : True := trivial
theorem tw16801115162389100519 : True := trivial
theorem tw16878984735049331645 : True := trivial
theorem tw16887932952891968693 : True := trivial
theorem tw1692041494862269998 : True := trivial
theorem tw16939745714101447976 : True := trivial
theorem tw17040301576142915119 : True := trivial
theorem tw17087466662150396210 : True := trivial
theorem tw17094759248423572775 : True := trivial
theorem tw17096001632197288867 : True := trivial
theorem tw17148229171239856432 : True := trivial
theorem tw17180457848445815676 : True := trivial
theorem tw17254660705983429885 : True := trivial
theorem tw17263983831947532790 : True := trivial
theorem tw17294395744611713098 : True := trivial
theorem tw17417429595627488627 : True := trivial
theorem tw17450472940649059298 : True := trivial
theorem tw17476224472650253806 : True := trivial
theorem tw17500814259130102135 : True := trivial
theorem tw17549760099613038055 : True := trivial
theorem tw17591727778206626035 : True := trivial
theorem tw17597196502641442581 : True := trivial
theorem tw17631178891982236634 : True := trivial
theorem tw17642598502550569490 : True := trivial
theorem tw17779192219718171531 : True := trivial
theorem tw17779774989671706653 : True := trivial
theorem tw17822619038779606285 : True := trivial
theorem tw17856180979147524769 : True := trivial
theorem tw17858152450515298520 : True := trivial
theorem tw18020473825885896052 : True := trivial
theorem tw18145382148040430673 : True := trivial
theorem tw18173914834931495973 : True := trivial
theorem tw18224010420261798391 : True := trivial
theorem tw1833173380454153921 : True := trivial
theorem tw187104208977503339 : True := trivial
theorem tw1876284267304334591 : True := trivial
theorem tw1882270145967814011 : True := trivial
theorem tw1986877004247180340 : True := trivial
theorem tw2041457743892144894 : True := trivial
theorem tw2084331650109322480 : True := trivial
theorem tw2156681307112010326 : True := trivial
theorem tw2167384251425162797 : True := trivial
theorem tw2207817973478938216 : True := trivial
theorem tw2277698456845511444 : True := trivial
theorem tw2296293446034493066 : True := trivial
theorem tw2422663375537807432 : True := trivial
theorem tw244668840739839672 : True := trivial
theorem tw2490583276235294983 : True := trivial
theorem tw2562329033357795767 : True := trivial
theorem tw2642592217982111355 : True := trivial
theorem tw2646541027584313031 : True := trivial
theorem tw2661161477798328453 : True := trivial
theorem tw2667925813562934949 : True := trivial
theorem tw2682973687022302978 : True := trivial
theorem tw2697976716319701033 : True := trivial
theorem tw2720468260678641542 : True := trivial
theorem tw2752272122444995253 : True := trivial
theorem tw2781561513384061212 : True := trivial
theorem tw2929439407932294337 : True := trivial
theorem tw2946744036017948005 : True := trivial
theorem tw2963349702327202441 : True := trivial
theorem tw303617358959260456 : True := trivial
theorem tw3081346186701454755 : True := trivial
theorem tw3083665863380995925 : True := trivial
theorem tw3092724735428445279 : True := trivial
theorem tw3093010850272755244 : True := trivial
theorem tw3101148707280403237 : True := trivial
theorem tw3117193011312037209 : True := trivial
theorem tw3210078786618844196 : True := trivial
theorem tw3232270311777372273 : True := trivial
theorem tw3279077582325829838 : True := trivial
theorem tw3280128972450656526 : True := trivial
theorem tw3378624336152846145 : True := trivial
theorem tw341249449185904685 : True := trivial
theorem tw3529921767576855348 : True := trivial
theorem tw3579776383272448420 : True := trivial
theorem tw3589964763223657672 : True := trivial
theorem tw3626213265524300766 : True := trivial
theorem tw3800603833340694319 : True := trivial
theorem tw3811385743445658432 : True := trivial
theorem tw3864012138097595758 : True := trivial
theorem tw3906943341852370832 : True := trivial
theorem tw3937267528351423324 : True := trivial
theorem tw3969078344035082030 : True := trivial
theorem tw4043779546988386903 : True := trivial
theorem tw4046193847619289583 : True := trivial
theorem tw4079574721724423606 : True := trivial
theorem tw4132201380793018340 : True := trivial
theorem tw4137054072099604216 : True := trivial
theorem tw4252685499439207924 : True := trivial
theorem tw4302478151189881795 : True := trivial
theorem tw4374827463496512255 : True := trivial
theorem tw4381346726385406224 : True := trivial
theorem tw4381757428849502282 : True := trivial
theorem tw4399152324972305773 : True := trivial
theorem tw4408763645494598628 : True := trivial
theorem tw44737582836444372 : True := trivial
theorem tw4475622257904601326 : True := trivial
theorem tw4480811336153992742 : True := trivial
theorem tw4496467784121089108 : True := trivial
theorem tw4529002996912422141 : True := trivial
theorem tw4532548537324856634 : True := trivial
theorem tw4583756282420477746 : True := trivial
theorem tw4659233104850659043 : True := trivial
theorem tw4702539438339769474 : True := trivial
theorem tw4717937361131159733 : True := trivial
theorem tw4753448620645791293 : True := trivial
theorem tw4772410448533662562 : True := trivial
theorem tw4796666493748621973 : True := trivial
theorem tw4876135695594978501 : True := trivial
theorem tw4921510776622977656 : True := trivial
theorem tw4949047195023096438 : True := trivial
theorem tw4954732016240277505 : True := trivial
theorem tw4998001990490953706 : True := trivial
theorem tw5010515064229702644 : True := trivial
theorem tw5031978486770369989 : True := trivial
theorem tw5078402968320093544 : True := trivial
theorem tw5082999880386992228 : True := trivial
theorem tw5112738896828158680 : True := trivial
theorem tw5225467491883748592 : True := trivial
theorem tw5252246860307943348 : True := trivial
theorem tw5274829272982666545 : True := trivial
theorem tw5282283922864298156 : True := trivial
theorem tw5295917329084666069 : True := trivial
theorem tw5323918697378788693 : True := trivial
theorem tw5350216910946226995 : True := trivial
theorem tw5471403574791894133 : True := trivial
theorem tw5498966250228494579 : True := trivial
theorem tw5531990279233569197 : True := trivial
theorem tw5588498093969417903 : True := trivial
theorem tw5599412692616142259 : True := trivial
theorem tw5619803957841784048 : True := trivial
theorem tw5635654813233479639 : True := trivial
theorem tw5747684920607356772 : True := trivial
theorem tw576298715544257586 : True := trivial
theorem tw5763553328388235881 : True := trivial
theorem tw5791938023122869331 : True := trivial
theorem tw5857794014393010482 : True := trivial
theorem tw5857869478962280401 : True := trivial
theorem tw5878047611234877577 : True := trivial
theorem tw5887078386916838634 : True := trivial
theorem tw5912414765772231977 : True := trivial
theorem tw5915465848944024539 : True := trivial
theorem tw6216033271563703469 : True := trivial
theorem tw6278366128872770721 : True := trivial
theorem tw6307330118970589470 : True := trivial
theorem tw6330134614895140133 : True := trivial
theorem tw6357344898813262543 : True := trivial
theorem tw6396523623945614605 : True := trivial
theorem tw6424660084863691381 : True := trivial
theorem tw6454261743774557082 : True := trivial
theorem tw6460966521098074893 : True := trivial
theorem tw6489310206099298910 : True := trivial
theorem tw6545324650690627985 : True := trivial
theorem tw6606875086121380550 : True := trivial
theorem tw6674158366018852832 : True := trivial
theorem tw6816380694822836728 : True := trivial
theorem tw6817751937963910627 : True := trivial
theorem tw685634667276709000 : True := trivial
theorem tw6896159741398044905 : True := trivial
theorem tw707885073954110949 : True := trivial
theorem tw7122917452565745793 : True := trivial
theorem tw7129523546110730894 : True := trivial
theorem tw7145057240379410032 : True := trivial
theorem tw7258431392514884226 : True := trivial
theorem tw7350330377624401328 : True := trivial
theorem tw7365562674294520451 : True := trivial
theorem tw7366336091430424897 : True := trivial
theorem tw7399101569421298396 : True := trivial
theorem tw7400771686186127474 : True := trivial
theorem tw7442186320969616419 : True := trivial
theorem tw7877780744568003191 : True := trivial
theorem tw7923702915469573346 : True := trivial
theorem tw7936999736827172675 : True := trivial
theorem tw7942442253511216057 : True := trivial
theorem tw7991519602905016326 : True := trivial
theorem tw8006095370074002437 : True := trivial
theorem tw8035951141280138642 : True := trivial
theorem tw8086972369959518483 : True := trivial
theorem tw8087799500789234286 : True := trivial
theorem tw8102643725754146565 : True := trivial
theorem tw8105830805119860317 : True := trivial
theorem tw8115153917610635543 : True := trivial
theorem tw8163853742193369449 : True := trivial
theorem tw820627826665183454 : True := trivial
theorem tw8217837808669207805 : True := trivial
theorem tw8218819101457601776 : True := trivial
theorem tw8253004272172430988 : True := trivial
theorem tw8260078842695283502 : True := trivial
theorem tw8277820557490507997 : True := trivial
theorem tw8323465864499181419 : True := trivial
theorem tw8324913547053779211 : True := trivial
theorem tw8351548024695214574 : True := trivial
theorem tw8393340031374782525 : True := trivial
theorem tw8413133151647880539 : True := trivial
theorem tw8451429660923938374 : True := trivial
theorem tw8551410553514715252 : True := trivial
theorem tw8564859838321607590 : True := trivial
theorem tw8571184235532366510 : True := trivial
theorem tw8575535491628544125 : True := trivial
theorem tw8684541073956307770 : True := trivial
theorem tw8778671856527934898 : True := trivial
theorem tw8789113547377566482 : True := trivial
theorem tw8801499457356032720 : True := trivial
theorem tw8827755016177155863 : True := trivial
theorem tw8868040359437915812 : True := trivial
theorem tw8868445881999480663 : True := trivial
theorem tw8903297777125119442 : True := trivial
theorem tw8943767207682116370 : True := trivial
theorem tw9072656965561520583 : True := trivial
theorem tw9140063382869304120 : True := trivial
theorem tw9143120035062812437 : True := trivial
theorem tw9157471666820141079 : True := trivial
theorem tw9160814584890018001 : True := trivial
theorem tw9160933379109621080 : True := trivial
theorem tw9188266559522036927 : True := trivial
theorem tw9227989709583849272 : True := trivial
theorem tw9232459349045140238 : True := trivial
theorem tw9245723823536211039 : True := trivial
theorem tw9250495785965993271 : True := trivial
theorem tw9284948610034456067 : True := trivial
theorem tw9321796208036801940 : True := trivial
theorem tw9327718836232418737 : True := trivial
theorem tw9367411864662104596 : True := trivial
theorem tw9370115536473471133 : True := trivial
theorem tw9408521175777228426 : True := trivial
theorem tw9430090754398894584 : True := trivial
theorem tw9441326970708011783 : True := trivial
theorem tw945861476033566700 : True := trivial
theorem tw9486143321106344294 : True := trivial
theorem tw949623864930693503 : True := trivial
theorem tw9518972631687950247 : True := trivial
theorem tw9523873602847724419 : True := trivial
theorem tw9569093901706499007 : True := trivial
theorem tw9575660318114070276 : True := trivial
theorem tw9638990691586225099 : True := trivial
theorem tw9647410926604887880 : True := trivial
theorem tw9730065638184486195 : True := trivial
theorem tw9732041140710341944 : True := trivial
theorem tw9766128667603022514 : True := trivial
theorem tw9784731065822230439 : True := trivial
theorem tw9816476011544392670 : True := trivial
theorem tw9855210162650666830 : True := trivial
theorem tw9866653766423218390 : True := trivial
theorem tw99148262030102190 : True := trivial
theorem tw9930548314228155742 : True := trivial
end Mine.holds
set_option maxHeartbeats 8000000
open PySem PySem.W PyProof.Rows
set_option Elab.async true in
theorem Mine.holds : PySem.Challenge.rw_nz0490_01.Holds := by
  w_on
  o_law
  k_head
  (case hw => w_witness2)
  k_go0
  rename_i h1 tk1 F1 w1 r1 N0 X0
  rename IntsAre _ _ => hI
  rename Heap.IsList _ _ _ => hL
  rename Frag.In _ _ => KX
  rename Top _ _ _ _ _ _ => T
  rename Below _ _ _ _ => B
  obtain ⟨ρ', σ', he⟩ := Mine.plain_of hI (by omega)
  refine Mine.law_join T KX B F1 N0 X0 (by kernel_rfl) hL hI (by omega) (by kernel_rfl) (by kernel_rfl) (by kernel_rfl) (by kernel_rfl) (by kernel_rfl) he ?_
  intro h' tk' m' F'
  exact goodW_bool F' (by assumption) (fun _ => rfl) (by first | kernel_rfl! | exact postW_of (X := true) rfl rfl rfl | exact postW_of (X := true) (by kernel_rfl!) (by kernel_rfl!) rfl | with_unfolding_all rfl)
theorem PySem.Challenge.cw_nz0490_01_holds : PySem.Challenge.rw_nz0490_01.Holds := by
  exact Mine.holds
