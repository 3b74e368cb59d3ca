import PyProof.Rows.All
import Wide.All
import OpenK.AllK
import Wide.FinOn
import PySem.Challenge.RW_np0134_01
set_option Elab.async false
set_option maxRecDepth 1000000
set_option maxHeartbeats 8000000
set_option linter.unusedVariables false
namespace Mine
noncomputable section
local macro_rules | `(tactic| walk_at "om1") => `(tactic| first | (with_reducible first | assumption | exact Nat.le_trans (by assumption) (by decide) | exact Nat.succ_le_of_lt (by assumption) | exact Nat.le_of_lt (by assumption) | exact Nat.le_succ_of_le (by assumption) | exact Nat.le_add_right _ _ | exact Nat.lt_succ_self _ | exact Nat.le_trans (by assumption) (by assumption) | exact Nat.lt_of_le_of_lt (by assumption) (by assumption) | exact Nat.lt_of_lt_of_le (by assumption) (Nat.le_trans (by assumption) (by decide)) | exact Nat.lt_of_lt_of_le (by assumption) (by assumption)) | omega)
local macro_rules | `(tactic| walk_at "om") => `(tactic| first | (with_reducible first | assumption | exact Nat.le_trans (by assumption) (by decide) | exact Nat.succ_le_of_lt (by assumption) | exact Nat.le_of_lt (by assumption) | exact Nat.le_succ_of_le (by assumption) | exact Nat.le_add_right _ _ | exact Nat.lt_succ_self _ | exact Nat.le_trans (by assumption) (by assumption) | exact Nat.lt_of_le_of_lt (by assumption) (by assumption) | exact Nat.lt_of_lt_of_le (by assumption) (Nat.le_trans (by assumption) (by decide)) | exact Nat.lt_of_lt_of_le (by assumption) (by assumption)) | (with_reducible refine Nat.sub_lt_sub_left ?_ ?_ <;> walk_at "om") | lia | omega)
section
inductive D where
  | none
  | bool (b : Bool)
  | int (i : Int)
  | str (l : List Nat)
  | tup (l : List D)
  | obj (n : Nat)

inductive Cell where
  | lst (l : List D)
  | dct (l : List (List Nat × D))

structure St where
  loc : List (Option D)
  cells : List Cell

inductive BOp where | add | sub | mul | mod | fdiv
  deriving DecidableEq
inductive COp where | eq | ne | lt | le | gt | ge | inn | notIn | is | isNot
  deriving DecidableEq

mutual
inductive E where
  | cst (d : D)
  | loc (i : Nat)
  | bin (op : BOp) (a b : E)
  | cmp (op : COp) (a b : E)
  | cmp2 (o1 o2 : COp) (a b c : E)
  | not (a : E)
  | and (a b : E)
  | or (a b : E)
  | ite (c a b : E)
  | sub (o i : E)
  | slice (o lo hi : E)
  | len (a : E)
  | sum (a : E)
  | ord (a : E)
  | chr (a : E)
  | tupleOf (a : E)
  | find (a x : E)
  | find2 (a x s : E)
  | append (o x : E)
  | pop (o : E)
  | call (f : Nat) (es : Es)
  | tup (es : Es)
  | list (es : Es)
  | dict (ks : List (List Nat)) (es : Es)
inductive Es where
  | nil
  | cons (e : E) (es : Es)
end

inductive S where
  | skip
  | seq (a b : S)
  | expr (e : E)
  | ret (e : E)
  | brk
  | asg (i : Nat) (e : E)
  | asgs (is : List Nat) (e : E)
  | asgsR (is : List Nat) (e : E)
  | setSub (o i v : E)
  | setSub2 (o i o' i' v : E)
  | augSub (o i : E) (op : BOp) (v : E)
  | aug (i : Nat) (op : BOp) (e : E)
  | ite (c : E) (a b : S)
  | whl (c : E) (b : S)
  | forE (is : List Nat) (e : E) (b : S)
  | forR (i : Nat) (lo hi st : E) (b : S)
  | fail (msg : List Nat)
  | tryE (e : E) (pre : List Nat)

inductive Fl where
  | next
  | brk
  | ret (d : D)

noncomputable def Fl.val : Fl → D
  | .ret d => d
  | _ => .none

noncomputable abbrev XP := List Nat → List Cell → Prop

noncomputable abbrev Call := Nat → List D → List Cell → (D → List Cell → Prop) → XP → Prop

noncomputable def sizeOk : D → Prop
  | .str l => l.length ≤ 2 ^ 24
  | _ => True

theorem nn {α : Type} {P : Prop} {a : α} (h : (none : Option α) = some a) : P := nomatch h
theorem bs {α β : Type} {o : Option α} {f : α → Option β} {b : β} (h : o.bind f = some b) : ∃ a, o = some a ∧ f a = some b := Option.bind_eq_some_iff.mp h
theorem ms {α β : Type} {o : Option α} {f : α → β} {b : β} (h : o.map f = some b) : ∃ a, o = some a ∧ f a = b := Option.map_eq_some_iff.mp h
theorem ig {α : Type} {c : Prop} [d : Decidable c] {o : Option α} {b : α} (h : (if c then o else none) = some b) : c ∧ o = some b := by
  cases d with
  | isTrue q => exact ⟨q, h⟩
  | isFalse q => exact nn h
noncomputable def asI : D → Option Int
  | .int a => some a
  | _ => Option.none
theorem asI_eq {d : D} {a : Int} (h : asI d = some a) : d = .int a := by
  cases d <;> first | exact nn h | (cases h; rfl)
noncomputable def asS : D → Option (List Nat)
  | .str a => some a
  | _ => Option.none
theorem asS_eq {d : D} {a : List Nat} (h : asS d = some a) : d = .str a := by
  cases d <;> first | exact nn h | (cases h; rfl)
noncomputable def asB : D → Option Bool
  | .bool a => some a
  | _ => Option.none
theorem asB_eq {d : D} {a : Bool} (h : asB d = some a) : d = .bool a := by
  cases d <;> first | exact nn h | (cases h; rfl)
noncomputable def asL : Cell → Option (List D)
  | .lst l => some l
  | .dct _ => Option.none
theorem asL_eq {c : Cell} {a : List D} (h : asL c = some a) : c = .lst a := by
  cases c <;> first | exact nn h | (cases h; rfl)
noncomputable def asM : Cell → Option (List (List Nat × D))
  | .dct l => some l
  | .lst _ => Option.none
theorem asM_eq {c : Cell} {a : List (List Nat × D)} (h : asM c = some a) : c = .dct a := by
  cases c <;> first | exact nn h | (cases h; rfl)
theorem lst_of {o : Option Cell} {l : List D} (h : o.bind asL = some l) : o = some (.lst l) := by
  obtain ⟨c, e, h⟩ := bs h
  rw [e, asL_eq h]
theorem dct_of {o : Option Cell} {l : List (List Nat × D)} (h : o.bind asM = some l) : o = some (.dct l) := by
  obtain ⟨c, e, h⟩ := bs h
  rw [e, asM_eq h]
noncomputable def one {α : Type} : List α → Option α
  | [] => none
  | a :: l => bif l.isEmpty then some a else none
theorem one_eq {α : Type} {l : List α} {a : α} (h : one l = some a) : l = [a] := by
  cases l with
  | nil => exact nn h
  | cons b l =>
    cases l with
    | nil => cases h; rfl
    | cons c l => exact nn h
noncomputable def addD (x y : D) : Option D := match x with
  | .int a => (asI y).map fun b => .int (a + b)
  | .str a => (asS y).map fun b => .str (a ++ b)
  | _ => Option.none
noncomputable def mulD (x y : D) : Option D := (asI y).bind fun b => match x with
  | .str l => (one l).bind fun a => if 0 ≤ b ∧ b ≤ 2 ^ 20 then some (.str (List.replicate b.toNat a)) else Option.none
  | .int a => if 0 < b ∧ b < 2 ^ 20 then some (.int (a * b)) else Option.none
  | _ => Option.none
noncomputable def binD : BOp → D → D → Option D
  | .add => addD
  | .sub => fun x y => (asI x).bind fun a => (asI y).map fun b => .int (a - b)
  | .mul => mulD
  | .mod => fun x y => (asI x).bind fun a => (asI y).bind fun b => if b ≠ 0 then some (.int (a.fmod b)) else Option.none
  | .fdiv => fun x y => (asI x).bind fun a => (asI y).bind fun b => if 0 < b ∧ b < 2 ^ 20 then some (.int (a.fdiv b)) else Option.none

noncomputable def eqD (x y : D) : Option Bool := match x with
  | .int a => (asI y).map fun b => a == b
  | .str a => (asS y).map fun b => a == b
  | .bool a => (asB y).map fun b => a == b
  | _ => Option.none

noncomputable def inTup (a : List Nat) : List D → Option Bool
  | [] => some false
  | d :: r => (asS d).bind fun b => (inTup a r).map fun t => (a == b) || t

theorem inTup_n {a : List Nat} : inTup a [] = some false := rfl
theorem inTup_c {a b : List Nat} {r : List D} : inTup a (.str b :: r) = (inTup a r).map fun t => (a == b) || t := rfl

noncomputable def inD (x y : D) : Option Bool := (asS x).bind fun l => match y with
  | .str b => (one l).map fun a => b.contains a
  | .tup t => inTup l t
  | _ => Option.none

noncomputable def isN : D → Bool
  | .none => true
  | _ => false
noncomputable def isNoneD (x y : D) : Option Bool := bif isN y then some (isN x) else Option.none

noncomputable def ordD (f : Int → Int → Bool) (x y : D) : Option Bool := (asI x).bind fun a => (asI y).map fun b => f a b
noncomputable def cmpD : COp → D → D → Option Bool
  | .eq => eqD
  | .ne => fun a b => (eqD a b).map (!·)
  | .lt => ordD fun a b => decide (a < b)
  | .le => ordD fun a b => decide (a ≤ b)
  | .gt => ordD fun a b => decide (b < a)
  | .ge => ordD fun a b => decide (b ≤ a)
  | .inn => inD
  | .notIn => fun a b => (inD a b).map (!·)
  | .is => isNoneD
  | .isNot => fun a b => (isNoneD a b).map (!·)

noncomputable def idx (n : Nat) (k : Int) : Option Nat :=
  if 0 ≤ k then (if k.toNat < n then some k.toNat else Option.none)
  else if 0 ≤ k + n then some (k + n).toNat else Option.none

noncomputable abbrev small (k : Int) : Prop := -(2 ^ 40) ≤ k ∧ k < 2 ^ 40

noncomputable def atN {α : Type} (l : List α) (k : Int) : Option α := if small k ∧ 0 ≤ k then l[k.toNat]? else Option.none
noncomputable def subO (c : List Cell) (n : Nat) : D → Option D
  | .int k => (c[n]?.bind asL).bind fun l => if small k then (idx l.length k).bind fun j => l[j]? else Option.none
  | .str k => (c[n]?.bind asM).bind fun l => l.lookup k
  | _ => Option.none
noncomputable def subD (c : List Cell) (x y : D) : Option D := match x with
  | .str l => (asI y).bind fun k => (atN l k).map fun x => .str [x]
  | .tup l => (asI y).bind fun k => atN l k
  | .obj n => subO c n y
  | _ => Option.none
theorem subD_strI {c : List Cell} {l : List Nat} {k : Int} : subD c (.str l) (.int k) = (atN l k).map fun x => .str [x] := rfl
theorem subD_tupI {c : List Cell} {l : List D} {k : Int} : subD c (.tup l) (.int k) = atN l k := rfl
theorem subD_lst {c : List Cell} {n : Nat} {l : List D} {k : Int} (h : c[n]? = some (.lst l)) : subD c (.obj n) (.int k) = if small k then (idx l.length k).bind fun j => l[j]? else Option.none := by
  show (c[n]?.bind asL).bind _ = _
  rw [h]; rfl
theorem subD_dct {c : List Cell} {n : Nat} {l : List (List Nat × D)} {k : List Nat} (h : c[n]? = some (.dct l)) : subD c (.obj n) (.str k) = l.lookup k := by
  show (c[n]?.bind asM).bind _ = _
  rw [h]; rfl

noncomputable def clamp (n : Nat) (k : Int) : Nat := if k < 0 then (k + n).toNat else min k.toNat n

noncomputable def optOf : D → Option (Option Int)
  | .none => some Option.none
  | .int i => some (some i)
  | _ => Option.none
noncomputable def dropO {α : Type} (n : Nat) (l : List α) : Option Int → List α
  | Option.none => l
  | some a => l.drop (clamp n a)
noncomputable def takeO {α : Type} (n : Nat) (l : List α) : Option Int → List α
  | Option.none => l
  | some a => l.take (clamp n a)
noncomputable def sliceL {α : Type} (l : List α) (y z : D) : Option (List α) := (optOf y).bind fun lo => (optOf z).map fun hi => dropO l.length (takeO l.length l hi) lo

noncomputable def lenD (c : List Cell) : D → Option Int
  | .str l => some l.length
  | .obj n => (c[n]?.bind asL).map fun l => (l.length : Int)
  | _ => Option.none
theorem lenD_lst {c : List Cell} {n : Nat} {l : List D} (h : c[n]? = some (.lst l)) : lenD c (.obj n) = some (l.length : Int) := by
  show (c[n]?.bind asL).map _ = _
  rw [h]; rfl

noncomputable def findFrom (x : Nat) : List Nat → Nat → Option Nat
  | [], _ => Option.none
  | y :: r, i => if y = x then some i else findFrom x r (i + 1)

noncomputable def findD (l : List Nat) (x : Nat) (s : Nat) : Int := match findFrom x (l.drop s) s with
  | some i => i
  | Option.none => -1

noncomputable def setO (c : List Cell) (n : Nat) (v : D) : D → Option (List Cell)
  | .int k => (c[n]?.bind asL).bind fun l => if small k ∧ 0 ≤ k ∧ k.toNat < l.length then some (c.set n (.lst (l.set k.toNat v))) else Option.none
  | .str k => (c[n]?.bind asM).bind fun l => if (l.lookup k).isSome ∧ l.length ≤ 2 ^ 20 then some (c.set n (.dct (l.map fun p => if p.1 = k then (k, v) else p))) else Option.none
  | _ => Option.none
noncomputable def setD (c : List Cell) (o i v : D) : Option (List Cell) := match o with
  | .obj n => setO c n v i
  | _ => Option.none
theorem setD_lst {c : List Cell} {n : Nat} {l : List D} {k : Int} {v : D} (h : c[n]? = some (.lst l)) (hk : small k ∧ 0 ≤ k ∧ k.toNat < l.length) : setD c (.obj n) (.int k) v = some (c.set n (.lst (l.set k.toNat v))) := by
  show (c[n]?.bind asL).bind _ = _
  rw [h]; exact if_pos hk
theorem setD_dct {c : List Cell} {n : Nat} {l : List (List Nat × D)} {k : List Nat} {v : D} (h : c[n]? = some (.dct l)) (hk : (l.lookup k).isSome ∧ l.length ≤ 2 ^ 20) : setD c (.obj n) (.str k) v = some (c.set n (.dct (l.map fun p => if p.1 = k then (k, v) else p))) := by
  show (c[n]?.bind asM).bind _ = _
  rw [h]; exact if_pos hk

mutual
noncomputable def wpE (K : Call) : E → St → (D → St → Prop) → XP → Prop
  | .cst d, σ, P, _ => P d σ
  | .loc i, σ, P, _ => ∃ d, σ.loc[i]? = some (some d) ∧ P d σ
  | .bin op a b, σ, P, X => wpE K a σ (fun x σ1 => wpE K b σ1 (fun y σ2 => ∃ d, binD op x y = some d ∧ sizeOk d ∧ P d σ2) X) X
  | .cmp op a b, σ, P, X => wpE K a σ (fun x σ1 => wpE K b σ1 (fun y σ2 => ∃ t, cmpD op x y = some t ∧ P (.bool t) σ2) X) X
  | .cmp2 o1 o2 a b c, σ, P, X => wpE K a σ (fun x σ1 => wpE K b σ1 (fun y σ2 => ∃ t, cmpD o1 x y = some t ∧
      if t then wpE K c σ2 (fun z σ3 => ∃ u, cmpD o2 y z = some u ∧ P (.bool u) σ3) X else P (.bool false) σ2) X) X
  | .not a, σ, P, X => wpE K a σ (fun x σ1 => ∃ t, x = .bool t ∧ P (.bool !t) σ1) X
  | .and a b, σ, P, X => wpE K a σ (fun x σ1 => ∃ t, x = .bool t ∧ if t then wpE K b σ1 P X else P (.bool false) σ1) X
  | .or a b, σ, P, X => wpE K a σ (fun x σ1 => ∃ t, x = .bool t ∧ if t then P (.bool true) σ1 else wpE K b σ1 P X) X
  | .ite c a b, σ, P, X => wpE K c σ (fun x σ1 => ∃ t, x = .bool t ∧ if t then wpE K a σ1 P X else wpE K b σ1 P X) X
  | .sub o i, σ, P, X => wpE K o σ (fun x σ1 => wpE K i σ1 (fun y σ2 => ∃ d, subD σ2.cells x y = some d ∧ P d σ2) X) X
  | .slice o lo hi, σ, P, X => wpE K o σ (fun x σ1 => wpE K lo σ1 (fun y σ2 => wpE K hi σ2 (fun z σ3 => match x with
      | .str l => ∃ r, sliceL l y z = some r ∧ l.length ≤ 2 ^ 24 ∧ P (.str r) σ3
      | .obj n => ∃ l r, σ3.cells[n]? = some (.lst l) ∧ sliceL l y z = some r ∧ l.length ≤ 2 ^ 20 ∧ P (.obj σ3.cells.length) { σ3 with cells := σ3.cells ++ [.lst r] }
      | _ => False) X) X) X
  | .len a, σ, P, X => wpE K a σ (fun x σ1 => ∃ n, lenD σ1.cells x = some n ∧ n ≤ 2 ^ 24 ∧ P (.int n) σ1) X
  | .sum a, σ, P, X => wpE K a σ (fun x σ1 => ∃ n, ∃ is : List Int, x = .obj n ∧ σ1.cells[n]? = some (.lst (is.map D.int)) ∧ P (.int is.sum) σ1) X
  | .ord a, σ, P, X => wpE K a σ (fun x σ1 => ∃ n, x = .str [n] ∧ P (.int n) σ1) X
  | .chr a, σ, P, X => wpE K a σ (fun x σ1 => ∃ n : Nat, x = .int n ∧ n ≤ 1114111 ∧ P (.str [n]) σ1) X
  | .tupleOf a, σ, P, X => wpE K a σ (fun x σ1 => ∃ n l, x = .obj n ∧ σ1.cells[n]? = some (.lst l) ∧ l.length ≤ 2 ^ 20 ∧ P (.tup l) σ1) X
  | .find a x, σ, P, X => wpE K a σ (fun l σ1 => ∃ s, l = .str s ∧ wpE K x σ1 (fun y σ2 => ∃ n, y = .str [n] ∧ P (.int (findD s n 0)) σ2) X) X
  | .find2 a x b, σ, P, X => wpE K a σ (fun l σ1 => ∃ s, l = .str s ∧ wpE K x σ1 (fun y σ2 => wpE K b σ2 (fun z σ3 => ∃ n, ∃ k : Nat, y = .str [n] ∧ z = .int k ∧ k ≤ s.length ∧ P (.int (findD s n k)) σ3) X) X) X
  | .append o x, σ, P, X => wpE K o σ (fun y σ1 => ∃ n l0, y = .obj n ∧ σ1.cells[n]? = some (.lst l0) ∧ wpE K x σ1 (fun z σ2 => ∃ l, σ2.cells[n]? = some (.lst l) ∧ l.length ≤ 2 ^ 20 ∧
      P .none { σ2 with cells := σ2.cells.set n (.lst (l ++ [z])) }) X) X
  | .pop o, σ, P, X => wpE K o σ (fun y σ1 => ∃ n l z, y = .obj n ∧ σ1.cells[n]? = some (.lst (l ++ [z])) ∧ l.length ≤ 2 ^ 20 ∧
      P z { σ1 with cells := σ1.cells.set n (.lst l) }) X
  | .call f es, σ, P, X => wpEs K es σ (fun ds σ1 => K f ds σ1.cells (fun d c => P d { σ1 with cells := c }) X) X
  | .tup es, σ, P, X => wpEs K es σ (fun ds σ1 => ds.length ≤ 2 ^ 20 ∧ P (.tup ds) σ1) X
  | .list es, σ, P, X => wpEs K es σ (fun ds σ1 => ds.length ≤ 2 ^ 20 ∧ P (.obj σ1.cells.length) { σ1 with cells := σ1.cells ++ [.lst ds] }) X
  | .dict ks es, σ, P, X => wpEs K es { σ with cells := σ.cells ++ [.dct []] } (fun ds σ1 => σ1.cells[σ.cells.length]? = some (.dct []) ∧ P (.obj σ.cells.length) { σ1 with cells := σ1.cells.set σ.cells.length (.dct (ks.zip ds)) }) X
noncomputable def wpEs (K : Call) : Es → St → (List D → St → Prop) → XP → Prop
  | .nil, σ, P, _ => P [] σ
  | .cons e es, σ, P, X => wpE K e σ (fun d σ1 => wpEs K es σ1 (fun ds σ2 => P (d :: ds) σ2) X) X
end

noncomputable def wpB (K : Call) (e : E) (σ : St) (P : Bool → St → Prop) (X : XP) : Prop := wpE K e σ (fun x σ1 => ∃ t, x = .bool t ∧ P t σ1) X

noncomputable def rangeL (a b c : Int) : List Int := (List.range (PySem.Builtin.Range.rangeSize a b c).toNat).map fun (i : Nat) => a + (i : Int) * c

noncomputable def St.set (σ : St) (i : Nat) (d : D) : St := { σ with loc := σ.loc.set i (some d) }
noncomputable def St.sets (σ : St) : List Nat → List D → St
  | i :: is, d :: ds => (σ.set i d).sets is ds
  | _, _ => σ

noncomputable def itemsD (c : List Cell) : D → Option (List D)
  | .str l => some (l.map fun x => .str [x])
  | .obj n => c[n]?.bind asL
  | _ => Option.none
theorem itemsD_lst {c : List Cell} {n : Nat} {l : List D} (h : c[n]? = some (.lst l)) : itemsD c (.obj n) = some l := by
  show c[n]?.bind asL = _
  rw [h]; rfl

noncomputable def bindItem (σ : St) (is : List Nat) (d : D) (P : St → Prop) : Prop := match is with
  | [i] => P (σ.set i d)
  | is => ∃ l, d = .tup l ∧ l.length = is.length ∧ P (σ.sets is l)

noncomputable def wpS (K : Call) : S → St → (Fl → St → Prop) → XP → Prop
  | .skip, σ, P, _ => P .next σ
  | .seq a b, σ, P, X => wpS K a σ (fun f σ1 => match f with
      | .next => wpS K b σ1 P X
      | .brk => P .brk σ1
      | .ret d => P (.ret d) σ1) X
  | .expr e, σ, P, X => wpE K e σ (fun _ σ1 => P .next σ1) X
  | .ret e, σ, P, X => wpE K e σ (fun d σ1 => P (.ret d) σ1) X
  | .brk, σ, P, _ => P .brk σ
  | .asg i e, σ, P, X => wpE K e σ (fun d σ1 => P .next (σ1.set i d)) X
  | .asgs is e, σ, P, X => wpE K e σ (fun d σ1 => ∃ l, d = .tup l ∧ l.length = is.length ∧ P .next (σ1.sets is l)) X
  | .asgsR is e, σ, P, X => wpE K e σ (fun d σ1 => ∃ l, d = .tup l ∧ l.length = is.length ∧ P .next (σ1.sets is.reverse l.reverse)) X
  | .setSub o i v, σ, P, X => wpE K v σ (fun z σ1 => wpE K o σ1 (fun x σ2 => wpE K i σ2 (fun y σ3 => ∃ c, setD σ3.cells x y z = some c ∧ P .next { σ3 with cells := c }) X) X) X
  | .setSub2 o i o' i' v, σ, P, X => wpE K v σ (fun z σ1 => ∃ z1 z2, z = .tup [z1, z2] ∧
      wpE K o σ1 (fun x σ2 => wpE K i σ2 (fun y σ3 => ∃ c, setD σ3.cells x y z1 = some c ∧
        wpE K o' { σ3 with cells := c } (fun x' σ4 => wpE K i' σ4 (fun y' σ5 => ∃ c', setD σ5.cells x' y' z2 = some c' ∧ P .next { σ5 with cells := c' }) X) X) X) X) X
  | .augSub o i op v, σ, P, X => wpE K o σ (fun x σ1 => wpE K i σ1 (fun y σ2 => ∃ d, subD σ2.cells x y = some d ∧
      wpE K v σ2 (fun z σ3 => ∃ r c, binD op d z = some r ∧ sizeOk r ∧ setD σ3.cells x y r = some c ∧ P .next { σ3 with cells := c }) X) X) X
  | .aug i op e, σ, P, X => ∃ d, σ.loc[i]? = some (some d) ∧ wpE K e σ (fun z σ1 => ∃ r, binD op d z = some r ∧ sizeOk r ∧ P .next (σ1.set i r)) X
  | .ite c a b, σ, P, X => wpB K c σ (fun t σ1 => if t then wpS K a σ1 P X else wpS K b σ1 P X) X
  | .whl c b, σ, P, X => ∃ I : Nat → St → Prop, ∃ n : Nat, I n σ ∧ ∀ n σ, I n σ →
      wpB K c σ (fun t σ1 => if t then wpS K b σ1 (fun f σ2 => match f with
        | .next => ∃ m, m < n ∧ I m σ2
        | .brk => P .next σ2
        | .ret d => P (.ret d) σ2) X else P .next σ1) X
  | .forE is e b, σ, P, X => wpE K e σ (fun d σ1 => ∃ xs, itemsD σ1.cells d = some xs ∧ xs.length ≤ 2 ^ 20 ∧
      (xs.foldr (fun x (k : St → Prop) σ2 => itemsD σ2.cells d = some xs ∧ bindItem σ2 is x fun σ3 => wpS K b σ3 (fun f σ4 => match f with
        | .next => k σ4
        | .brk => P .next σ4
        | .ret d => P (.ret d) σ4) X) (fun σ2 => itemsD σ2.cells d = some xs ∧ P .next σ2)) σ1) X
  | .forR i lo hi st b, σ, P, X => wpE K lo σ (fun x σ1 => wpE K hi σ1 (fun y σ2 => wpE K st σ2 (fun z σ3 => ∃ a b' c : Int, x = .int a ∧ y = .int b' ∧ z = .int c ∧
      -(2 ^ 20) ≤ a ∧ a ≤ 2 ^ 20 ∧ -(2 ^ 20) ≤ b' ∧ b' ≤ 2 ^ 20 ∧ c ≠ 0 ∧ -(2 ^ 20) ≤ c ∧ c ≤ 2 ^ 20 ∧
      ((rangeL a b' c).foldr (fun n (k : St → Prop) σ2 => wpS K b (σ2.set i (.int n)) (fun f σ4 => match f with
        | .next => k σ4
        | .brk => P .next σ4
        | .ret d => P (.ret d) σ4) X) (fun σ2 => P .next σ2)) σ3) X) X) X
  | .fail msg, σ, _, X => X msg σ.cells
  | .tryE e pre, σ, P, _ => wpE K e σ (fun _ σ1 => P .next σ1) (fun msg c => P (.ret (.bool (!pre.isPrefixOf msg))) { loc := [], cells := c })

noncomputable def init (n : Nat) (ds : List D) (cells : List Cell) : St := ⟨ds.map some ++ List.replicate (n - ds.length) Option.none, cells⟩
end
section
open PySem PySem.Calls PySem.W

section
variable (prog : Program) (w : World)

noncomputable abbrev tupObj (vs : Array Value) (n : Nat) : Obj := { cls := .type "tuple", data := .seq vs n }

mutual
noncomputable def VR (h : Heap) (μ : List Addr) : D → Value → Prop
  | .none, v => v = .none
  | .bool b, v => v = .bool b
  | .int i, v => ∃ t, v = .int i t
  | .str l, v => ∃ t, v = .str ⟨l.toArray⟩ t
  | .tup ds, v => ∃ a vs n, v = .ref a ∧ h.get? a = some (tupObj vs.toArray n) ∧ VRs h μ ds vs
  | .obj n, v => ∃ a, v = .ref a ∧ μ[n]? = some a
noncomputable def VRs (h : Heap) (μ : List Addr) : List D → List Value → Prop
  | [], vs => vs = []
  | d :: ds, vs => ∃ v r, vs = v :: r ∧ VR h μ d v ∧ VRs h μ ds r
end

noncomputable def CellAt (h : Heap) (μ : List Addr) (a : Addr) : Cell → Prop
  | .lst ds => ∃ vs n, h.get? a = some (listOf vs n) ∧ VRs h μ ds vs.toList
  | .dct es => ∃ kvs, h.DictOf (strKind prog w) a kvs ∧ kvs.map (·.1) = es.map (fun p => (⟨p.1.toArray⟩ : Str)) ∧ VRs h μ (es.map (·.2)) (kvs.map (·.2))

noncomputable def FA (l : List Env) : List Addr := l.filterMap (·.frame)

structure Inv (base : Heap) (l : List Env) (μ : List Addr) (cells : List Cell) (h : Heap) : Prop where
  stays : base.StaysIn h
  frames : h.FunFrames base l
  len : μ.length = cells.length
  nodup : μ.Nodup
  fresh : ∀ a ∈ μ, base.get? a = none
  apart : ∀ a ∈ μ, a ∉ FA l
  dicts : ∀ a ∈ FA l, ∃ m, h.Ns a m
  cells : ∀ (i : Nat) (a : Addr) (c : Cell), μ[i]? = some a → cells[i]? = some c → CellAt prog w h μ a c

noncomputable abbrev Hp := Heap × OsState × Array GenState
noncomputable abbrev hOf (s : Shared) : Hp := (s.heap, s.os, s.gens)
noncomputable abbrev hW (x : Hp) (h : Heap) : Hp := (h, x.2)

structure Ext (fs fr : List Addr) (h h' : Hp) : Prop where
  keep : ∀ b o, h.1.get? b = some o → b ∉ fs → b ∉ fr → h'.1.get? b = some o
  data : ∀ b o, h.1.get? b = some o → b ∈ fs → b ∉ fr → ∃ sl, h'.1.get? b = some { o with slots := sl }
  live : ∀ b o, h.1.get? b = some o → ∃ o', h'.1.get? b = some o'
  same : h'.2 = h.2

structure Gro (h : Heap) (μ μ' : List Addr) : Prop where
  pre : μ <+: μ'
  new : ∀ a ∈ μ', a ∈ μ ∨ h.get? a = none

theorem Ext.refl (fs fr : List Addr) (h : Hp) : Ext fs fr h h := ⟨fun _ _ e _ _ => e, fun _ o e _ _ => ⟨o.slots, e⟩, fun _ o e => ⟨o, e⟩, rfl⟩
theorem Gro.refl (h : Heap) (μ : List Addr) : Gro h μ μ := ⟨List.prefix_refl _, fun _ m => .inl m⟩

theorem Gro.trans {h h1 : Hp} {μ μ1 μ2 : List Addr} {fs fr : List Addr} (x : Gro h.1 μ μ1) (E : Ext fs fr h h1) (y : Gro h1.1 μ1 μ2) : Gro h.1 μ μ2 :=
  ⟨x.pre.trans y.pre, fun a m => (y.new a m).elim (x.new a) fun e => by
    cases q : h.1.get? a with
    | none => exact .inr rfl
    | some o => obtain ⟨o', e'⟩ := E.live a o q; rw [e] at e'; cases e'⟩

theorem Ext.trans {fs : List Addr} {L : List Addr} {μ μ1 : List Addr} {h h1 h2 : Hp} (x : Ext fs (L ++ μ) h h1) (g : Gro h.1 μ μ1) (y : Ext fs (L ++ μ1) h1 h2) : Ext fs (L ++ μ) h h2 := by
  have out : ∀ b o, h.1.get? b = some o → b ∉ L ++ μ → b ∉ L ++ μ1 := fun b o e n m => by
    rcases List.mem_append.mp m with m | m
    · exact n (List.mem_append_left _ m)
    · rcases g.new b m with m | m
      · exact n (List.mem_append_right _ m)
      · rw [e] at m; cases m
  refine ⟨fun b o e n1 n2 => y.keep b o (x.keep b o e n1 n2) n1 (out b o e n2), fun b o e n1 n2 => ?_, fun b o e => ?_, y.same.trans x.same⟩
  · obtain ⟨sl, e1⟩ := x.data b o e n1 n2
    obtain ⟨sl', e2⟩ := y.data b _ e1 n1 (out b o e n2)
    exact ⟨sl', e2⟩
  · obtain ⟨o1, e1⟩ := x.live b o e
    exact y.live b o1 e1

noncomputable def Tups (h h' : Heap) : Prop := ∀ a vs n, h.get? a = some (tupObj vs n) → h'.get? a = some (tupObj vs n)
theorem Tups.refl (h : Heap) : Tups h h := fun _ _ _ x => x
theorem Tups.trans {h h1 h2 : Heap} (x : Tups h h1) (y : Tups h1 h2) : Tups h h2 := fun a i n z => y a i n (x a i n z)

mutual
theorem VR.mono {h h' : Heap} {μ μ' : List Addr} (t : Tups h h') (p : μ <+: μ') : ∀ {d : D} {v : Value}, VR h μ d v → VR h' μ' d v
  | .none, _, e => e
  | .bool _, _, e => e
  | .int _, _, e => e
  | .str _, _, e => e
  | .tup ds, _, ⟨a, vs, n, e, x, r⟩ => ⟨a, vs, n, e, t _ _ _ x, VRs.mono t p r⟩
  | .obj n, _, ⟨a, e, x⟩ => ⟨a, e, by
      obtain ⟨r, rfl⟩ := p
      rw [List.getElem?_append_left (List.getElem?_eq_some_iff.mp x).1]; exact x⟩
theorem VRs.mono {h h' : Heap} {μ μ' : List Addr} (t : Tups h h') (p : μ <+: μ') : ∀ {ds : List D} {vs : List Value}, VRs h μ ds vs → VRs h' μ' ds vs
  | [], _, e => e
  | _ :: _, _, ⟨v, r, e, x, y⟩ => ⟨v, r, e, VR.mono t p x, VRs.mono t p y⟩
end

variable {prog w}

theorem CellAt.notTup {h : Heap} {μ : List Addr} {a : Addr} {c : Cell} (x : CellAt prog w h μ a c) {items : Array Value} {k : Nat} (y : h.get? a = some (tupObj items k)) : False := by
  cases c with
  | lst ds =>
    obtain ⟨vs, n, e, _⟩ := x
    rw [e] at y
    injection y with y; injection y with y; injection y with y; exact absurd y (by decide)
  | dct es =>
    obtain ⟨kvs, ⟨o', es, ep, e, hx, hd', _⟩, _⟩ := x
    rw [e] at y; cases y
    cases hd'

theorem Inv.notTup {base h : Heap} {l : List Env} {μ : List Addr} {cells : List Cell} (I : Inv prog w base l μ cells h) {a : Addr} (m : a ∈ μ) {items : Array Value} {k : Nat} (y : h.get? a = some (tupObj items k)) : False := by
  obtain ⟨i, hi, e⟩ := List.getElem_of_mem m
  have hi' : i < cells.length := I.len ▸ hi
  exact (I.cells i a cells[i] (by rw [List.getElem?_eq_getElem hi, e]) (List.getElem?_eq_getElem hi')).notTup y

theorem ns_notTup {h : Heap} {a : Addr} {m : Str → Option Value} (x : h.Ns a m) {items : Array Value} {k : Nat} (y : h.get? a = some (tupObj items k)) : False := by
  obtain ⟨o', es, ep, ho', hd', _⟩ := x
  rw [y] at ho'; cases ho'
  cases hd'

theorem Ext.tups {L : List Addr} {base : Heap} {h h' : Hp} {l : List Env} {μ : List Addr} {cells : List Cell} (x : Ext (FA l) (L ++ μ) h h') (I : Inv prog w base l μ cells h.1)
    (hL : ∀ b ∈ L, b ∈ FA l) : Tups h.1 h'.1 := fun a vs n y => by
  have nf : a ∉ FA l := fun m => let ⟨_, hm⟩ := I.dicts a m; ns_notTup hm y
  refine x.keep a _ y nf fun m => ?_
  rcases List.mem_append.mp m with m | m
  · exact nf (hL a m)
  · exact I.notTup m y

structure Rel (prog : Program) (w : World) (base : Heap) (env : Env) (outer : List Env) (names : List Str) (σ : St) (μ : List Addr) (h : Heap) : Prop where
  inv : Inv prog w base (env :: outer) μ σ.cells h
  ns : ∃ m, h.Ns env.locals m ∧ ∀ (i : Nat) (x : Str) (d : D), names[i]? = some x → σ.loc[i]? = some (some d) → ∃ v, m x = some v ∧ VR h μ d v

structure EnvOk (env : Env) (names : List Str) : Prop where
  frame : env.frame = some env.locals
  kind : env.scope.kind = .function
  plain : env.scope.isGenerator = false
  sync : env.scope.isCoroutine = false
  loc : ∀ (i : Nat) (x : Str), names[i]? = some x → env.kindOf x = some .local
  nodup : names.Nodup
  dbg : ∀ (i : Nat) (x : Str), names[i]? = some x → (x == ("__debug__" : Str)) = false
  globals : env.globals = mainGlobals
  builtins : env.builtins = builtinsNs

theorem Rel.tups {base : Heap} {h h' : Hp} {env : Env} {outer : List Env} {names : List Str} {σ : St} {μ : List Addr} (ok : EnvOk env names) (R : Rel prog w base env outer names σ μ h.1)
    (x : Ext (FA (env :: outer)) ([env.locals] ++ μ) h h') : Tups h.1 h'.1 := x.tups R.inv fun b m => by
  rw [List.mem_singleton.mp m]
  unfold FA
  rw [List.filterMap_cons, ok.frame]
  exact .head _

end
end
section
open PySem PySem.Calls PySem.W

noncomputable abbrev Tb := Option (Addr × Value)

noncomputable def ExcAt (h : Heap) (e C d : Addr) (tb : Tb) : Prop :=
  ∃ vs sl, h.get? e = some ⟨.ref C, some d, .fields vs, sl⟩ ∧ 1 < vs.size ∧
    match tb with
    | none => vs[1]? = some .none
    | some (T, fl) => vs[1]? = some (.ref T) ∧ T ≠ e ∧ ∃ oT ts, h.get? T = some oT ∧ oT.data = .fields ts ∧ ts[3]? = some fl

structure Rest (fs : List Addr) (S : List Addr) (h h' : Heap) : Prop where
  keep : ∀ b o, h.get? b = some o → b ∉ fs → b ∉ S → h'.get? b = some o
  data : ∀ b o, h.get? b = some o → b ∈ fs → b ∉ S → ∃ sl, h'.get? b = some { o with slots := sl }
  live : ∀ b o, h.get? b = some o → ∃ o', h'.get? b = some o'

theorem Rest.refl (fs S : List Addr) (h : Heap) : Rest fs S h h := ⟨fun _ _ e _ _ => e, fun _ o e _ _ => ⟨o.slots, e⟩, fun _ o e => ⟨o, e⟩⟩
theorem Rest.trans {fs S : List Addr} {h h1 h2 : Heap} (x : Rest fs S h h1) (y : Rest fs S h1 h2) : Rest fs S h h2 :=
  ⟨fun b o e n1 n2 => y.keep b o (x.keep b o e n1 n2) n1 n2, fun b o e n1 n2 => by
    obtain ⟨sl, e1⟩ := x.data b o e n1 n2
    obtain ⟨sl', e2⟩ := y.data b _ e1 n1 n2
    exact ⟨sl', e2⟩, fun b o e => by
    obtain ⟨o1, e1⟩ := x.live b o e
    exact y.live b o1 e1⟩
theorem Rest.of_keep {fs S : List Addr} {h h' : Heap} (k : ∀ b o, h.get? b = some o → b ∉ S → h'.get? b = some o) (l : ∀ b o, h.get? b = some o → ∃ o', h'.get? b = some o') : Rest fs S h h' :=
  ⟨fun b o e _ n => k b o e n, fun b o e _ n => ⟨o.slots, k b o e n⟩, l⟩
theorem Rest.update {fs : List Addr} {h : Heap} {a : Addr} {o : Obj} (f : Obj → Obj) (ho : h.get? a = some o) (hf : (f o).isFreed = false) : Rest fs [a] h (h.update a f) :=
  Rest.of_keep (fun b x e n => (Heap.get?_update_other h f (fun q => n (by rw [q]; exact .head _))).trans e) fun b x e => by
    by_cases q : a = b
    · subst q; exact ⟨_, Heap.get?_update_self f ho hf⟩
    · exact ⟨x, (Heap.get?_update_other h f q).trans e⟩
theorem Rest.push {fs S : List Addr} {h : Heap} (o : Obj) : Rest fs S h (h.push o) := Rest.of_keep (fun _ _ e _ => Heap.get?_push_of_some o e) fun _ x e => ⟨x, Heap.get?_push_of_some o e⟩
theorem Rest.mono {fs S S' : List Addr} {h h' : Heap} (x : Rest fs S h h') (k : ∀ b, b ∈ S → b ∈ S') : Rest fs S' h h' :=
  ⟨fun b o e n1 n2 => x.keep b o e n1 fun m => n2 (k b m), fun b o e n1 n2 => x.data b o e n1 fun m => n2 (k b m), x.live⟩
theorem Rest.slots {fs S : List Addr} {h h' : Heap} (x : Heap.SlotsOnly fs h h') : Rest fs S h h' :=
  ⟨fun b o e n _ => (x.2.1 b n).trans e, fun b o e _ _ => x.2.2 b o e, fun b o e => let ⟨_, q⟩ := x.2.2 b o e; ⟨_, q⟩⟩

noncomputable def Tb.at : Tb → List Addr
  | none => []
  | some (T, _) => [T]

section
variable {M : Model} {A : Around} {E : Value → Shared → Prop} {s : Shared}

theorem size_none (h : Heap) : h.get? h.objs.size = none := by
  cases q : h.get? h.objs.size with
  | none => rfl
  | some o => exact absurd (Heap.lt_size q) (Nat.lt_irrefl _)

theorem newEntry_ok {base : Heap} {env : Env} {outer : List Env} {L e C d : Addr} {vs : Array Value} {sl : Array (Option Value)} {head : Value} {hadNext : Bool} {Q : Unit → Shared → Prop}
    (hfr : A.frames = some (env :: outer)) (hl : s.heap.FunFrames base (env :: outer)) (hf : env.frame = some L)
    (he : s.heap.get? e = some ⟨.ref C, some d, .fields vs, sl⟩) (hsz : 1 < vs.size)
    (h : ∀ h' T, ExcAt h' e C d (some (T, rawInt L)) → s.heap.get? T = none → Rest (FA (env :: outer)) [e] s.heap h' → Q () { s with heap := h' }) :
    wpAny M A (do let a ← frameOf env; let pl ← entryPlaceOf L hadNext; let b ← EntryCells.newEntry head a .none (rawInt L) .none pl; setField (.ref e) 1 b) Q E s := by
  have hene : e ∉ (env :: outer).filterMap (·.frame) := fun hm => by
    obtain ⟨_, o, ho, hnf⟩ := hl.mem hm
    rw [he] at ho; cases ho; exact hnf vs rfl
  refine wpAny_bind (wpAny_frameOf_fun hfr hl hf fun h₁ hs₁ => ?_)
  refine wpAny_bind (wpAny_entryPlaceOf fun pl hpl => ?_)
  unfold EntryCells.newEntry newFields
  refine wpAny_bind (wpAny_newObj_type ?_ (hpl.sizeOk5 _ _ _ _ _))
  have he₁ : h₁.get? e = some _ := (hs₁.2.1 e hene).trans he
  have he₂ := Heap.get?_push_of_some (h := h₁) { cls := .type "traceback", dict := none, data := .fields ([head, .ref L, .none, rawInt L, .none] ++ (if pl.isEmpty then List.replicate 6 Value.none else pl)).toArray } he₁
  have r1 : Rest (FA (env :: outer)) [e] s.heap (h₁.push { cls := .type "traceback", dict := none, data := .fields ([head, .ref L, .none, rawInt L, .none] ++ (if pl.isEmpty then List.replicate 6 Value.none else pl)).toArray }) :=
    (Rest.slots hs₁).trans (Rest.push _)
  have r2 := Rest.update (fs := FA (env :: outer)) (Obj.mapFields (·.setIfInBounds 1 (Value.ref h₁.objs.size))) he₂ rfl
  refine wpAny_setField he₂ rfl hsz (h _ h₁.objs.size ?_ ?_ (r1.trans r2))
  · have hTe : h₁.objs.size ≠ e := Nat.ne_of_gt (Heap.lt_size he₁)
    refine ⟨_, _, Heap.get?_update_self _ he₂ rfl, ?_, ?_⟩
    · simp only [Array.size_setIfInBounds]; exact hsz
    · refine ⟨by simp [hsz], hTe, _, _, (Heap.get?_update_other _ _ (Ne.symm hTe)).trans (Heap.get?_push_size h₁ rfl), rfl, ?_⟩
      simp
  · rw [hs₁.1]; exact size_none _

theorem note_ok {base : Heap} {env : Env} {outer : List Env} {L e C d : Addr} {tb : Tb} {Q : Unit → Shared → Prop}
    (hfr : A.frames = some (env :: outer)) (hl : s.heap.FunFrames base (env :: outer)) (hf : env.frame = some L)
    (hx : ExcAt s.heap e C d tb) (htb : ∀ T fl, tb = some (T, fl) → fl = .none ∨ fl = rawInt L)
    (h : ∀ h' T, ExcAt h' e C d (some (T, rawInt L)) → (s.heap.get? T = none ∨ T ∈ tb.at) → Rest (FA (env :: outer)) (e :: tb.at) s.heap h' → Q () { s with heap := h' }) :
    wpAny M A (noteFrame (.ref e) env) Q E s := by
  obtain ⟨vs, sl, he, hsz, ht⟩ := hx
  unfold noteFrame
  simp only [hf]
  cases tb with
  | none =>
    refine wpAny_bind (wpAny_field he rfl ht ?_)
    rw [if_neg (by decide)]
    exact newEntry_ok hfr hl hf he hsz fun h' T a b c => h h' T a (.inl b) c
  | some p =>
    obtain ⟨T, fl⟩ := p
    obtain ⟨h1, hTe, oT, ts, hT, hdT, h3⟩ := ht
    refine wpAny_bind (wpAny_field he rfl h1 ?_)
    rw [if_pos (show (Value.ref T != Value.none) = true from by simp)]
    refine wpAny_bind (wpAny_field hT hdT h3 ?_)
    rcases htb T fl rfl with rfl | rfl
    · rw [if_neg (show ¬ ((Value.none == rawInt L) = true) from by simp [rawInt])]
      refine wpAny_bind (wpAny_setField hT hdT (Array.getElem?_eq_some_iff.mp h3).1 ?_)
      have r1 := Rest.update (fs := FA (env :: outer)) (Obj.mapFields (·.setIfInBounds 3 Value.none)) hT (Obj.isFreed_of_fields (Obj.data_mapFields hdT _))
      have noRecord : ∀ b o, s.heap.get? b = some o → (∀ vs, o.data ≠ .fields vs) → b ≠ T := fun b o hb hnf q => by
        rw [q, hT] at hb; cases hb; exact hnf ts hdT
      refine newEntry_ok (base := base) hfr (hl.of_keeps fun b o hb hnf => ⟨o, (Heap.get?_update_other _ _ (Ne.symm (noRecord b o hb hnf))).trans hb, rfl⟩) hf
        ((Heap.get?_update_other _ _ hTe).trans he) hsz fun h' T' a b c => h h' T' a ?_ ((r1.mono ?_).trans (c.mono ?_))
      · by_cases q : T' = T
        · exact .inr (by rw [q]; exact .head _)
        · left
          rwa [Heap.get?_update_other _ _ (Ne.symm q)] at b
      · intro b m; exact .tail _ m
      · intro b m; rw [List.mem_singleton.mp m]; exact .head _
    · rw [if_pos (show (rawInt L == rawInt L) = true from by simp)]
      exact wpAny_pure (h s.heap T ⟨vs, sl, he, hsz, h1, hTe, oT, ts, hT, hdT, h3⟩ (.inr (.head _)) (Rest.refl _ _ _))

theorem flight_ok {e C d T : Addr} {fl : Value} {fr : Option Addr} {fs : List Addr} {Q : Unit → Shared → Prop} (hx : ExcAt s.heap e C d (some (T, fl)))
    (h : ∀ h', ExcAt h' e C d (some (T, fr.elim .none fun f => rawInt f)) → Rest fs [T] s.heap h' → Q () { s with heap := h' }) :
    wpAny M A (setFlight (.ref e) fr) Q E s := by
  obtain ⟨vs, sl, he, hsz, h1, hTe, oT, ts, hT, hdT, h3⟩ := hx
  have hsz3 : 3 < ts.size := (Array.getElem?_eq_some_iff.mp h3).1
  unfold setFlight
  refine wpAny_bind (wpAny_field he rfl h1 ?_)
  rw [if_pos (show (Value.ref T != Value.none) = true from by simp)]
  refine wpAny_setField hT hdT hsz3 (h _ ?_ (Rest.update _ hT (Obj.isFreed_of_fields (Obj.data_mapFields hdT _))))
  exact ⟨vs, sl, (Heap.get?_update_other _ _ hTe).trans he, hsz, h1, hTe, _, _, Heap.get?_update_self _ hT (Obj.isFreed_of_fields (Obj.data_mapFields hdT _)), Obj.data_mapFields hdT _, by simp [hsz3]⟩

theorem leaving_ok {base : Heap} {env : Env} {outer : List Env} {L e C d : Addr} {tb : Tb} {Q : Unit → Shared → Prop}
    (hfr : A.frames = some (env :: outer)) (hl : s.heap.FunFrames base (env :: outer)) (hf : env.frame = some L)
    (hx : ExcAt s.heap e C d tb) (htb : ∀ T fl, tb = some (T, fl) → fl = .none ∨ fl = rawInt L)
    (h : ∀ h' T, ExcAt h' e C d (some (T, .none)) → (s.heap.get? T = none ∨ T ∈ tb.at) → Rest (FA (env :: outer)) (e :: tb.at) s.heap h' → Q () { s with heap := h' }) :
    wpAny M A (leaving env (.ref e)) Q E s := by
  unfold leaving
  refine wpAny_bind (note_ok hfr hl hf hx htb fun h1 T a b c => ?_)
  refine flight_ok (fs := FA (env :: outer)) a fun h2 a' c' => h h2 T a' b ?_
  rcases b with b | b
  · refine ⟨fun x o q n1 n2 => c'.keep x o (c.keep x o q n1 n2) n1 fun m => ?_, fun x o q n1 n2 => ?_, fun x o q => ?_⟩
    · rw [List.mem_singleton.mp m, b] at q; cases q
    · obtain ⟨sl, q1⟩ := c.data x o q n1 n2
      obtain ⟨sl', q2⟩ := c'.data x _ q1 n1 fun m => by
        rw [List.mem_singleton.mp m, b] at q; cases q
      exact ⟨sl', q2⟩
    · obtain ⟨o1, q1⟩ := c.live x o q
      exact c'.live x o1 q1
  · exact c.trans (c'.mono fun x m => by rw [List.mem_singleton.mp m]; exact .tail _ b)

theorem cameBack_ok {base : Heap} {env : Env} {outer : List Env} {L e C d T : Addr} {fl : Value} (hf : env.frame = some L)
    (hx : ExcAt s.heap e C d (some (T, fl)))
    (h : ∀ h', ExcAt h' e C d (some (T, rawInt L)) → Rest (FA (env :: outer)) [T] s.heap h' → E (.ref e) { s with heap := h' }) :
    cameBackBy M A env E (.ref e) s := by
  unfold cameBackBy
  obtain ⟨vs, sl, he, hsz, h1, r⟩ := id hx
  refine wpAny_bind (wpAny_field he rfl h1 ?_)
  rw [if_neg (show ¬ ((Value.ref T == Value.none) = true) from by simp)]
  rw [hf]
  exact flight_ok (fs := FA (env :: outer)) hx fun h' a b => h h' a b
end
end
section
open PySem PySem.Calls PySem.W

section
variable (prog : Program) (w : World) (base : Heap) (C : Addr)

structure BaseOk (mg mb : Str → Option Value) : Prop where
  nolimit : base.NoLimit
  seer : base.NoSeer
  tree : prog.given.tree = none
  globals : base.Ns mainGlobals mg
  builtins : base.Ns builtinsNs mb

noncomputable def ValAt (_ : Program) (_ : World) (h : Heap) (d : Addr) (msg : List Nat) : Prop := ∃ f t, h.Ns d f ∧ f "value" = some (.str ⟨msg.toArray⟩ t)

inductive ErrF (l : List Env) (own : Value → Prop) (fr : List Addr) (h0 : Hp) (μ0 : List Addr) (X : XP) (ev : Value) (s' : Shared) : Prop where
  | mk (e d : Addr) (tb : Tb) (msg : List Nat) (cells' : List Cell) (μ' : List Addr) (h1 : ev = .ref e) (h2 : X msg cells') (h3 : Inv prog w base l μ' cells' s'.heap) (h4 : Gro h0.1 μ0 μ') (h5 : Ext (FA l) (fr ++ μ0) h0 (hOf s'))
    (h6 : ExcAt s'.heap e C d tb) (h7 : ∀ T fl, tb = some (T, fl) → fl = .none ∨ own fl) (h8 : ValAt prog w s'.heap d msg) (h9 : h0.1.get? e = none) (h10 : d ∉ FA l) (h11 : ∀ T ∈ tb.at, h0.1.get? T = none) : ErrF l own fr h0 μ0 X ev s'

inductive EndV (l : List Env) (h0 : Hp) (μ0 : List Addr) (P : D → List Cell → Prop) (v : Value) (s' : Shared) : Prop where
  | mk (d : D) (cells' : List Cell) (μ' : List Addr) (h1 : P d cells') (h2 : Inv prog w base l μ' cells' s'.heap) (h3 : VR s'.heap μ' d v) (h4 : Gro h0.1 μ0 μ') (h5 : Ext (FA l) ([] ++ μ0) h0 (hOf s')) : EndV l h0 μ0 P v s'
noncomputable def EndC (l : List Env) (h0 : Hp) (μ0 : List Addr) (P : D → List Cell → Prop) (X : XP) (r : Result) (s' : Shared) : Prop := match r with
  | .ok (.ret v) => EndV prog w base l h0 μ0 P v s'
  | .ok _ => False
  | .error e => ErrF prog w base C l (fun _ => False) [] h0 μ0 X e s'

structure AOk (A : Around) (l : List Env) (n : Nat) : Prop where
  frames : A.frames = some l
  handled : A.handled = none
  depth : A.depth + n ≤ 890
  units : A.units + 3 * n ≤ 5000

noncomputable def CallOK (fn : Nat → Option Addr) (n : Nat) : Call := fun f ds cells P X => ∃ a, fn f = some a ∧
  ∀ A l μ s vs, AOk A l n → Inv prog w base l μ cells s.heap → VRs s.heap μ ds vs → codeAny (model prog w) A (.call (.ref a) ⟨vs, []⟩) (EndC prog w base C l (hOf s) μ P X) s

variable (env : Env) (outer : List Env) (names : List Str)

inductive PostE (h0 : Hp) (μ0 : List Addr) (P : D → St → Prop) (v : Value) (s' : Shared) : Prop where
  | mk (d : D) (σ' : St) (μ' : List Addr) (h1 : P d σ') (h2 : Rel prog w base env outer names σ' μ' s'.heap) (h3 : VR s'.heap μ' d v) (h4 : Gro h0.1 μ0 μ') (h5 : Ext (FA (env :: outer)) ([env.locals] ++ μ0) h0 (hOf s')) : PostE h0 μ0 P v s'
inductive PostEs (h0 : Hp) (μ0 : List Addr) (P : List D → St → Prop) (vs : List Value) (s' : Shared) : Prop where
  | mk (ds : List D) (σ' : St) (μ' : List Addr) (h1 : P ds σ') (h2 : Rel prog w base env outer names σ' μ' s'.heap) (h3 : VRs s'.heap μ' ds vs) (h4 : Gro h0.1 μ0 μ') (h5 : Ext (FA (env :: outer)) ([env.locals] ++ μ0) h0 (hOf s')) : PostEs h0 μ0 P vs s'
inductive PostB (h0 : Hp) (μ0 : List Addr) (P : Bool → St → Prop) (b : Bool) (s' : Shared) : Prop where
  | mk (σ' : St) (μ' : List Addr) (h1 : P b σ') (h2 : Rel prog w base env outer names σ' μ' s'.heap) (h3 : Gro h0.1 μ0 μ') (h4 : Ext (FA (env :: outer)) ([env.locals] ++ μ0) h0 (hOf s')) : PostB h0 μ0 P b s'
noncomputable def ErrS (h0 : Hp) (μ0 : List Addr) (X : XP) : Value → Shared → Prop :=
  ErrF prog w base C (env :: outer) (fun fl => fl = rawInt env.locals) [env.locals] h0 μ0 X

variable (fn : Nat → Option Addr)

noncomputable def SoundE (e : Expr) (t : E) : Prop := ∀ outer n A σ μ s P X, AOk A (env :: outer) n → Rel prog w base env outer names σ μ s.heap → wpE (CallOK prog w base C fn n) t σ P X →
  wpAny (model prog w) A (eval e env) (PostE prog w base env outer names (hOf s) μ P) (ErrS prog w base C env outer (hOf s) μ X) s
noncomputable def SoundEs (es : List Expr) (ts : Es) : Prop := ∀ outer n A pos σ μ s P X, AOk A (env :: outer) n → Rel prog w base env outer names σ μ s.heap → wpEs (CallOK prog w base C fn n) ts σ P X →
  wpAny (model prog w) A (spliced (backTo pos (starEach es env))) (PostEs prog w base env outer names (hOf s) μ P) (ErrS prog w base C env outer (hOf s) μ X) s
noncomputable def SoundB (e : Expr) (t : E) : Prop := ∀ outer n A σ μ s P X, AOk A (env :: outer) n → Rel prog w base env outer names σ μ s.heap → wpB (CallOK prog w base C fn n) t σ P X →
  wpAny (model prog w) A (isTrue e env (eval e env)) (PostB prog w base env outer names (hOf s) μ P) (ErrS prog w base C env outer (hOf s) μ X) s
end

section
variable {prog : Program} {w : World} {base : Heap} {C : Addr} {env : Env} {outer : List Env} {names : List Str} {fn : Nat → Option Addr}

theorem none_of_live {h h1 : Hp} {fs fr : List Addr} (x : Ext fs fr h h1) {a : Addr} (e : h1.1.get? a = none) : h.1.get? a = none := by
  cases q : h.1.get? a with
  | none => rfl
  | some o => obtain ⟨o', e'⟩ := x.live a o q; rw [e] at e'; cases e'

theorem ErrF.trans {l : List Env} {own : Value → Prop} {fr : List Addr} {h0 h1 : Hp} {μ0 μ1 : List Addr} {X : XP} {ev : Value} {s' : Shared}
    (g : Gro h0.1 μ0 μ1) (x : Ext (FA l) (fr ++ μ0) h0 h1) (y : ErrF prog w base C l own fr h1 μ1 X ev s') : ErrF prog w base C l own fr h0 μ0 X ev s' := by
  obtain ⟨e, d, tb, msg, cells', μ', h1, h2, h3, h4, h5, h6, h7, h8, h9, h10, h11⟩ := y
  exact ⟨e, d, tb, msg, cells', μ', h1, h2, h3, g.trans x h4, x.trans g h5, h6, h7, h8, none_of_live x h9, h10, fun T m => none_of_live x (h11 T m)⟩

theorem next {α : Type} {t : Sem α} {A : Around} {s0 : Hp} {μ0 : List Addr} {X : XP} {s : Shared} {R : α → Shared → Prop} {Q : α → Shared → Prop}
    (h : wpAny (model prog w) A t R (ErrS prog w base C env outer s0 μ0 X) s) (k : ∀ a s', R a s' → Q a s') : wpAny (model prog w) A t Q (ErrS prog w base C env outer s0 μ0 X) s :=
  wpAny_mono h k fun _ _ e => e

theorem later {α : Type} {t : Sem α} {A : Around} {h0 h1 : Hp} {μ0 μ1 : List Addr} {X : XP} {s : Shared} {Q Q' : α → Shared → Prop} (g : Gro h0.1 μ0 μ1) (x : Ext (FA (env :: outer)) ([env.locals] ++ μ0) h0 h1)
    (h : wpAny (model prog w) A t Q (ErrS prog w base C env outer h1 μ1 X) s) (k : ∀ a s', Q a s' → Q' a s') : wpAny (model prog w) A t Q' (ErrS prog w base C env outer h0 μ0 X) s :=
  wpAny_mono h k fun _ _ e => ErrF.trans g x e

theorem PostE.trans {h0 h1 : Hp} {μ0 μ1 : List Addr} {P : D → St → Prop} {v : Value} {s' : Shared} (g : Gro h0.1 μ0 μ1) (x : Ext (FA (env :: outer)) ([env.locals] ++ μ0) h0 h1)
    (y : PostE prog w base env outer names h1 μ1 P v s') : PostE prog w base env outer names h0 μ0 P v s' := by
  obtain ⟨d, σ', μ', a, b, c, d1, d2⟩ := y
  exact ⟨d, σ', μ', a, b, c, g.trans x d1, x.trans g d2⟩
theorem PostB.trans {h0 h1 : Hp} {μ0 μ1 : List Addr} {P : Bool → St → Prop} {v : Bool} {s' : Shared} (g : Gro h0.1 μ0 μ1) (x : Ext (FA (env :: outer)) ([env.locals] ++ μ0) h0 h1)
    (y : PostB prog w base env outer names h1 μ1 P v s') : PostB prog w base env outer names h0 μ0 P v s' := by
  obtain ⟨σ', μ', a, b, d1, d2⟩ := y
  exact ⟨σ', μ', a, b, g.trans x d1, x.trans g d2⟩

theorem Ext.push {fs fr : List Addr} {h : Hp} (o : Obj) : Ext fs fr h (hW h (h.1.push o)) := ⟨fun _ _ e _ _ => Heap.get?_push_of_some o e, fun _ x e _ _ => ⟨x.slots, Heap.get?_push_of_some o e⟩, fun _ x e => ⟨x, Heap.get?_push_of_some o e⟩, rfl⟩

theorem CellAt.mono {h h' : Heap} {μ μ' : List Addr} {a : Addr} {c : Cell} (t : Tups h h') (p : μ <+: μ') (k : ∀ o, h.get? a = some o → h'.get? a = some o) (x : CellAt prog w h μ a c) : CellAt prog w h' μ' a c := by
  cases c with
  | lst ds => obtain ⟨vs, n, e, r⟩ := x; exact ⟨vs, n, k _ e, VRs.mono t p r⟩
  | dct es => obtain ⟨kvs, ⟨o, es', ep, e, q⟩, r1, r2⟩ := x; exact ⟨kvs, ⟨o, es', ep, k _ e, q⟩, r1, VRs.mono t p r2⟩

theorem Inv.grow {l : List Env} {μ : List Addr} {cells : List Cell} {h h' : Heap} (I : Inv prog w base l μ cells h) (k : ∀ b o, h.get? b = some o → h'.get? b = some o) : Inv prog w base l μ cells h' where
  stays b o e := k _ _ (I.stays b o e)
  frames := I.frames.of_keeps fun b o e _ => ⟨o, k _ _ e, rfl⟩
  len := I.len
  nodup := I.nodup
  fresh := I.fresh
  apart := I.apart
  dicts a m := let ⟨f, hf⟩ := I.dicts a m; ⟨f, hf.keeps k⟩
  cells i a c e1 e2 := (I.cells i a c e1 e2).mono (fun a vs n e => k _ _ e) (List.prefix_refl _) (k a)

theorem Rel.grow {σ : St} {μ : List Addr} {h h' : Heap} (R : Rel prog w base env outer names σ μ h) (k : ∀ b o, h.get? b = some o → h'.get? b = some o) : Rel prog w base env outer names σ μ h' where
  inv := R.inv.grow k
  ns := by
    obtain ⟨m, hm, hv⟩ := R.ns
    refine ⟨m, hm.keeps k, fun i x d e1 e2 => ?_⟩
    obtain ⟨v, e, r⟩ := hv i x d e1 e2
    exact ⟨v, e, r.mono (fun a vs n e => k _ _ e) (List.prefix_refl _)⟩

theorem Ext.of_keeps {fs fr : List Addr} {h h' : Hp} (k : ∀ b o, h.1.get? b = some o → h'.1.get? b = some o) (e : h'.2 = h.2 := by rfl) : Ext fs fr h h' := ⟨fun _ _ e _ _ => k _ _ e, fun _ x e _ _ => ⟨x.slots, k _ _ e⟩, fun _ x e => ⟨x, k _ _ e⟩, e⟩

theorem PostE.here {h0 : Hp} {μ : List Addr} {σ : St} {P : D → St → Prop} {v : Value} {s' : Shared} {d : D} (R : Rel prog w base env outer names σ μ h0.1) (k : ∀ b o, h0.1.get? b = some o → s'.heap.get? b = some o)
    (p : P d σ) (r : VR s'.heap μ d v) (e : (hOf s').2 = h0.2 := by rfl) : PostE prog w base env outer names h0 μ P v s' := ⟨d, σ, μ, p, R.grow k, r, Gro.refl _ _, Ext.of_keeps k e⟩

theorem keepId {h : Heap} : ∀ b o, h.get? b = some o → h.get? b = some o := fun _ _ e => e
theorem keepPush {h : Heap} (o' : Obj) : ∀ b o, h.get? b = some o → (h.push o').get? b = some o := fun _ _ e => Heap.get?_push_of_some o' e

theorem sound_none {k pos} : SoundE prog w base C env names fn (.Constant .none k pos) (.cst .none) := fun outer n A σ μ s P X a R h =>
  wpAny_Constant_none (PostE.here R keepId h rfl)
theorem sound_bool {b k pos} : SoundE prog w base C env names fn (.Constant (.bool b) k pos) (.cst (.bool b)) := fun outer n A σ μ s P X a R h =>
  wpAny_Constant_bool (PostE.here R keepId h rfl)
theorem sound_int {i k pos} : SoundE prog w base C env names fn (.Constant (.int i) k pos) (.cst (.int i)) := fun outer n A σ μ s P X a R h =>
  wpAny_Constant_int (PostE.here R keepId h ⟨_, rfl⟩)
theorem sound_str {x : Str} {l : List Nat} {k pos} (e : x = ⟨l.toArray⟩) : SoundE prog w base C env names fn (.Constant (.str x) k pos) (.cst (.str l)) := fun outer n A σ μ s P X a R h =>
  wpAny_Constant_str (PostE.here R keepId h ⟨_, by rw [e]⟩)

theorem sound_loc {x : Str} {i : Nat} {pos} (ok : EnvOk env names) (hi : names[i]? = some x) : SoundE prog w base C env names fn (.Name x pos) (.loc i) := fun outer n A σ μ s P X a R h => by
  obtain ⟨d, e, p⟩ := h
  obtain ⟨m, hm, hv⟩ := R.ns
  obtain ⟨v, ev, r⟩ := hv i x d hi e
  exact wpAny_Name (wpAny_loadName_local ok.kind (ok.loc i x hi) hm ev (PostE.here R keepId p r)) (ok.dbg i x hi)

theorem two {l r : Expr} {a b : E} (hl : SoundE prog w base C env names fn l a) (hr : SoundE prog w base C env names fn r b) (ok : EnvOk env names)
    {outer : List Env} {n : Nat} {A : Around} {σ : St} {μ : List Addr} {s : Shared} {X : XP} {P : D → D → St → Prop} {Q : Value → Value → Shared → Prop} (hA : AOk A (env :: outer) n) (R : Rel prog w base env outer names σ μ s.heap)
    (h : wpE (CallOK prog w base C fn n) a σ (fun x σ1 => wpE (CallOK prog w base C fn n) b σ1 (fun y σ2 => P x y σ2) X) X)
    (k : ∀ x y v u σ' μ' s', P x y σ' → Rel prog w base env outer names σ' μ' s'.heap → VR s'.heap μ' x v → VR s'.heap μ' y u → Gro s.heap μ μ' → Ext (FA (env :: outer)) ([env.locals] ++ μ) (hOf s) (hOf s') → Q v u s') :
    wpAny (model prog w) A (eval l env) (fun v s1 => wpAny (model prog w) A (eval r env) (fun u s2 => Q v u s2) (ErrS prog w base C env outer (hOf s) μ X) s1) (ErrS prog w base C env outer (hOf s) μ X) s := by
  refine next (hl outer n A σ μ s _ X hA R h) fun v s1 p1 => ?_
  obtain ⟨x, σ1, μ1, h1, R1, r1, g1, x1⟩ := p1
  refine later g1 x1 (hr outer n A σ1 μ1 s1 _ X hA R1 h1) fun u s2 p2 => ?_
  obtain ⟨y, σ2, μ2, h2, R2, r2, g2, x2⟩ := p2
  exact k x y v u σ2 μ2 s2 h2 R2 (r1.mono (R1.tups ok x2) g2.pre) r2 (g1.trans x1 g2) (x1.trans g1 x2)

end
end
section
open PySem PySem.Calls PySem.W

section
variable {prog : Program} {w : World} {base : Heap} {C : Addr} {env : Env} {outer : List Env} {names : List Str} {fn : Nat → Option Addr}

theorem sizeLine_is : sizeLine = 2 ^ 24 := by unfold sizeLine; rfl
theorem fits_of {l : List Nat} (h : l.length ≤ 2 ^ 24) : (⟨l.toArray⟩ : Str).length ≤ sizeLine := by
  rw [sizeLine_is]; simpa [Str.length] using h
theorem cat_is (a b : List Nat) : (⟨a.toArray⟩ : Str) ++ ⟨b.toArray⟩ = ⟨(a ++ b).toArray⟩ := by
  show (⟨a.toArray ++ b.toArray⟩ : Str) = _
  rw [List.append_toArray]

inductive BopIs : BOp → Operator → Prop
  | add : BopIs .add .Add
  | sub : BopIs .sub .Sub
  | mul : BopIs .mul .Mult
  | mod : BopIs .mod .Mod
  | fdiv : BopIs .fdiv .FloorDiv
inductive AopIs : BOp → Operator → Prop
  | add : AopIs .add .Add
  | sub : AopIs .sub .Sub
inductive CopIs : COp → CmpOp → Prop
  | eq : CopIs .eq .Eq
  | ne : CopIs .ne .NotEq
  | lt : CopIs .lt .Lt
  | le : CopIs .le .LtE
  | gt : CopIs .gt .Gt
  | ge : CopIs .ge .GtE
  | inn : CopIs .inn .In
  | notIn : CopIs .notIn .NotIn
  | is : CopIs .is .Is
  | isNot : CopIs .isNot .IsNot

theorem mul_okS {A : Around} {s : Shared} {X : Value → Shared → Prop} {a : Nat} {b : Int} {t t' : Tok} {Q : Value → Shared → Prop} (hb : 0 ≤ b ∧ b ≤ 2 ^ 20)
    (k : ∀ tk t, Q (.str ⟨(List.replicate b.toNat a).toArray⟩ t) { s with toks := tk }) : wpAny (model prog w) A (binaryOp .Mult (.str ⟨[a].toArray⟩ t) (.int b t')) Q X s := by
  refine SB.mul ⟨?_, fun h1 _ => ?_, fun _ _ => ?_⟩ fun t k' => ?_
  · rw [Bool.or_eq_false_iff]
    exact ⟨decide_eq_false (by walk_at "om"), decide_eq_false (by walk_at "om")⟩
  · show ¬ ((1 : Int) > (2 ^ 63 - 1) / b)
    have : 1 ≤ ((2 : Int) ^ 63 - 1) / b := by
      rw [Int.le_ediv_iff_mul_le (by walk_at "om")]; walk_at "om"
    walk_at "om"
  · unfold Builtin.Str.tooLong
    rw [sizeLine_is]
    show decide (1 * b.toNat > 2 ^ 24) = false
    exact decide_eq_false (by walk_at "om")
  · have e : Txt.mul ⟨[a].toArray⟩ b = ⟨(List.replicate b.toNat a).toArray⟩ := by
      have := PyProof.Rows.mul_one_list a b
      show (⟨(Txt.mul ⟨#[a]⟩ b).cps⟩ : Str) = _
      rw [← this]
    rw [e]
    exact k _ _
theorem bits_small {b : Int} (hb : 0 < b ∧ b < 2 ^ 20) : Builtin.Int.intBits b ≤ 20 := by
  unfold Builtin.Int.intBits
  split
  · walk_at "om"
  · have : b.natAbs.log2 < 20 := (Nat.log2_lt (by walk_at "om")).mpr (by walk_at "om")
    walk_at "om"
theorem bin_ok {A : Around} {s : Shared} {X : Value → Shared → Prop} {op : BOp} {o : Operator} {x y d : D} {v u : Value} {h : Heap} {μ : List Addr} {Q : Value → Shared → Prop}
    (hop : BopIs op o)
    (r1 : VR h μ x v) (r2 : VR h μ y u) (hd : binD op x y = some d) (hs : sizeOk d) (hf : op = .fdiv → PylongRoom (model prog w) A s)
    (k : ∀ r tk, VR h μ d r → Q r { s with toks := tk }) : wpAny (model prog w) A (binaryOp o v u) Q X s := by
  cases hop with
  | add =>
    cases x with
    | int a =>
      obtain ⟨b, e, rfl⟩ := ms hd
      obtain rfl := asI_eq e
      obtain ⟨t, rfl⟩ := r1; obtain ⟨t', rfl⟩ := r2
      exact PyProof.Rows.add_int (k _ _ ⟨_, rfl⟩)
    | str a =>
      obtain ⟨b, e, rfl⟩ := ms hd
      obtain rfl := asS_eq e
      obtain ⟨t, rfl⟩ := r1; obtain ⟨t', rfl⟩ := r2
      refine SB.add (fun t k' => ?_) ?_
      · rw [cat_is]; exact k _ _ ⟨_, rfl⟩
      · have := fits_of hs
        simp only [Str.length, List.size_toArray, List.length_append] at this ⊢
        exact this
    | _ => exact nn hd
  | sub =>
    obtain ⟨a, e, hd⟩ := bs hd
    obtain ⟨b, e', rfl⟩ := ms hd
    obtain rfl := asI_eq e
    obtain rfl := asI_eq e'
    obtain ⟨t, rfl⟩ := r1; obtain ⟨t', rfl⟩ := r2
    exact PyProof.Rows.sub_int (k _ _ ⟨_, rfl⟩)
  | mul =>
    obtain ⟨b, e, hd⟩ := bs hd
    obtain rfl := asI_eq e
    obtain ⟨t', rfl⟩ := r2
    cases x with
    | str l =>
      obtain ⟨a, e, hd⟩ := bs hd
      obtain rfl := one_eq e
      obtain ⟨hb, hd⟩ := ig hd
      cases hd
      obtain ⟨t, rfl⟩ := r1
      exact mul_okS hb fun tk t => k _ _ ⟨_, rfl⟩
    | int a =>
      obtain ⟨hb, hd⟩ := ig hd
      cases hd
      obtain ⟨t, rfl⟩ := r1
      exact PyProof.Rows.mul_int (k _ _ ⟨_, rfl⟩) (.of_right (Nat.le_trans (bits_small hb) (by decide)))
    | _ => exact nn hd
  | mod =>
    obtain ⟨a, e, hd⟩ := bs hd
    obtain ⟨b, e', hd⟩ := bs hd
    obtain ⟨hb, hd⟩ := ig hd
    cases hd
    obtain rfl := asI_eq e
    obtain rfl := asI_eq e'
    obtain ⟨t, rfl⟩ := r1; obtain ⟨t', rfl⟩ := r2
    exact PyProof.Rows.mod_int' hb (k _ _ ⟨_, rfl⟩)
  | fdiv =>
    obtain ⟨a, e, hd⟩ := bs hd
    obtain ⟨b, e', hd⟩ := bs hd
    obtain ⟨hb, hd⟩ := ig hd
    cases hd
    obtain rfl := asI_eq e
    obtain rfl := asI_eq e'
    obtain ⟨t, rfl⟩ := r1; obtain ⟨t', rfl⟩ := r2
    exact PyProof.Rows.floordiv_int (by walk_at "om") (k _ _ ⟨_, rfl⟩) (.inr (hf rfl))

theorem room_of {A : Around} {n : Nat} {s : Shared} {σ : St} {μ : List Addr} {mg mb : Str → Option Value} (B : BaseOk prog base mg mb) (ok : EnvOk env names) (hA : AOk A (env :: outer) n) (R : Rel prog w base env outer names σ μ s.heap) :
    PylongRoom (model prog w) A s := by
  refine PylongRoom.of (B.nolimit.keeps R.inv.stays) ?_ (SeerAt.of (B.seer.keeps R.inv.stays) B.tree hA.frames ok.plain ok.sync ok.builtins ok.globals)
  have := hA.depth
  unfold recursionLimit Builtin.pylongFrames; walk_at "om"

theorem sound_bin {l r : Expr} {a b : E} {op : BOp} {o : Operator} {pos : Pos} {mg mb : Str → Option Value} (B : BaseOk prog base mg mb) (ok : EnvOk env names)
    (hop : BopIs op o)
    (hl : SoundE prog w base C env names fn l a) (hr : SoundE prog w base C env names fn r b) :
    SoundE prog w base C env names fn (.BinOp l o r pos) (.bin op a b) := fun outer n A σ μ s P X hA R h => by
  refine wpAny_BinOp (two hl hr ok hA R h fun x y v u σ' μ' s' p R' r1 r2 g x' => ?_)
  obtain ⟨d, hd, hs, hp⟩ := p
  exact bin_ok hop r1 r2 hd hs (fun _ => room_of B ok hA R') fun v tk hv => ⟨d, σ', μ', hp, R', hv, g, x'⟩


theorem beq_str (a b : List Nat) : (((⟨a.toArray⟩ : Str).cps.toList == (⟨b.toArray⟩ : Str).cps.toList) : Bool) = (a == b) := rfl

noncomputable def isStrB (a : List Nat) : Value → Bool
  | .str z _ => z.cps.toList == a
  | _ => false

theorem inTup_ok {h : Heap} {μ : List Addr} {a : List Nat} {t : Tok} : ∀ {l : List D} {vs : List Value} {r : Bool}, inTup a l = some r → VRs h μ l vs →
    (∀ y, y ∈ vs → MeetsSeq.EqGives y (.str ⟨a.toArray⟩ t) (isStrB a y)) ∧ vs.any (isStrB a) = r := by
  intro l
  induction l with
  | nil =>
    intro vs r h1 h2
    cases h1; cases h2
    exact ⟨fun _ m => (by cases m), rfl⟩
  | cons d l ih =>
    intro vs r h1 h2
    obtain ⟨v, vs', rfl, hv, hr⟩ := h2
    obtain ⟨b, e, h1⟩ := bs h1
    obtain rfl := asS_eq e
    obtain ⟨q, hq, rfl⟩ := ms h1
    obtain ⟨he, hany⟩ := ih hq hr
    obtain ⟨u, rfl⟩ := hv
    refine ⟨fun y m => ?_, ?_⟩
    · rcases List.mem_cons.mp m with rfl | m
      · exact SeqRoads2.EqGives.str (⟨b.toArray⟩ : Str) ⟨a.toArray⟩ u t
      · exact he _ m
    · rw [List.any_cons, hany]
      have q1 : (b == a) = (a == b) := BEq.comm
      show ((b == a) || q) = ((a == b) || q)
      rw [q1]

theorem eq_okD {A : Around} {s : Shared} {X : Value → Shared → Prop} {x y : D} {v u : Value} {μ : List Addr} {t : Bool} {Q : Value → Shared → Prop}
    (r1 : VR s.heap μ x v) (r2 : VR s.heap μ y u) (ht : eqD x y = some t) (k : Q (.bool t) s) : wpAny (model prog w) A (compareOp .Eq v u) Q X s := by
  cases x with
  | int a =>
    obtain ⟨b, e, rfl⟩ := ms ht
    obtain rfl := asI_eq e
    obtain ⟨t, rfl⟩ := r1; obtain ⟨t', rfl⟩ := r2
    exact PyProof.Rows.eq_int k
  | str a =>
    obtain ⟨b, e, rfl⟩ := ms ht
    obtain rfl := asS_eq e
    obtain ⟨t, rfl⟩ := r1; obtain ⟨t', rfl⟩ := r2
    exact P.eq_str k
  | bool a =>
    obtain ⟨b, e, rfl⟩ := ms ht
    obtain rfl := asB_eq e
    cases r1; cases r2
    exact PyProof.Rows.eq_bool k
  | _ => exact nn ht
theorem ne_okD {A : Around} {s : Shared} {X : Value → Shared → Prop} {x y : D} {v u : Value} {μ : List Addr} {t : Bool} {Q : Value → Shared → Prop}
    (r1 : VR s.heap μ x v) (r2 : VR s.heap μ y u) (ht : eqD x y = some t) (k : Q (.bool !t) s) : wpAny (model prog w) A (compareOp .NotEq v u) Q X s := by
  cases x with
  | int a =>
    obtain ⟨b, e, rfl⟩ := ms ht
    obtain rfl := asI_eq e
    obtain ⟨t, rfl⟩ := r1; obtain ⟨t', rfl⟩ := r2
    exact PyProof.Rows.ne_int k
  | str a =>
    obtain ⟨b, e, rfl⟩ := ms ht
    obtain rfl := asS_eq e
    obtain ⟨t, rfl⟩ := r1; obtain ⟨t', rfl⟩ := r2
    exact P.ne_str k
  | bool a =>
    obtain ⟨b, e, rfl⟩ := ms ht
    obtain rfl := asB_eq e
    cases r1; cases r2
    exact PyProof.Rows.ne_bool k
  | _ => exact nn ht
theorem in_okD {A : Around} {s : Shared} {X : Value → Shared → Prop} {x y : D} {v u : Value} {μ : List Addr} {t : Bool} {Q : Value → Shared → Prop}
    (r1 : VR s.heap μ x v) (r2 : VR s.heap μ y u) (ht : inD x y = some t) (k : Q (.bool t) s) : wpAny (model prog w) A (compareOp .In v u) Q X s := by
  obtain ⟨l, e, ht⟩ := bs ht
  obtain rfl := asS_eq e
  obtain ⟨t1, rfl⟩ := r1
  cases y with
  | str b =>
    obtain ⟨a, e, rfl⟩ := ms ht
    obtain rfl := one_eq e
    obtain ⟨t', rfl⟩ := r2
    refine P.in_str ?_
    rw [show (⟨[a].toArray⟩ : Str) = ⟨#[a]⟩ from rfl, StrLaws.found_one]
    rw [show decide (a ∈ (⟨b.toArray⟩ : Str).cps.toList) = b.contains a by rw [List.contains_eq_mem]]
    exact k
  | tup tl =>
    obtain ⟨la, vs, n, rfl, hl, hv⟩ := r2
    obtain ⟨e1, e2⟩ := inTup_ok (t := t1) ht hv
    refine SeqRoads2.in_tuple (isStrB l) (fun y m => e1 y (by simpa using m)) hl ?_
    rw [show vs.toArray.any (isStrB l) = vs.any (isStrB l) by simp, e2]
    exact k
  | _ => exact nn ht
theorem nin_okD {A : Around} {s : Shared} {X : Value → Shared → Prop} {x y : D} {v u : Value} {μ : List Addr} {t : Bool} {Q : Value → Shared → Prop}
    (r1 : VR s.heap μ x v) (r2 : VR s.heap μ y u) (ht : inD x y = some t) (k : Q (.bool !t) s) : wpAny (model prog w) A (compareOp .NotIn v u) Q X s := by
  obtain ⟨l, e, ht⟩ := bs ht
  obtain rfl := asS_eq e
  obtain ⟨t1, rfl⟩ := r1
  cases y with
  | str b =>
    obtain ⟨a, e, rfl⟩ := ms ht
    obtain rfl := one_eq e
    obtain ⟨t', rfl⟩ := r2
    refine P.notIn_str ?_
    rw [show (⟨[a].toArray⟩ : Str) = ⟨#[a]⟩ from rfl, StrLaws.found_one]
    rw [show decide (a ∈ (⟨b.toArray⟩ : Str).cps.toList) = b.contains a by rw [List.contains_eq_mem]]
    exact k
  | tup tl =>
    obtain ⟨la, vs, n, rfl, hl, hv⟩ := r2
    obtain ⟨e1, e2⟩ := inTup_ok (t := t1) ht hv
    refine SeqRoads2.notIn_tuple (isStrB l) (fun y m => e1 y (by simpa using m)) hl ?_
    rw [show vs.toArray.any (isStrB l) = vs.any (isStrB l) by simp, e2]
    exact k
  | _ => exact nn ht
theorem is_okD {A : Around} {s : Shared} {X : Value → Shared → Prop} {x y : D} {v u : Value} {μ : List Addr} {t : Bool} {Q : Value → Shared → Prop}
    (r1 : VR s.heap μ x v) (r2 : VR s.heap μ y u) (ht : isNoneD x y = some t) (k : Q (.bool t) s) : wpAny (model prog w) A (compareOp .Is v u) Q X s := by
  cases y <;> first | exact nn ht | skip
  cases ht
  cases r2
  cases x with
  | none => cases r1; exact wpAny_is_self rfl k
  | bool _ => cases r1; exact wpAny_is_other rfl Value.noConfusion k
  | int _ => obtain ⟨_, rfl⟩ := r1; exact wpAny_is_other rfl Value.noConfusion k
  | str _ => obtain ⟨_, rfl⟩ := r1; exact wpAny_is_other rfl Value.noConfusion k
  | tup _ => obtain ⟨_, _, _, rfl, _⟩ := r1; exact wpAny_is_other rfl Value.noConfusion k
  | obj _ => obtain ⟨_, rfl, _⟩ := r1; exact wpAny_is_other rfl Value.noConfusion k
theorem isn_okD {A : Around} {s : Shared} {X : Value → Shared → Prop} {x y : D} {v u : Value} {μ : List Addr} {t : Bool} {Q : Value → Shared → Prop}
    (r1 : VR s.heap μ x v) (r2 : VR s.heap μ y u) (ht : isNoneD x y = some t) (k : Q (.bool !t) s) : wpAny (model prog w) A (compareOp .IsNot v u) Q X s := by
  cases y <;> first | exact nn ht | skip
  cases ht
  cases r2
  cases x with
  | none => cases r1; exact wpAny_isNot_self rfl k
  | bool _ => cases r1; exact wpAny_isNot_other rfl Value.noConfusion k
  | int _ => obtain ⟨_, rfl⟩ := r1; exact wpAny_isNot_other rfl Value.noConfusion k
  | str _ => obtain ⟨_, rfl⟩ := r1; exact wpAny_isNot_other rfl Value.noConfusion k
  | tup _ => obtain ⟨_, _, _, rfl, _⟩ := r1; exact wpAny_isNot_other rfl Value.noConfusion k
  | obj _ => obtain ⟨_, rfl, _⟩ := r1; exact wpAny_isNot_other rfl Value.noConfusion k
theorem cmp_ok {A : Around} {s : Shared} {X : Value → Shared → Prop} {op : COp} {o : CmpOp} {x y : D} {v u : Value} {μ : List Addr} {t : Bool} {Q : Value → Shared → Prop}
    (hop : CopIs op o) (r1 : VR s.heap μ x v) (r2 : VR s.heap μ y u) (ht : cmpD op x y = some t) (k : Q (.bool t) s) : wpAny (model prog w) A (compareOp o v u) Q X s := by
  cases hop with
  | eq => exact eq_okD r1 r2 ht k
  | ne =>
    obtain ⟨q, hq, rfl⟩ := ms ht
    exact ne_okD r1 r2 hq k
  | lt =>
    obtain ⟨a, e, ht⟩ := bs ht
    obtain ⟨b, e', rfl⟩ := ms ht
    obtain rfl := asI_eq e
    obtain rfl := asI_eq e'
    obtain ⟨t, rfl⟩ := r1; obtain ⟨t', rfl⟩ := r2
    exact PyProof.Rows.lt_int k
  | le =>
    obtain ⟨a, e, ht⟩ := bs ht
    obtain ⟨b, e', rfl⟩ := ms ht
    obtain rfl := asI_eq e
    obtain rfl := asI_eq e'
    obtain ⟨t, rfl⟩ := r1; obtain ⟨t', rfl⟩ := r2
    exact PyProof.Rows.le_int k
  | gt =>
    obtain ⟨a, e, ht⟩ := bs ht
    obtain ⟨b, e', rfl⟩ := ms ht
    obtain rfl := asI_eq e
    obtain rfl := asI_eq e'
    obtain ⟨t, rfl⟩ := r1; obtain ⟨t', rfl⟩ := r2
    exact PyProof.Rows.gt_int k
  | ge =>
    obtain ⟨a, e, ht⟩ := bs ht
    obtain ⟨b, e', rfl⟩ := ms ht
    obtain rfl := asI_eq e
    obtain rfl := asI_eq e'
    obtain ⟨t, rfl⟩ := r1; obtain ⟨t', rfl⟩ := r2
    exact PyProof.Rows.ge_int k
  | inn => exact in_okD r1 r2 ht k
  | notIn =>
    obtain ⟨q, hq, rfl⟩ := ms ht
    exact nin_okD r1 r2 hq k
  | is => exact is_okD r1 r2 ht k
  | isNot =>
    obtain ⟨q, hq, rfl⟩ := ms ht
    exact isn_okD r1 r2 hq k

theorem sound_cmp {l r : Expr} {a b : E} {op : COp} {o : CmpOp} {pos : Pos} (ok : EnvOk env names) (hop : CopIs op o) (hm : behindInMarks o r = false)
    (hl : SoundE prog w base C env names fn l a) (hr : SoundE prog w base C env names fn r b) :
    SoundE prog w base C env names fn (.Compare l [o] [r] pos) (.cmp op a b) := fun outer n A σ μ s P X hA R h => by
  refine wpAny_Compare1 (two hl hr ok hA R h fun x y v u σ' μ' s' p R' r1 r2 g x' => ?_) hm
  obtain ⟨t, ht, hp⟩ := p
  exact cmp_ok hop r1 r2 ht ⟨_, σ', μ', hp, R', rfl, g, x'⟩

theorem test_cmp {l r : Expr} {a b : E} {op : COp} {o : CmpOp} {pos : Pos} (ok : EnvOk env names) (hop : CopIs op o) (hm : behindInMarks o r = false)
    (hl : SoundE prog w base C env names fn l a) (hr : SoundE prog w base C env names fn r b) :
    SoundB prog w base C env names fn (.Compare l [o] [r] pos) (.cmp op a b) := fun outer n A σ μ s P X hA R h => by
  refine wpAny_isTrue_Compare1 (two hl hr ok hA R h fun x y v u σ' μ' s' p R' r1 r2 g x' => ?_) hm
  obtain ⟨t, ht, q, hq, hp⟩ := p
  cases hq
  exact cmp_ok hop r1 r2 ht (wpAny_truthy_bool ⟨σ', μ', hp, R', g, x'⟩)

end
end
section
open PySem PySem.Calls PySem.W

theorem pick_range {α : Type} (l : List α) (a : Nat) : ∀ m, a + m ≤ l.length → (List.range m).filterMap (fun k => l[a + k]?) = (l.drop a).take m
  | 0, _ => by simp
  | m + 1, h => by
    rw [List.range_succ, List.filterMap_append, pick_range l a m (by walk_at "om"), List.take_add_one]
    congr 1
    have : a + m < l.length := by walk_at "om"
    simp [List.getElem?_drop, List.getElem?_eq_getElem this]

theorem sliceRange_one (a b : Int) (ha : 0 ≤ a) : sliceRange a b 1 = (List.range (b - a).toNat).map fun k => a.toNat + k := by
  unfold sliceRange
  simp only [gt_iff_lt]
  rw [if_pos (by decide)]
  have : (if a < b then (b - a + 1 - 1) / 1 else (0 : Int)).toNat = (b - a).toNat := by split <;> walk_at "om"
  rw [this]
  refine List.map_congr_left fun k _ => ?_
  walk_at "om"

noncomputable def clipI (v : Option Int) (n : Nat) (dflt : Int) : Int := match v with
  | none => dflt
  | some i => max 0 (min (if i < 0 then i + n else i) n)

theorem clip_clamp (n : Nat) (k : Int) : clipI (some k) n 0 = clamp n k := by
  unfold clipI clamp
  simp only
  split <;> walk_at "om"
theorem clip_some (n : Nat) (k d : Int) : clipI (some k) n d = clamp n k := clip_clamp n k

theorem slice_pick {α : Type} {l r : List α} {y z : D} (h : sliceL l y z = some r) : ∃ lo hi, optOf y = some lo ∧ optOf z = some hi ∧
    (sliceRange (clipI lo l.length 0) (clipI hi l.length l.length) 1).filterMap (fun k => l[k]?) = r ∧ (sliceRange (clipI lo l.length 0) (clipI hi l.length l.length) 1).length = r.length ∧ r.Sublist l := by
  have key : ∀ a b : Nat, a ≤ l.length → b ≤ l.length → (sliceRange (a : Int) (b : Int) 1).filterMap (fun k => l[k]?) = (l.take b).drop a ∧ (sliceRange (a : Int) (b : Int) 1).length = ((l.take b).drop a).length ∧ ((l.take b).drop a).Sublist l := by
    intro a b ha hb
    refine ⟨?_, ?_, (List.drop_sublist _ _).trans (List.take_sublist _ _)⟩
    rotate_left
    · rw [sliceRange_one _ _ (by walk_at "om")]
      simp only [List.length_map, List.length_range, List.length_drop, List.length_take]
      walk_at "om"
    rw [sliceRange_one _ _ (by walk_at "om"), List.filterMap_map]
    have e : ((b : Int) - (a : Int)).toNat = b - a := by walk_at "om"
    rw [e]
    have := pick_range l a (b - a)
    by_cases hab : a ≤ b
    · rw [List.drop_take, ← pick_range l a (b - a) (by walk_at "om")]; rfl
    · have : b - a = 0 := by walk_at "om"
      rw [this, List.drop_eq_nil_of_le (by simp; walk_at "om")]; rfl
  have cl2 : ∀ k : Int, clamp l.length k ≤ l.length := by
    intro k; unfold clamp; split <;> walk_at "om"
  obtain ⟨lo, e1, h⟩ := bs h
  obtain ⟨hi, e2, rfl⟩ := ms h
  refine ⟨lo, hi, e1, e2, ?_⟩
  have ek : ∀ b : Nat, b ≤ l.length → ∀ a : Option Int, (sliceRange (clipI a l.length 0) (b : Int) 1).filterMap (fun k => l[k]?) = dropO l.length (l.take b) a ∧ (sliceRange (clipI a l.length 0) (b : Int) 1).length = (dropO l.length (l.take b) a).length ∧ (dropO l.length (l.take b) a).Sublist l := fun b hb a => by
    cases a with
    | none => exact key 0 b (Nat.zero_le _) hb
    | some a =>
      rw [clip_some]
      exact key (clamp l.length a) b (cl2 a) hb
  cases hi with
  | none =>
    have := ek l.length (Nat.le_refl _) lo
    rw [List.take_length] at this
    exact this
  | some b =>
    rw [clip_some]
    exact ek (clamp l.length b) (cl2 b) lo

section
variable {prog : Program} {w : World} {base : Heap} {C : Addr} {env : Env} {outer : List Env} {names : List Str} {fn : Nat → Option Addr}

theorem Inv.live {l : List Env} {μ : List Addr} {cells : List Cell} {h : Heap} (I : Inv prog w base l μ cells h) {a : Addr} (m : a ∈ μ) : ∃ o, h.get? a = some o := by
  obtain ⟨i, hi, e⟩ := List.getElem_of_mem m
  have hi' : i < cells.length := I.len ▸ hi
  have := I.cells i a cells[i] (by rw [List.getElem?_eq_getElem hi, e]) (List.getElem?_eq_getElem hi')
  cases q : cells[i] with
  | lst ds => rw [q] at this; obtain ⟨_, _, e, _⟩ := this; exact ⟨_, e⟩
  | dct es => rw [q] at this; obtain ⟨_, ⟨_, _, _, e, _⟩, _⟩ := this; exact ⟨_, e⟩

theorem Inv.new {l : List Env} {μ : List Addr} {cells : List Cell} {h h' : Heap} (I : Inv prog w base l μ cells h) (k : ∀ b o, h.get? b = some o → h'.get? b = some o)
    {a : Addr} (ha : h.get? a = none) {c : Cell} (hc : CellAt prog w h' (μ ++ [a]) a c) : Inv prog w base l (μ ++ [a]) (cells ++ [c]) h' := by
  have J := I.grow k
  refine ⟨J.stays, J.frames, by simp [I.len], ?_, ?_, ?_, J.dicts, ?_⟩
  · rw [List.nodup_append]
    refine ⟨I.nodup, by simp, fun x m y my q => ?_⟩
    obtain rfl := List.mem_singleton.mp my
    obtain ⟨o, e⟩ := I.live m
    rw [q, ha] at e; cases e
  · intro x m
    rcases List.mem_append.mp m with m | m
    · exact I.fresh x m
    · obtain rfl := List.mem_singleton.mp m
      cases q : base.get? x with
      | none => rfl
      | some o => have := I.stays x o q; rw [ha] at this; cases this
  · intro x m hm
    rcases List.mem_append.mp m with m | m
    · exact I.apart x m hm
    · obtain rfl := List.mem_singleton.mp m
      obtain ⟨f, o, _, _, e, _⟩ := I.dicts x hm
      rw [ha] at e; cases e
  · intro i x c' e1 e2
    by_cases hi : i < μ.length
    · rw [List.getElem?_append_left hi] at e1
      rw [List.getElem?_append_left (I.len ▸ hi)] at e2
      exact (I.cells i x c' e1 e2).mono (fun a vs n e => k _ _ e) (List.prefix_append _ _) (k x)
    · rw [List.getElem?_append_right (by walk_at "om")] at e1
      rw [List.getElem?_append_right (by have := I.len; walk_at "om")] at e2
      have h1 := (List.getElem?_eq_some_iff.mp e1).1
      have h0 : i - μ.length = 0 := by simpa using h1
      have h0' : i - cells.length = 0 := by have := I.len; walk_at "om"
      rw [h0] at e1; rw [h0'] at e2
      cases e1; cases e2
      exact hc

theorem gro_new {h : Heap} {μ : List Addr} {a : Addr} (ha : h.get? a = none) : Gro h μ (μ ++ [a]) := ⟨List.prefix_append _ _, fun x m => by
  rcases List.mem_append.mp m with m | m
  · exact .inl m
  · obtain rfl := List.mem_singleton.mp m; exact .inr ha⟩

theorem frames_of {base h h' : Heap} : ∀ {l : List Env}, (∀ b ∈ FA l, h'.get? b = h.get? b) → h.FunFrames base l → h'.FunFrames base l
  | [], _, _ => trivial
  | env :: r, k, ⟨a, ⟨L, o, hf, hn, ho, hd⟩, y⟩ => by
    have m : L ∈ FA (env :: r) := by unfold FA; rw [List.filterMap_cons, hf]; exact .head _
    refine ⟨a, ⟨L, o, hf, hn, (k L m).trans ho, hd⟩, frames_of (fun b hb => k b ?_) y⟩
    unfold FA; rw [List.filterMap_cons, hf]; exact .tail _ hb

theorem Inv.put {l : List Env} {μ : List Addr} {cells : List Cell} {h h' : Heap} (I : Inv prog w base l μ cells h) {i : Nat} {a : Addr} (hi : μ[i]? = some a)
    (k : ∀ b, b ≠ a → h'.get? b = h.get? b) {c : Cell} (hc : CellAt prog w h' μ a c) : Inv prog w base l μ (cells.set i c) h' := by
  have hm : a ∈ μ := List.mem_of_getElem? hi
  have tu : Tups h h' := fun b vs n e => (k b (fun q => I.notTup hm (q ▸ e))).trans e
  refine ⟨fun b o e => (k b (fun q => ?_)).trans (I.stays b o e), frames_of (fun b m => k b fun q => I.apart a hm (q ▸ m)) I.frames, by simp [I.len], I.nodup, I.fresh, I.apart, fun b m => ?_, ?_⟩
  · rw [q, I.fresh a hm] at e; cases e
  · obtain ⟨f, o, es, ep, e, r⟩ := I.dicts b m
    exact ⟨f, o, es, ep, (k b (fun q => I.apart a hm (q ▸ m))).trans e, r⟩
  · intro j x c' e1 e2
    by_cases q : j = i
    · subst q
      rw [hi] at e1; cases e1
      have hl : j < cells.length := I.len ▸ (List.getElem?_eq_some_iff.mp hi).1
      rw [List.getElem?_set_self hl] at e2; cases e2
      exact hc
    · rw [List.getElem?_set_ne (Ne.symm q)] at e2
      have hx : x ≠ a := fun z => by
        subst z
        have h1 := (List.getElem?_eq_some_iff.mp e1)
        have h2 := (List.getElem?_eq_some_iff.mp hi)
        exact q ((List.getElem_inj I.nodup).mp (h1.2.trans h2.2.symm))
      exact (I.cells j x c' e1 e2).mono tu (List.prefix_refl _) fun o e => (k x hx).trans e
end
end
section
open PySem PySem.Calls PySem.W

theorem VRs.length {h : Heap} {μ : List Addr} : ∀ {ds : List D} {vs : List Value}, VRs h μ ds vs → vs.length = ds.length
  | [], _, e => by cases e; rfl
  | _ :: _, _, ⟨v, r, e, _, y⟩ => by rw [e, List.length_cons, List.length_cons, VRs.length y]
theorem VRs.get {h : Heap} {μ : List Addr} : ∀ {ds : List D} {vs : List Value} {i : Nat} {d : D}, VRs h μ ds vs → ds[i]? = some d → ∃ v, vs[i]? = some v ∧ VR h μ d v
  | [], _, _, _, _, e => by cases e
  | d :: ds, _, 0, _, ⟨v, r, e, x, _⟩, q => by
    cases q; exact ⟨v, by rw [e]; rfl, x⟩
  | d :: ds, _, i + 1, _, ⟨v, r, e, _, y⟩, q => by
    obtain ⟨u, q1, q2⟩ := VRs.get (i := i) y (by simpa using q)
    exact ⟨u, by rw [e]; simpa using q1, q2⟩
theorem VRs.append {h : Heap} {μ : List Addr} {bs : List D} {us : List Value} : ∀ {ds : List D} {vs : List Value}, VRs h μ ds vs → VRs h μ bs us → VRs h μ (ds ++ bs) (vs ++ us)
  | [], _, e, y => by cases e; exact y
  | d :: ds, _, ⟨v, r, e, x, z⟩, y => ⟨v, r ++ us, by rw [e]; rfl, x, VRs.append z y⟩
theorem VRs.set {h : Heap} {μ : List Addr} {d : D} {v : Value} (x : VR h μ d v) : ∀ {ds : List D} {vs : List Value} {i : Nat}, VRs h μ ds vs → VRs h μ (ds.set i d) (vs.set i v)
  | [], _, _, e => by cases e; rfl
  | _ :: _, _, 0, ⟨u, r, e, _, y⟩ => ⟨v, r, by rw [e]; rfl, x, y⟩
  | _ :: _, _, i + 1, ⟨u, r, e, z, y⟩ => ⟨u, r.set i v, by rw [e]; rfl, z, VRs.set x y⟩
theorem VRs.take {h : Heap} {μ : List Addr} : ∀ {ds : List D} {vs : List Value} (i : Nat), VRs h μ ds vs → VRs h μ (ds.take i) (vs.take i)
  | [], _, _, e => by cases e; simp [VRs]
  | _ :: _, _, 0, _ => by simp [VRs]
  | _ :: _, _, i + 1, ⟨u, r, e, z, y⟩ => ⟨u, r.take i, by rw [e]; rfl, z, VRs.take i y⟩
theorem VRs.drop {h : Heap} {μ : List Addr} : ∀ {ds : List D} {vs : List Value} (i : Nat), VRs h μ ds vs → VRs h μ (ds.drop i) (vs.drop i)
  | [], _, _, e => by cases e; simp [VRs]
  | _ :: _, _, 0, x => x
  | _ :: _, _, i + 1, ⟨u, r, e, z, y⟩ => by rw [e]; exact VRs.drop i y

theorem lookup_kvs {h : Heap} {μ : List Addr} {k : List Nat} {d : D} : ∀ {es : List (List Nat × D)} {kvs : List (Str × Value)}, kvs.map (·.1) = es.map (fun p => (⟨p.1.toArray⟩ : Str)) → VRs h μ (es.map (·.2)) (kvs.map (·.2)) →
    es.lookup k = some d → ∃ v, valueAt kvs (⟨k.toArray⟩ : Str) = some v ∧ VR h μ d v
  | [], _, _, _, e => by cases e
  | (k', d') :: es, [], e1, _, _ => by cases e1
  | (k', d') :: es, (x, v) :: kvs, e1, ⟨u, r, e2, z, y⟩, e => by
    simp only [List.map_cons, List.cons.injEq] at e1 e2
    obtain ⟨rfl, e1⟩ := e1
    obtain ⟨rfl, e2⟩ := e2
    unfold valueAt
    by_cases q : k = k'
    · subst q
      rw [List.lookup_cons, beq_self_eq_true] at e
      cases e
      exact ⟨v, by simp, z⟩
    · have hq : (k == k') = false := by simpa using q
      rw [List.lookup_cons, hq] at e
      obtain ⟨u, h1, h2⟩ := lookup_kvs (kvs := kvs) e1 (by rw [e2]; exact y) e
      refine ⟨u, ?_, h2⟩
      have hn : ¬ ((⟨k'.toArray⟩ : Str) = ⟨k.toArray⟩) := fun z => q (by
        have := congrArg (fun s : Str => s.cps.toList) z
        simpa using this.symm)
      rw [List.find?_cons_of_neg (by simpa using hn)]
      exact h1

section
variable {prog : Program} {w : World} {base : Heap} {C : Addr} {env : Env} {outer : List Env} {names : List Str} {fn : Nat → Option Addr}

theorem Inv.cell {l : List Env} {μ : List Addr} {cells : List Cell} {h : Heap} (I : Inv prog w base l μ cells h) {n : Nat} {c : Cell} (e : cells[n]? = some c) : ∃ a, μ[n]? = some a ∧ CellAt prog w h μ a c := by
  have hl := (List.getElem?_eq_some_iff.mp e).1
  have hm : n < μ.length := I.len.symm ▸ hl
  exact ⟨μ[n], List.getElem?_eq_getElem hm, I.cells n _ c (List.getElem?_eq_getElem hm) e⟩

theorem cellOf {l : List Env} {μ : List Addr} {cells : List Cell} {h : Heap} (I : Inv prog w base l μ cells h) {n : Nat} {c : Cell} {v : Value} (e : cells[n]? = some c) (r : VR h μ (.obj n) v) :
    ∃ a, v = .ref a ∧ μ[n]? = some a ∧ CellAt prog w h μ a c := by
  obtain ⟨a, rfl, e1⟩ := r
  obtain ⟨b, e2, x⟩ := I.cell e
  rw [e1] at e2; cases e2
  exact ⟨a, rfl, e1, x⟩

theorem isList_of {h : Heap} {a : Addr} {vs : Array Value} {n : Nat} (e : h.get? a = some (listOf vs n)) : h.IsList a vs := ⟨_, e, rfl, n, rfl⟩

theorem atN_some {α : Type} {l : List α} {k : Int} {x : α} (h : atN l k = some x) : small k ∧ 0 ≤ k ∧ l[k.toNat]? = some x ∧ k.toNat < l.length := by
  obtain ⟨a, h⟩ := ig h
  exact ⟨a.1, a.2, h, (List.getElem?_eq_some_iff.mp h).1⟩
theorem seqIx {k : Int} {n : Nat} (h0 : 0 ≤ k) (h : k.toNat < n) : seqIndex? k n = some k.toNat := by
  unfold seqIndex?
  have h1 : ¬ k < 0 := by walk_at "om"
  have h2 : k < (n : Int) := by walk_at "om"
  simp only [h1, if_false]
  simp [h0, h2]
theorem small1 {k : Int} (h : small k) : decide (k < -(2 ^ 63)) = false ∧ decide (k > 2 ^ 63 - 1) = false := by
  obtain ⟨a1, a2⟩ := h
  exact ⟨decide_eq_false (by walk_at "om"), decide_eq_false (by walk_at "om")⟩
theorem idx_some {n j : Nat} {k : Int} (h : idx n k = some j) : (0 ≤ k ∧ j = k.toNat) ∨ (k < 0 ∧ 0 ≤ k + n ∧ j = (k + n).toNat) := by
  unfold idx at h
  by_cases q : 0 ≤ k
  · rw [if_pos q] at h
    have := ig h
    cases this.2
    exact .inl ⟨q, rfl⟩
  · rw [if_neg q] at h
    have := ig h
    cases this.2
    exact .inr ⟨by walk_at "om", this.1, rfl⟩
noncomputable def Reads1 (s : Shared) (v : Value) : Prop := ∃ T id, s.TypeIs v T ∧ typeLookup (.type T) "__getitem__" = pure (some (.builtin id))
theorem sub_okS {A : Around} {s : Shared} {X : Value → Shared → Prop} {l0 : List Nat} {k0 : Int} {c : Nat} {t t' : Tok} {Q : Value → Shared → Prop} (hc : atN l0 k0 = some c)
    (k : ∀ t tk, Q (.str ⟨[c].toArray⟩ t) { s with toks := tk }) : wpAny (model prog w) A (getItem (.str ⟨l0.toArray⟩ t) (.int k0 t')) Q X s := by
  obtain ⟨a1, a2, a3, a4⟩ := atN_some hc
  refine P.getItem_str (c := c) ?_ ?_ (k _ _)
  · rw [Bool.or_eq_false_iff]; exact small1 a1
  · rw [show seqIndex? k0 (⟨l0.toArray⟩ : Str).length = some k0.toNat from seqIx a2 (by simpa [Str.length] using a4)]
    simpa using a3
theorem sub_okL {A : Around} {s : Shared} {X : Value → Shared → Prop} {l0 : List D} {k0 : Int} {j : Nat} {d : D} {t' : Tok} {a : Addr} {vs : Array Value} {n : Nat} {μ : List Addr} {Q : Value → Shared → Prop} (hk : small k0) (hj : idx l0.length k0 = some j) (hj2 : l0[j]? = some d)
    (e : s.heap.get? a = some (listOf vs n)) (hv : VRs s.heap μ l0 vs.toList) (k : ∀ r, VR s.heap μ d r → Q r s) : wpAny (model prog w) A (getItem (.ref a) (.int k0 t')) Q X s := by
  obtain ⟨r, hr, hr2⟩ := hv.get hj2
  obtain ⟨a1, a2⟩ := hk
  have hlen : (vs.size : Int) = l0.length := by rw [← hv.length]; simp
  rcases idx_some hj with ⟨q, rfl⟩ | ⟨q1, q2, rfl⟩
  · exact wpAny_getItem_list (isList_of e) (by walk_at "om") (by walk_at "om") (by simpa using hr) (k _ hr2)
  · refine wpAny_getItem_list_neg (isList_of e) (by walk_at "om") (by walk_at "om") (by walk_at "om") ?_ (k _ hr2)
    rw [hlen]
    simpa using hr
theorem sub_ok {A : Around} {l : List Env} {s : Shared} {X : Value → Shared → Prop} {cells : List Cell} {x y d : D} {v u : Value} {μ : List Addr} {Q : Value → Shared → Prop}
    (I : Inv prog w base l μ cells s.heap) (r1 : VR s.heap μ x v) (r2 : VR s.heap μ y u) (hd : subD cells x y = some d)
    (k : ∀ r tk, VR s.heap μ d r → Q r { s with toks := tk }) :
    Reads1 s v ∧ wpAny (model prog w) A (getItem v u) Q X s := by
  cases x with
  | str l0 =>
    obtain ⟨k0, e, hd⟩ := bs hd
    obtain rfl := asI_eq e
    obtain ⟨c, hc, rfl⟩ := ms hd
    obtain ⟨t, rfl⟩ := r1; obtain ⟨t', rfl⟩ := r2
    exact ⟨⟨"str", _, typeIs_str s _ _, F.slot_str_getitem.lookup⟩, sub_okS hc fun t tk => k _ _ ⟨_, rfl⟩⟩
  | tup l0 =>
    obtain ⟨k0, e, hd⟩ := bs hd
    obtain rfl := asI_eq e
    obtain ⟨⟨a1, a2⟩, a3, hd, hlt⟩ := atN_some hd
    obtain ⟨a, vs, n, rfl, hl, hv⟩ := r1; obtain ⟨t', rfl⟩ := r2
    obtain ⟨r, hr, hr2⟩ := hv.get hd
    exact ⟨⟨"tuple", _, ⟨_, hl, rfl⟩, F.slot_tuple_getitem.lookup⟩, PyProof.Rows.getItem_tuple (items := vs.toArray) (j := k0.toNat) ⟨_, hl, rfl, n, rfl⟩ (by walk_at "om") (by walk_at "om") (seqIx a3 (by rw [List.size_toArray, hv.length]; exact hlt)) (by simpa using hr) (by exact k _ _ hr2)⟩
  | obj n0 =>
    cases y with
    | int k0 =>
      obtain ⟨l0, hc, hd⟩ := bs hd
      obtain ⟨hk, hd⟩ := ig hd
      obtain ⟨a, rfl, ha, vs, n, e, hv⟩ := cellOf I (lst_of hc) r1; obtain ⟨t', rfl⟩ := r2
      obtain ⟨j, hj, hj2⟩ := bs hd
      exact ⟨⟨"list", _, ⟨_, e, rfl⟩, slot_list_getitem.lookup⟩, sub_okL hk hj hj2 e hv fun r hr => k _ _ hr⟩
    | str k0 =>
      obtain ⟨l0, hc, hd⟩ := bs hd
      obtain ⟨a, rfl, ha, kvs, hD, e1, e2⟩ := cellOf I (dct_of hc) r1; obtain ⟨t', rfl⟩ := r2
      obtain ⟨r, hr, hr2⟩ := lookup_kvs e1 e2 hd
      exact ⟨⟨"dict", _, hD.typeIs, PySem.F.slot_dict_getitem.lookup⟩, wpAny_getItem_of (strKind_is prog w _ _) hD.mapOf hr (k _ _ hr2)⟩
    | _ => exact nn hd
  | _ => exact nn hd

theorem sound_sub {value slice : Expr} {a b : E} {pos : Pos} (ok : EnvOk env names) (hs : ∀ o i, subscripted slice false o i = operate [o, i] (getItem o i))
    (hl : SoundE prog w base C env names fn value a) (hr : SoundE prog w base C env names fn slice b) :
    SoundE prog w base C env names fn (.Subscript value slice pos) (.sub a b) := fun outer n A σ μ s P X hA R h => by
  refine PyProof.Rows.Subscript_ (two hl hr ok hA R h fun x y v u σ' μ' s' p R' r1 r2 g x' => ?_)
  obtain ⟨d, hd, hp⟩ := p
  obtain ⟨⟨T, id, hT, hlk⟩, hg⟩ := sub_ok (A := A) (X := ErrS prog w base C env outer (hOf s) μ X) (Q := PostE prog w base env outer names (hOf s) μ P) R'.inv r1 r2 hd fun r tk hv => ⟨d, σ', μ', hp, R', hv, g, x'⟩
  exact PyProof.Rows.tail_any hT hlk hg (hs _ _)

noncomputable def SoundO (prog : Program) (w : World) (base : Heap) (C : Addr) (env : Env) (names : List Str) (fn : Nat → Option Addr) (o : Option Expr) (t : E) : Prop := match o with
  | none => t = .cst .none
  | some e => SoundE prog w base C env names fn e t

theorem part_ok {o : Option Expr} {t : E} (hs : SoundO prog w base C env names fn o t) {n : Nat} {A : Around} {σ : St} {μ : List Addr} {s : Shared} {P : D → St → Prop} {X : XP}
    (hA : AOk A (env :: outer) n) (R : Rel prog w base env outer names σ μ s.heap) (h : wpE (CallOK prog w base C fn n) t σ P X) :
    wpAny (model prog w) A (evalPart o env) (PostE prog w base env outer names (hOf s) μ P) (ErrS prog w base C env outer (hOf s) μ X) s := by
  cases o with
  | none =>
    cases hs
    exact wpAny_evalPart_none (PostE.here R keepId h rfl)
  | some e => exact wpAny_evalPart_some (hs outer n A σ μ s P X hA R h)

theorem partVal {h : Heap} {μ : List Addr} {y : D} {v : Value} {lo : Option Int} (e : optOf y = some lo) (r : VR h μ y v) : ∃ q : Option (Int × Tok), v = partValue q ∧ q.map (·.1) = lo ∧ IsPart v lo := by
  unfold optOf at e
  split at e
  · cases e; cases r; exact ⟨none, rfl, rfl, .none⟩
  · cases e; obtain ⟨t, rfl⟩ := r; exact ⟨some (_, t), rfl, rfl, .int _ _⟩
  · cases e

theorem indices_is (lo hi : Option Int) (n : Nat) : Builtin.Str.strSliceIndices lo hi 1 n = sliceRange (clipI lo n 0) (clipI hi n n) 1 := by
  cases lo <;> cases hi <;> rfl

theorem str_slice_ok {A : Around} {s : Shared} {X : Value → Shared → Prop} {l r : List Nat} {t : Tok} {y z : D} {vl vu : Value} {a : Addr} {h : Heap} {μ : List Addr} {Q : Value → Shared → Prop}
    (hs : s.heap.get? a = some { cls := .type "slice", data := .fields #[vl, vu, .none] }) (r1 : VR h μ y vl) (r2 : VR h μ z vu) (hsl : sliceL l y z = some r) (hlen : l.length ≤ 2 ^ 24)
    (k : ∀ t tk, Q (.str ⟨r.toArray⟩ t) { s with toks := tk }) : wpAny (model prog w) A (getItem (.str ⟨l.toArray⟩ t) (.ref a)) Q X s := by
  obtain ⟨lo, hi, e1, e2, e3, e4, e5⟩ := slice_pick hsl
  obtain ⟨q1, rfl, m1, _⟩ := partVal e1 r1
  obtain ⟨q2, rfl, m2, _⟩ := partVal e2 r2
  refine wpAny_getItem_str_slice (l := q1) (u := q2) (st := none) ⟨_, hs, rfl, rfl⟩ rfl ?_
  have e : (⟨l.toArray⟩ : Str).length = l.length := by simp [Str.length]
  have pk : slicePicked (⟨l.toArray⟩ : Str) q1 q2 none = sliceRange (clipI lo l.length 0) (clipI hi l.length l.length) 1 := by
    unfold slicePicked
    rw [m1, m2, e]
    exact indices_is lo hi l.length
  unfold sliceMade
  rw [pk, e]
  split
  · rename_i hfull
    simp only [Option.map_none, Option.getD_none, beq_self_eq_true, Bool.true_and, beq_iff_eq] at hfull
    have : r = l := e5.eq_of_length (e4.symm.trans hfull)
    rw [← this]
    exact k _ _
  · have q : (sliceRange (clipI lo l.length 0) (clipI hi l.length l.length) 1).filterMap (fun x => (⟨l.toArray⟩ : Str).cps[x]?) = r := by
      rw [← e3]
      simp
    rw [q]
    refine ⟨?_, k _ _⟩
    rw [sizeLine_is]
    have := e5.length_le
    show r.toArray.size ≤ _
    rw [List.size_toArray]; walk_at "om"

theorem list_slice_ok {A : Around} {s : Shared} {X : Value → Shared → Prop} {l r : List D} {vs : Array Value} {y z : D} {vl vu : Value} {a al : Addr} {h : Heap} {μ : List Addr} {Q : Value → Shared → Prop}
    (hs : s.heap.get? a = some { cls := .type "slice", data := .fields #[vl, vu, .none] }) (hl : s.heap.IsList al vs) (hv : VRs h μ l vs.toList) (r1 : VR h μ y vl) (r2 : VR h μ z vu) (hsl : sliceL l y z = some r) (hlen : l.length ≤ 2 ^ 20)
    (k : ∀ us : List Value, VRs h μ r us → Q (.ref s.heap.objs.size) { s with heap := s.heap.push (listOf us.toArray 0) }) : wpAny (model prog w) A (getItem (.ref al) (.ref a)) Q X s := by
  obtain ⟨lo, hi, e1, e2, e3, e4, e5⟩ := slice_pick hsl
  obtain ⟨q1, rfl, m1, p1⟩ := partVal e1 r1
  obtain ⟨q2, rfl, m2, p2⟩ := partVal e2 r2
  have hlen' := hv.length
  have hsz : vs.size = l.length := by rw [← hlen']; simp
  refine wpAny_getItem_list_slice hl ⟨_, hs, rfl, rfl⟩ p1 p2 .none (by simp) ?_ ?_
  · have : slicePick vs lo hi none = ((sliceRange (clipI lo l.length 0) (clipI hi l.length l.length) 1).filterMap (fun k => vs.toList[k]?)).toArray := by
      unfold slicePick
      rw [hsz]
      have q : sliceBounds lo hi none l.length = (clipI lo l.length 0, clipI hi l.length l.length, 1) := by cases lo <;> cases hi <;> rfl
      rw [q]
      simp
    rw [this]
    refine k _ ?_
    rw [← e3]
    clear k this e3 e4 e5
    generalize sliceRange (clipI lo l.length 0) (clipI hi l.length l.length) 1 = js
    induction js with
    | nil => simp [VRs]
    | cons j js ih =>
      cases hj : l[j]? with
      | none =>
        have : vs.toList[j]? = none := by
          rw [List.getElem?_eq_none_iff] at hj ⊢; walk_at "om"
        rw [List.filterMap_cons_none hj, List.filterMap_cons_none this]; exact ih
      | some d =>
        obtain ⟨v, hv1, hv2⟩ := hv.get hj
        rw [List.filterMap_cons_some hj, List.filterMap_cons_some hv1]
        exact ⟨v, _, rfl, hv2, ih⟩
  · rw [hsz, sizeLine_is]; walk_at "om"
end
end
section
open PySem PySem.Calls PySem.W

section
variable {prog : Program} {w : World} {base : Heap} {C : Addr} {env : Env} {outer : List Env} {names : List Str} {fn : Nat → Option Addr}

theorem Rel.new {σ : St} {μ : List Addr} {h h' : Heap} (R : Rel prog w base env outer names σ μ h) (k : ∀ b o, h.get? b = some o → h'.get? b = some o)
    {a : Addr} (ha : h.get? a = none) {c : Cell} (hc : CellAt prog w h' (μ ++ [a]) a c) : Rel prog w base env outer names { σ with cells := σ.cells ++ [c] } (μ ++ [a]) h' where
  inv := R.inv.new k ha hc
  ns := by
    obtain ⟨m, hm, hv⟩ := R.ns
    refine ⟨m, hm.keeps k, fun i x d e1 e2 => ?_⟩
    obtain ⟨v, e, r⟩ := hv i x d e1 e2
    exact ⟨v, e, r.mono (fun a vs n e => k _ _ e) (List.prefix_append _ _)⟩

theorem locals_mem (ok : EnvOk env names) : env.locals ∈ FA (env :: outer) := by
  unfold FA; rw [List.filterMap_cons, ok.frame]; exact .head _

theorem Rel.put {σ : St} {μ : List Addr} {h h' : Heap} (ok : EnvOk env names) (R : Rel prog w base env outer names σ μ h) {i : Nat} {a : Addr} (hi : μ[i]? = some a)
    (k : ∀ b, b ≠ a → h'.get? b = h.get? b) {c : Cell} (hc : CellAt prog w h' μ a c) : Rel prog w base env outer names { σ with cells := σ.cells.set i c } μ h' where
  inv := R.inv.put hi k hc
  ns := by
    obtain ⟨m, hm, hv⟩ := R.ns
    have hm' : a ∈ μ := List.mem_of_getElem? hi
    have hne : env.locals ≠ a := fun q => R.inv.apart a hm' (q ▸ locals_mem ok)
    obtain ⟨o, es, ep, e, r⟩ := hm
    refine ⟨m, ⟨o, es, ep, (k _ hne).trans e, r⟩, fun i x d e1 e2 => ?_⟩
    obtain ⟨v, e, r⟩ := hv i x d e1 e2
    exact ⟨v, e, r.mono (fun b vs n e => (k b (fun q => R.inv.notTup hm' (q ▸ e))).trans e) (List.prefix_refl _)⟩

theorem Ext.put {fs L : List Addr} {μ : List Addr} {h h' : Hp} {a : Addr} (m : a ∈ μ) (k : ∀ b, b ≠ a → h'.1.get? b = h.1.get? b) (lv : ∃ o, h'.1.get? a = some o) (e : h'.2 = h.2 := by rfl) : Ext fs (L ++ μ) h h' :=
  ⟨fun b o e _ n => (k b (fun q => n (q ▸ List.mem_append_right _ m))).trans e, fun b o e _ n => ⟨o.slots, (k b (fun q => n (q ▸ List.mem_append_right _ m))).trans e⟩, fun b o e => by
    by_cases q : b = a
    · subst q; exact lv
    · exact ⟨o, (k b q).trans e⟩, e⟩

theorem locals_live {σ : St} {μ : List Addr} {h : Heap} (R : Rel prog w base env outer names σ μ h) : True := trivial

theorem sound_slice {value : Expr} {lo hi : Option Expr} {a b c : E} {pos p : Pos} (ok : EnvOk env names)
    (hl : SoundE prog w base C env names fn value a) (h1 : SoundO prog w base C env names fn lo b) (h2 : SoundO prog w base C env names fn hi c) :
    SoundE prog w base C env names fn (.Subscript value (.Slice lo hi none p) pos) (.slice a b c) := fun outer n A σ μ s P X hA R h => by
  refine PyProof.Rows.Subscript_ (next (hl outer n A σ μ s _ X hA R h) fun v s1 p1 => ?_)
  obtain ⟨x, σ1, μ1, k1, R1, r1, g1, x1⟩ := p1
  refine wpAny_Slice (later g1 x1 (part_ok h1 hA R1 k1) fun vl s2 p2 => ?_)
  obtain ⟨y, σ2, μ2, k2, R2, r2, g2, x2⟩ := p2
  have g12 := g1.trans x1 g2
  have x12 := x1.trans g1 x2
  refine later g12 x12 (part_ok h2 hA R2 k2) fun vu s3 p3 => ?_
  obtain ⟨z, σ3, μ3, k3, R3, r3, g3, x3⟩ := p3
  have g13 := g12.trans x12 g3
  have x13 := x12.trans g12 x3
  refine wpAny_evalPart_none ?_
  have rx := (r1.mono (R1.tups ok x2) g2.pre).mono (R2.tups ok x3) g3.pre
  have ry := r2.mono (R2.tups ok x3) g3.pre
  have kp := keepPush (h := s3.heap) { cls := .type "slice", data := .fields #[vl, vu, .none] }
  have R4 := R3.grow kp
  have hsl := Heap.get?_push_size s3.heap (o := { cls := .type "slice", data := .fields #[vl, vu, .none] }) rfl
  cases x with
  | str l =>
    obtain ⟨r, hr, hlen, hp⟩ := k3
    obtain ⟨t, rfl⟩ := rx
    refine PyProof.Rows.tail_any (typeIs_str _ _ _) F.slot_str_getitem.lookup (str_slice_ok hsl ry r3 hr hlen fun t' tk => ?_) (ops := [_, _]) rfl
    exact ⟨.str r, σ3, μ3, hp, R4, ⟨_, rfl⟩, g13, x13.trans g13 (Ext.push _)⟩
  | obj m =>
    obtain ⟨l, r, hc, hr, hlen, hp⟩ := k3
    obtain ⟨al, rfl, ha, vs, k, e, hv⟩ := cellOf R3.inv hc rx
    refine PyProof.Rows.tail_any (T := "list") ⟨_, kp _ _ e, rfl⟩ slot_list_getitem.lookup (list_slice_ok hsl (isList_of (kp _ _ e)) hv ry r3 hr hlen fun us hu => ?_) (ops := [_, _]) rfl
    have hn := size_none (s3.heap.push { cls := .type "slice", data := .fields #[vl, vu, .none] })
    have kp2 := keepPush (h := s3.heap.push { cls := .type "slice", data := .fields #[vl, vu, .none] }) (listOf us.toArray 0)
    have tu : Tups s3.heap ((s3.heap.push { cls := .type "slice", data := .fields #[vl, vu, .none] }).push (listOf us.toArray 0)) := fun b vs n e => kp2 _ _ (kp _ _ e)
    have R5 := R4.new kp2 hn (c := .lst r) ⟨us.toArray, 0, Heap.get?_push_size _ rfl, by simpa using hu.mono tu (List.prefix_append _ _)⟩
    refine ⟨.obj σ3.cells.length, _, _, hp, R5, ⟨_, rfl, ?_⟩, g13.trans (x13.trans g13 (Ext.push _)) (gro_new hn), (x13.trans g13 (Ext.push _)).trans g13 (Ext.push _)⟩
    rw [← R3.inv.len, List.getElem?_append_right (Nat.le_refl _)]; simp
  | none => exact k3.elim
  | bool _ => exact k3.elim
  | int _ => exact k3.elim
  | tup _ => exact k3.elim
end
end
section
open PySem PySem.Calls PySem.W

section
variable {prog : Program} {w : World} {base : Heap} {C : Addr} {env : Env} {outer : List Env} {names : List Str} {fn : Nat → Option Addr}

theorem sound_nil : SoundEs prog w base C env names fn [] .nil := fun outer n A pos σ μ s P X hA R h =>
  PyProof.Rows.spliced_none ⟨[], σ, μ, h, R, rfl, Gro.refl _ _, Ext.refl _ _ _⟩

theorem sound_cons {e : Expr} {es : List Expr} {t : E} {ts : Es} (ok : EnvOk env names) (he : starEach (e :: es) env = (false, eval e env) :: starEach es env)
    (h1 : SoundE prog w base C env names fn e t) (h2 : SoundEs prog w base C env names fn es ts) : SoundEs prog w base C env names fn (e :: es) (.cons t ts) := fun outer n A pos σ μ s P X hA R h => by
  refine PyProof.Rows.spliced_more (next (h1 outer n A σ μ s _ X hA R h) fun v s1 p1 => ?_) he
  obtain ⟨d, σ1, μ1, k1, R1, r1, g1, x1⟩ := p1
  refine later g1 x1 (h2 outer n A pos σ1 μ1 s1 _ X hA R1 k1) fun vs s2 p2 => ?_
  obtain ⟨ds, σ2, μ2, k2, R2, r2, g2, x2⟩ := p2
  exact ⟨d :: ds, σ2, μ2, k2, R2, ⟨v, vs, rfl, r1.mono (R1.tups ok x2) g2.pre, r2⟩, g1.trans x1 g2, x1.trans g1 x2⟩

theorem fits20 {ds : List D} {vs : List Value} {h : Heap} {μ : List Addr} (r : VRs h μ ds vs) (hl : ds.length ≤ 2 ^ 20) : vs.length ≤ sizeLine := by
  rw [sizeLine_is, r.length]; walk_at "om"

theorem sound_tup {es : List Expr} {ts : Es} {k : Nat} {pos : Pos} (hs : SoundEs prog w base C env names fn es ts) : SoundE prog w base C env names fn (.Tuple es k pos) (.tup ts) := fun outer n A σ μ s P X hA R h => by
  refine wpAny_Tuple (next (hs outer n A pos σ μ s _ X hA R h) fun vs s1 p1 => ?_)
  obtain ⟨ds, σ1, μ1, ⟨hl, k1⟩, R1, r1, g1, x1⟩ := p1
  have kp := keepPush (h := s1.heap) { cls := .type "tuple", data := .seq vs.toArray }
  refine ⟨fits20 r1 hl, .tup ds, σ1, μ1, k1, R1.grow kp, ⟨_, vs, 0, rfl, Heap.get?_push_size _ rfl, r1.mono (fun b vs n e => kp _ _ e) (List.prefix_refl _)⟩, g1, x1.trans g1 (Ext.push _)⟩

theorem new_obj {σ : St} {c : Cell} {μ : List Addr} {a : Addr} {l : List Env} {h h' : Heap} (I : Inv prog w base l μ σ.cells h) : VR h' (μ ++ [a]) (.obj σ.cells.length) (.ref a) := by
  refine ⟨a, rfl, ?_⟩
  rw [← I.len, List.getElem?_append_right (Nat.le_refl _)]; simp

theorem sound_list {es : List Expr} {ts : Es} {pos : Pos} (hs : SoundEs prog w base C env names fn es ts) : SoundE prog w base C env names fn (.List es pos) (.list ts) := fun outer n A σ μ s P X hA R h => by
  refine wpAny_List (next (hs outer n A pos σ μ s _ X hA R h) fun vs s1 p1 => ?_)
  obtain ⟨ds, σ1, μ1, ⟨hl, k1⟩, R1, r1, g1, x1⟩ := p1
  have kp := keepPush (h := s1.heap) (listOf vs.toArray 0)
  have hn := size_none s1.heap
  have R2 := R1.new kp hn (c := .lst ds) ⟨vs.toArray, 0, Heap.get?_push_size _ rfl, by simpa using r1.mono (fun b vs n e => kp _ _ e) (List.prefix_append _ _)⟩
  exact ⟨fits20 r1 hl, _, _, _, k1, R2, new_obj (c := .lst ds) R1.inv, g1.trans x1 (gro_new hn), x1.trans g1 (Ext.push _)⟩

theorem test_of {e : Expr} {t : E} (hs : SoundE prog w base C env names fn e t) (he : isTrue e env (eval e env) = (do let v ← eval e env; standAt e.pos; holding [v] (truthy v))) : SoundB prog w base C env names fn e t := fun outer n A σ μ s P X hA R h => by
  refine wpAny_isTrue_value (next (hs outer n A σ μ s _ X hA R h) fun v s1 p1 => ?_) he
  obtain ⟨d, σ1, μ1, ⟨b, hb, k1⟩, R1, r1, g1, x1⟩ := p1
  rw [hb] at r1
  cases r1
  exact wpAny_truthy_bool ⟨σ1, μ1, k1, R1, g1, x1⟩

theorem test_not {e : Expr} {t : E} {pos : Pos} (hs : SoundB prog w base C env names fn e t) : SoundB prog w base C env names fn (.UnaryOp .Not e pos) (.not t) := fun outer n A σ μ s P X hA R h => by
  refine wpAny_isTrue_Not (next (hs outer n A σ μ s (fun b σ => P (!b) σ) X hA R ?_) fun b s1 ⟨a, b, c, d, e, f⟩ => ⟨a, b, c, d, e, f⟩)
  refine (congrArg (fun q => wpE (CallOK prog w base C fn n) t σ q X) ?_).mp (show wpE (CallOK prog w base C fn n) t σ (fun x σ1 => ∃ t, x = .bool t ∧ ∃ t', D.bool (!t) = .bool t' ∧ P t' σ1) X from h)
  funext x σ1
  simp only [D.bool.injEq, exists_eq_left']

theorem sound_not {e : Expr} {t : E} {pos : Pos} (hs : SoundE prog w base C env names fn e t) : SoundE prog w base C env names fn (.UnaryOp .Not e pos) (.not t) := fun outer n A σ μ s P X hA R h => by
  refine wpAny_UnaryOp (next (hs outer n A σ μ s _ X hA R h) fun v s1 p1 => ?_)
  obtain ⟨d, σ1, μ1, ⟨b, hb, k1⟩, R1, r1, g1, x1⟩ := p1
  rw [hb] at r1
  cases r1
  exact PyProof.Rows.not_of (wpAny_truthy_bool ⟨_, σ1, μ1, k1, R1, rfl, g1, x1⟩)

noncomputable def SoundAll (prog : Program) (w : World) (base : Heap) (C : Addr) (env : Env) (names : List Str) (fn : Nat → Option Addr) (op : BoolOp) (es : List Expr) (t : E) : Prop :=
  ∀ outer n A σ μ s P X, AOk A (env :: outer) n → Rel prog w base env outer names σ μ s.heap → wpB (CallOK prog w base C fn n) t σ P X →
    wpAny (model prog w) A (allTrue op es env) (PostB prog w base env outer names (hOf s) μ P) (ErrS prog w base C env outer (hOf s) μ X) s

theorem all_one {op : BoolOp} {e : Expr} {t : E} (hs : SoundB prog w base C env names fn e t) : SoundAll prog w base C env names fn op [e] t := fun outer n A σ μ s P X hA R h => by
  cases op
  · refine wpAny_allTrue_And_cons (next (hs outer n A σ μ s P X hA R h) fun b s1 p1 => ?_)
    cases b
    · exact p1
    · exact wpAny_allTrue_And_nil p1
  · refine wpAny_allTrue_Or_cons (next (hs outer n A σ μ s P X hA R h) fun b s1 p1 => ?_)
    cases b
    · exact wpAny_allTrue_Or_nil p1
    · exact p1

theorem all_and {e : Expr} {es : List Expr} {t u : E} (hs : SoundB prog w base C env names fn e t) (hr : SoundAll prog w base C env names fn .And es u) : SoundAll prog w base C env names fn .And (e :: es) (.and t u) := fun outer n A σ μ s P X hA R h => by
  have h' : wpB (CallOK prog w base C fn n) t σ (fun b σ1 => if b then wpB (CallOK prog w base C fn n) u σ1 P X else P false σ1) X := by
    refine (congrArg (fun q => wpE (CallOK prog w base C fn n) t σ q X) ?_).mp (show wpE (CallOK prog w base C fn n) t σ (fun x σ1 => ∃ t, x = .bool t ∧ if t then wpE (CallOK prog w base C fn n) u σ1 _ X else ∃ t, D.bool false = .bool t ∧ P t σ1) X from h)
    funext x σ1
    simp only [D.bool.injEq, exists_eq_left']
    rfl
  refine wpAny_allTrue_And_cons (next (hs outer n A σ μ s _ X hA R h') fun b s1 p1 => ?_)
  obtain ⟨σ1, μ1, k1, R1, g1, x1⟩ := p1
  cases b
  · exact ⟨σ1, μ1, k1, R1, g1, x1⟩
  · exact later g1 x1 (hr outer n A σ1 μ1 s1 P X hA R1 k1) fun b s2 p2 => p2.trans g1 x1

theorem all_or {e : Expr} {es : List Expr} {t u : E} (hs : SoundB prog w base C env names fn e t) (hr : SoundAll prog w base C env names fn .Or es u) : SoundAll prog w base C env names fn .Or (e :: es) (.or t u) := fun outer n A σ μ s P X hA R h => by
  have h' : wpB (CallOK prog w base C fn n) t σ (fun b σ1 => if b then P true σ1 else wpB (CallOK prog w base C fn n) u σ1 P X) X := by
    refine (congrArg (fun q => wpE (CallOK prog w base C fn n) t σ q X) ?_).mp (show wpE (CallOK prog w base C fn n) t σ (fun x σ1 => ∃ t, x = .bool t ∧ if t then ∃ t, D.bool true = .bool t ∧ P t σ1 else wpE (CallOK prog w base C fn n) u σ1 _ X) X from h)
    funext x σ1
    simp only [D.bool.injEq, exists_eq_left']
    rfl
  refine wpAny_allTrue_Or_cons (next (hs outer n A σ μ s _ X hA R h') fun b s1 p1 => ?_)
  obtain ⟨σ1, μ1, k1, R1, g1, x1⟩ := p1
  cases b
  · exact later g1 x1 (hr outer n A σ1 μ1 s1 P X hA R1 k1) fun b s2 p2 => p2.trans g1 x1
  · exact ⟨σ1, μ1, k1, R1, g1, x1⟩

theorem test_bool {op : BoolOp} {es : List Expr} {t : E} {pos : Pos} (hs : SoundAll prog w base C env names fn op es t) : SoundB prog w base C env names fn (.BoolOp op es pos) t := fun outer n A σ μ s P X hA R h =>
  wpAny_isTrue_BoolOp (hs outer n A σ μ s P X hA R h)

noncomputable def SoundV (prog : Program) (w : World) (base : Heap) (C : Addr) (env : Env) (names : List Str) (fn : Nat → Option Addr) (op : BoolOp) (es : List Expr) (t : E) : Prop :=
  ∀ pos outer n A σ μ s P X, AOk A (env :: outer) n → Rel prog w base env outer names σ μ s.heap → wpE (CallOK prog w base C fn n) t σ P X →
    wpAny (model prog w) A (boolOp pos op (evalEach es env)) (PostE prog w base env outer names (hOf s) μ P) (ErrS prog w base C env outer (hOf s) μ X) s

theorem vals_one {op : BoolOp} {e : Expr} {t : E} (hs : SoundE prog w base C env names fn e t) : SoundV prog w base C env names fn op [e] t := fun pos outer n A σ μ s P X hA R h => hs outer n A σ μ s P X hA R h

theorem vals_and {e e' : Expr} {es : List Expr} {t u : E} (hs : SoundE prog w base C env names fn e t) (hr : SoundV prog w base C env names fn .And (e' :: es) u) : SoundV prog w base C env names fn .And (e :: e' :: es) (.and t u) := fun pos outer n A σ μ s P X hA R h => by
  show wpAny _ _ (do let v ← eval e env; standAt pos; let t ← holding [v] (truthy v); match BoolOp.And, t with | .And, false | .Or, true => pure v | _, _ => boolOp pos .And (evalEach (e' :: es) env)) _ _ _
  refine wpAny_bind (next (hs outer n A σ μ s _ X hA R h) fun v s1 p1 => ?_)
  obtain ⟨d, σ1, μ1, ⟨b, hb, k1⟩, R1, r1, g1, x1⟩ := p1
  rw [hb] at r1
  cases r1
  refine wpAny_bind (wpAny_standAt (wpAny_bind (wpAny_holding (wpAny_truthy_bool ?_))))
  cases b
  · exact wpAny_pure ⟨.bool false, σ1, μ1, k1, R1, rfl, g1, x1⟩
  · exact later g1 x1 (hr pos outer n A σ1 μ1 s1 P X hA R1 k1) fun b s2 p2 => p2.trans g1 x1

theorem vals_or {e e' : Expr} {es : List Expr} {t u : E} (hs : SoundE prog w base C env names fn e t) (hr : SoundV prog w base C env names fn .Or (e' :: es) u) : SoundV prog w base C env names fn .Or (e :: e' :: es) (.or t u) := fun pos outer n A σ μ s P X hA R h => by
  show wpAny _ _ (do let v ← eval e env; standAt pos; let t ← holding [v] (truthy v); match BoolOp.Or, t with | .And, false | .Or, true => pure v | _, _ => boolOp pos .Or (evalEach (e' :: es) env)) _ _ _
  refine wpAny_bind (next (hs outer n A σ μ s _ X hA R h) fun v s1 p1 => ?_)
  obtain ⟨d, σ1, μ1, ⟨b, hb, k1⟩, R1, r1, g1, x1⟩ := p1
  rw [hb] at r1
  cases r1
  refine wpAny_bind (wpAny_standAt (wpAny_bind (wpAny_holding (wpAny_truthy_bool ?_))))
  cases b
  · exact later g1 x1 (hr pos outer n A σ1 μ1 s1 P X hA R1 k1) fun b s2 p2 => p2.trans g1 x1
  · exact wpAny_pure ⟨.bool true, σ1, μ1, k1, R1, rfl, g1, x1⟩

theorem sound_boolop {op : BoolOp} {es : List Expr} {t : E} {pos : Pos} (hs : SoundV prog w base C env names fn op es t) : SoundE prog w base C env names fn (.BoolOp op es pos) t := fun outer n A σ μ s P X hA R h => by
  rw [arm_eval_BoolOp]
  exact hs pos outer n A σ μ s P X hA R h

theorem sound_ite {c a b : Expr} {t u v : E} {pos : Pos} (hc : SoundB prog w base C env names fn c t) (ha : SoundE prog w base C env names fn a u) (hb : SoundE prog w base C env names fn b v) :
    SoundE prog w base C env names fn (.IfExp c a b pos) (.ite t u v) := fun outer n A σ μ s P X hA R h => by
  refine wpAny_IfExp (next (hc outer n A σ μ s (fun b σ1 => if b then wpE (CallOK prog w base C fn n) u σ1 P X else wpE (CallOK prog w base C fn n) v σ1 P X) X hA R h) fun b s1 p1 => ?_)
  obtain ⟨σ1, μ1, k1, R1, g1, x1⟩ := p1
  cases b
  · exact later g1 x1 (hb outer n A σ1 μ1 s1 P X hA R1 k1) fun b s2 p2 => p2.trans g1 x1
  · exact later g1 x1 (ha outer n A σ1 μ1 s1 P X hA R1 k1) fun b s2 p2 => p2.trans g1 x1

theorem global_ok {mg mb : Str → Option Value} {x : Str} {np : Pos} {v : Value} {A : Around} {σ : St} {μ : List Addr} {s : Shared} {Q : Value → Shared → Prop} {X : Value → Shared → Prop} (B : BaseOk prog base mg mb) (ok : EnvOk env names)
    (R : Rel prog w base env outer names σ μ s.heap) (hk : env.kindOf x = some .globalImplicit) (hv : mg x = some v) (hd : (x == ("__debug__" : Str)) = false) (k : Q v s) : wpAny (model prog w) A (eval (.Name x np) env) Q X s :=
  Name_function_global ok.kind hk (loadGlobal_global (by rw [ok.globals]; exact B.globals.keeps R.inv.stays) hv k) hd
theorem builtin_ok {mg mb : Str → Option Value} {x : Str} {np : Pos} {v : Value} {A : Around} {σ : St} {μ : List Addr} {s : Shared} {Q : Value → Shared → Prop} {X : Value → Shared → Prop} (B : BaseOk prog base mg mb) (ok : EnvOk env names)
    (R : Rel prog w base env outer names σ μ s.heap) (hk : env.kindOf x = some .globalImplicit) (hm : mg x = none) (hv : mb x = some v) (hd : (x == ("__debug__" : Str)) = false) (k : Q v s) : wpAny (model prog w) A (eval (.Name x np) env) Q X s :=
  Name_function_global ok.kind hk (loadGlobal_builtin (by rw [ok.globals]; exact B.globals.keeps R.inv.stays) hm (by rw [ok.builtins]; exact B.builtins.keeps R.inv.stays) hv k) hd

theorem ErrF.up (ok : EnvOk env names) {h0 : Hp} {μ0 : List Addr} {X : XP} {ev : Value} {s' : Shared} (y : ErrF prog w base C (env :: outer) (fun _ => False) [] h0 μ0 X ev s') : ErrS prog w base C env outer h0 μ0 X ev s' := by
  obtain ⟨e, d, tb, msg, cells', μ', h1, h2, h3, h4, h5, h6, h7, h8, h9, h10, h11⟩ := y
  exact ⟨e, d, tb, msg, cells', μ', h1, h2, h3, h4, ⟨fun b o q n1 n2 => h5.keep b o q n1 fun m => n2 (List.mem_append_right _ m), fun b o q n1 n2 => h5.data b o q n1 fun m => n2 (List.mem_append_right _ m), h5.live, h5.same⟩, h6,
    fun T fl q => (h7 T fl q).imp id False.elim, h8, h9, h10, h11⟩

theorem Ext.up {fs L μ : List Addr} {h h' : Hp} (x : Ext fs ([] ++ μ) h h') : Ext fs (L ++ μ) h h' :=
  ⟨fun b o q n1 n2 => x.keep b o q n1 fun m => n2 (List.mem_append_right _ m), fun b o q n1 n2 => x.data b o q n1 fun m => n2 (List.mem_append_right _ m), x.live, x.same⟩

theorem Rel.after (ok : EnvOk env names) {σ : St} {μ μ' : List Addr} {h h' : Hp} {cells' : List Cell} (R : Rel prog w base env outer names σ μ h.1) (I : Inv prog w base (env :: outer) μ' cells' h'.1) (g : Gro h.1 μ μ')
    (x : Ext (FA (env :: outer)) ([] ++ μ) h h') : Rel prog w base env outer names { σ with cells := cells' } μ' h'.1 where
  inv := I
  ns := by
    obtain ⟨m, hm, hv⟩ := R.ns
    have tu : Tups h.1 h'.1 := x.tups R.inv fun b m => by cases m
    obtain ⟨o, es, ep, e, r⟩ := hm
    obtain ⟨sl, e'⟩ := x.data _ o e (locals_mem ok) fun q => R.inv.apart _ q (locals_mem ok)
    refine ⟨m, ⟨_, es, ep, e', r⟩, fun i x d e1 e2 => ?_⟩
    obtain ⟨v, e, r⟩ := hv i x d e1 e2
    exact ⟨v, e, r.mono tu g.pre⟩

theorem spliced_args {M : Model} {A : Around} {E : Value → Shared → Prop} {s : Shared} {f : Value} {es : List Expr} {pos : Pos} {Q : Args → Shared → Prop} (hp : (starEach es env).all (fun x => !x.1) = true)
    (h : wpAny M A (spliced (backTo pos (starEach es env))) (fun vs s' => Q ⟨vs, []⟩ s') E s) : wpAny M A (evalArgs f true (backTo pos (starEach es env)) []) Q E s := by
  cases hq : starEach es env with
  | nil =>
    rw [hq] at h
    show wpAny M A (evalArgs f true [] []) Q E s
    unfold evalArgs
    show wpAny M A (spliced [] >>= _) Q E s
    refine wpAny_bind (wpAny_mono h (fun vs s' q => ?_) fun _ _ e => e)
    refine wpAny_bind (wpAny_pure ?_)
    refine wpAny_holding ?_
    exact wpAny_bind (wpAny_pure (wpAny_bind (wpAny_pure (wpAny_pure q))))
  | cons y ys =>
    rw [hq] at h hp
    obtain ⟨st, x⟩ := y
    have : st = false := by simpa using (Bool.and_eq_true_iff.mp hp).1
    subst this
    exact evalArgs_plain h

theorem sound_call {mg mb : Str → Option Value} {x : Str} {np pos : Pos} {es : List Expr} {ts : Es} {f : Nat} {a : Addr} (B : BaseOk prog base mg mb) (ok : EnvOk env names) (hF : ∃ o fd, base.get? a = some o ∧ o.data = .func fd)
    (hk : env.kindOf x = some .globalImplicit) (hd : (x == ("__debug__" : Str)) = false) (hv : mg x = some (.ref a)) (hf : fn f = some a) (hp : (starEach es env).all (fun x => !x.1) = true)
    (hs : SoundEs prog w base C env names fn es ts) : SoundE prog w base C env names fn (.Call (.Name x np) es [] pos) (.call f ts) := fun outer n A σ μ s P X hA R h => by
  refine wpAny_Call_NameR (global_ok B ok R hk hv hd ?_)
  obtain ⟨o, fd, ho, hfd⟩ := hF
  refine callWith_function (o := o) (fd := fd) (spliced_args hp (next (hs outer n A pos σ μ s _ X hA R h) fun vs s1 p1 => ?_))
  obtain ⟨ds, σ1, μ1, k1, R1, r1, g1, x1⟩ := p1
  refine ⟨⟨R1.inv.stays _ _ ho, hfd⟩, ?_⟩
  obtain ⟨a', ha', hc⟩ := k1
  rw [hf] at ha'; cases ha'
  refine wpAny_call (codeAny_mono (hc A (env :: outer) μ1 s1 vs hA R1.inv r1) fun r s' hr => ?_)
  match r, hr with
  | .ok (.ret v), ⟨d, cells', μ', k2, I2, r2, g2, x2⟩ =>
    exact ⟨d, _, μ', k2, R1.after ok I2 g2 x2, r2, g1.trans x1 g2, x1.trans g1 x2.up⟩
  | .error e, hr => exact ErrF.trans g1 x1 (hr.up ok)
end
end
section
open PySem PySem.Calls PySem.W

theorem findFrom_spec (x : Nat) : ∀ (l : List Nat) (i : Nat), (findFrom x l i = Option.none ∧ ∀ j : Nat, l[j]? ≠ some x) ∨ ∃ j : Nat, findFrom x l i = some (i + j) ∧ l[j]? = some x ∧ ∀ k : Nat, k < j → l[k]? ≠ some x
  | [], i => .inl ⟨rfl, fun j => by simp⟩
  | y :: r, i => by
    unfold findFrom
    split
    · rename_i h
      exact .inr ⟨0, by simp, by simp [h], fun k hk => absurd hk (Nat.not_lt_zero _)⟩
    · rename_i h
      rcases findFrom_spec x r (i + 1) with ⟨h1, h2⟩ | ⟨j, h1, h2, h3⟩
      · refine .inl ⟨h1, fun j => ?_⟩
        cases j with
        | zero => simpa using h
        | succ j => simpa using h2 j
      · refine .inr ⟨j + 1, by rw [h1]; congr 1; walk_at "om", by simpa using h2, fun k hk => ?_⟩
        cases k with
        | zero => simpa using h
        | succ k => simpa using h3 k (by walk_at "om")

theorem find_is (l : List Nat) (x : Nat) (k : Nat) : Txt.find3 (⟨l.toArray⟩ : Str) ⟨#[x]⟩ (k : Int) = findD l x k := by
  have hlen : (⟨l.toArray⟩ : Str).length = l.length := by simp [Str.length]
  have hfi : fromIndex (⟨l.toArray⟩ : Str).length (k : Int) = k := by
    unfold fromIndex
    have : ¬ (k : Int) < 0 := by walk_at "om"
    simp only [this, if_false]; walk_at "om"
  have hg : ∀ v, v < l.length → ((⟨l.toArray⟩ : Str).cps.getD v 0 = x ↔ l[v]? = some x) := fun v hv => by
    rw [List.getElem?_eq_getElem hv]
    simp [Array.getD, hv]
  unfold findD
  rcases StrLaws.find3_spec ⟨l.toArray⟩ x (k : Int) with ⟨h1, h2⟩ | ⟨j, h1, h2, h3, h4, h5⟩
  · rw [h1]
    rcases findFrom_spec x (l.drop k) k with ⟨g1, g2⟩ | ⟨j, g1, g2, g3⟩
    · rw [g1]
    · exfalso
      rw [List.getElem?_drop] at g2
      have hlt := (List.getElem?_eq_some_iff.mp g2).1
      exact h2 (k + j) (by rw [hfi]; walk_at "om") (by rw [hlen]; exact hlt) ((hg _ hlt).mpr g2)
  · rw [h1]
    rw [hfi] at h2 h5
    rw [hlen] at h3
    rcases findFrom_spec x (l.drop k) k with ⟨g1, g2⟩ | ⟨i, g1, g2, g3⟩
    · exfalso
      refine g2 (j - k) ?_
      rw [List.getElem?_drop, show k + (j - k) = j by walk_at "om"]
      exact (hg j h3).mp h4
    · rw [g1]
      rw [List.getElem?_drop] at g2
      have hlt := (List.getElem?_eq_some_iff.mp g2).1
      have e : j = k + i := by
        rcases Nat.lt_trichotomy j (k + i) with q | q | q
        · exfalso
          refine g3 (j - k) (by walk_at "om") ?_
          rw [List.getElem?_drop, show k + (j - k) = j by walk_at "om"]
          exact (hg j h3).mp h4
        · exact q
        · exact absurd ((hg _ hlt).mpr g2) (h5 (k + i) (by walk_at "om") q)
      rw [e]

theorem find0_is (l : List Nat) (x : Nat) : Txt.find (⟨l.toArray⟩ : Str) ⟨#[x]⟩ = findD l x 0 := by
  rw [← find_is l x 0]
  rfl

section
variable {prog : Program} {w : World} {base : Heap} {C : Addr} {env : Env} {outer : List Env} {names : List Str} {fn : Nat → Option Addr}

theorem sound_neg {i : Int} {k : Nat} {p pos : Pos} : SoundE prog w base C env names fn (.UnaryOp .USub (.Constant (.int i) k p) pos) (.cst (.int (-i))) := fun outer n A σ μ s P X hA R h =>
  wpAny_UnaryOp (wpAny_Constant_int (PyProof.Rows.neg_int ⟨_, σ, μ, h, R, ⟨_, rfl⟩, Gro.refl _ _, Ext.refl _ _ _⟩))

theorem one_arg {e : Expr} {t : E} {pos : Pos} (he : starEach [e] env = (false, eval e env) :: starEach [] env) (hs : SoundE prog w base C env names fn e t) {n : Nat} {A : Around} {σ : St} {μ : List Addr} {s : Shared} {X : XP} {P : D → St → Prop} {Q : Value → Shared → Prop}
    {X' : Value → Shared → Prop} (hA : AOk A (env :: outer) n) (R : Rel prog w base env outer names σ μ s.heap) (h : wpE (CallOK prog w base C fn n) t σ P X)
    (k : ∀ v s', PostE prog w base env outer names (hOf s) μ P v s' → Q v s') (hX : X' = ErrS prog w base C env outer (hOf s) μ X) :
    wpAny (model prog w) A (spliced (backTo pos (starEach [e] env))) (fun vs s' => ∃ v, vs = [v] ∧ Q v s') X' s := by
  subst hX
  refine PyProof.Rows.spliced_more (next (hs outer n A σ μ s _ X hA R h) fun v s1 p1 => ?_) he
  exact PyProof.Rows.spliced_none ⟨v, rfl, k v s1 p1⟩

theorem sound_len {mg mb : Str → Option Value} {x : Str} {np pos : Pos} {e : Expr} {t : E} (B : BaseOk prog base mg mb) (ok : EnvOk env names)
    (hk : env.kindOf x = some .globalImplicit) (hd : (x == ("__debug__" : Str)) = false) (hm : mg x = none) (hv : mb x = some (.builtin "len")) (he : starEach [e] env = (false, eval e env) :: starEach [] env)
    (hs : SoundE prog w base C env names fn e t) : SoundE prog w base C env names fn (.Call (.Name x np) [e] [] pos) (.len t) := fun outer n A σ μ s P X hA R h => by
  refine wpAny_Call_NameR (builtin_ok B ok R hk hm hv hd (PyProof.Rows.callWith_builtin1 (wpAny_mono (one_arg (outer := outer) he hs hA R h (Q := fun v s1 => wpAny (model prog w) A (call (.builtin "len") [v]) (PostE prog w base env outer names (hOf s) μ P) (ErrS prog w base C env outer (hOf s) μ X) s1) (fun v s1 p1 => ?_) rfl) (fun vs s1 q => ?_) fun _ _ e => e) he rfl))
  · obtain ⟨d, σ1, μ1, ⟨k, hk1, hk2, k1⟩, R1, r1, g1, x1⟩ := p1
    cases d with
    | str l =>
      cases hk1
      obtain ⟨t, rfl⟩ := r1
      have e : (⟨l.toArray⟩ : Str).length = l.length := by simp [Str.length]
      refine PySem.P.len_str ?_ ?_
      · rw [e]; walk_at "om"
      · rw [e]; exact ⟨_, σ1, μ1, k1, R1, ⟨_, rfl⟩, g1, x1⟩
    | obj m =>
      obtain ⟨l, hc, rfl⟩ := ms hk1
      obtain ⟨a, rfl, ha, vs, k, e, hv⟩ := cellOf R1.inv (lst_of hc) r1
      have e2 : vs.size = l.length := by rw [← hv.length]; simp
      refine call_len_list (isList_of e) (by rw [e2]; walk_at "om") ?_
      rw [e2]
      exact ⟨_, σ1, μ1, k1, R1, ⟨_, rfl⟩, g1, x1⟩
    | _ => exact nn hk1
  · obtain ⟨v, rfl, q⟩ := q
    exact q

theorem sound_ord {mg mb : Str → Option Value} {x : Str} {np pos : Pos} {e : Expr} {t : E} (B : BaseOk prog base mg mb) (ok : EnvOk env names)
    (hk : env.kindOf x = some .globalImplicit) (hd : (x == ("__debug__" : Str)) = false) (hm : mg x = none) (hv : mb x = some (.builtin "ord")) (he : starEach [e] env = (false, eval e env) :: starEach [] env)
    (hs : SoundE prog w base C env names fn e t) : SoundE prog w base C env names fn (.Call (.Name x np) [e] [] pos) (.ord t) := fun outer n A σ μ s P X hA R h => by
  refine wpAny_Call_NameR (builtin_ok B ok R hk hm hv hd (PyProof.Rows.callWith_builtin1 (wpAny_mono (one_arg (outer := outer) he hs hA R h (Q := fun v s1 => wpAny (model prog w) A (call (.builtin "ord") [v]) (PostE prog w base env outer names (hOf s) μ P) (ErrS prog w base C env outer (hOf s) μ X) s1) (fun v s1 p1 => ?_) rfl) (fun vs s1 q => ?_) fun _ _ e => e) he rfl))
  · obtain ⟨d, σ1, μ1, ⟨k, rfl, k1⟩, R1, r1, g1, x1⟩ := p1
    obtain ⟨t, rfl⟩ := r1
    exact PySem.P.ord_of_char ⟨_, σ1, μ1, k1, R1, ⟨_, rfl⟩, g1, x1⟩
  · obtain ⟨v, rfl, q⟩ := q
    exact q

theorem sound_tuple {mg mb : Str → Option Value} {x : Str} {np pos : Pos} {e : Expr} {t : E} (B : BaseOk prog base mg mb) (ok : EnvOk env names)
    (hk : env.kindOf x = some .globalImplicit) (hd : (x == ("__debug__" : Str)) = false) (hm : mg x = none) (hv : mb x = some (.type "tuple")) (he : starEach [e] env = (false, eval e env) :: starEach [] env)
    (hs : SoundE prog w base C env names fn e t) : SoundE prog w base C env names fn (.Call (.Name x np) [e] [] pos) (.tupleOf t) := fun outer n A σ μ s P X hA R h => by
  refine wpAny_Call_NameR (builtin_ok B ok R hk hm hv hd (PyProof.Rows.callWith_type1 (wpAny_mono (one_arg (outer := outer) he hs hA R h (Q := fun v s1 => wpAny (model prog w) A (call (.type "tuple") [v]) (PostE prog w base env outer names (hOf s) μ P) (ErrS prog w base C env outer (hOf s) μ X) s1) (fun v s1 p1 => ?_) rfl) (fun vs s1 q => ?_) fun _ _ e => e) he rfl))
  · obtain ⟨d, σ1, μ1, ⟨k, l, rfl, hc, hl, k1⟩, R1, r1, g1, x1⟩ := p1
    obtain ⟨a, rfl, ha, vs, k, e, hv⟩ := cellOf R1.inv hc r1
    have e2 : vs.size = l.length := by rw [← hv.length]; simp
    refine call_tuple_list (isList_of e) (fun h' kp => ?_) (by rw [e2, sizeLine_is]; walk_at "om")
    have kp2 : ∀ b o, s1.heap.get? b = some o → (h'.push { cls := .type "tuple", data := .seq vs }).get? b = some o := fun b o q => Heap.get?_push_of_some _ (kp b o q)
    exact ⟨.tup l, σ1, μ1, k1, R1.grow kp2, ⟨_, vs.toList, 0, rfl, Heap.get?_push_size _ rfl, hv.mono (fun b vs n e => kp2 _ _ e) (List.prefix_refl _)⟩, g1, x1.trans g1 (Ext.of_keeps kp2)⟩
  · obtain ⟨v, rfl, q⟩ := q
    exact q

theorem sound_find {o e : Expr} {a b : E} {apos pos : Pos} (ok : EnvOk env names) (hbase : attributeBase o "find" env (eval o env) = eval o env) (hs : starEach [e] env = [(false, eval e env)]) (hline : (apos.endLine == pos.line) = true)
    (h1 : SoundE prog w base C env names fn o a) (h2 : SoundE prog w base C env names fn e b) : SoundE prog w base C env names fn (.Call (.Attribute o "find" apos) [e] [] pos) (.find a b) := fun outer n A σ μ s P X hA R h => by
  refine Call_method1 hbase hs hline (next (h1 outer n A σ μ s _ X hA R h) fun v s1 p1 => ?_)
  obtain ⟨x, σ1, μ1, ⟨l, rfl, k1⟩, R1, r1, g1, x1⟩ := p1
  obtain ⟨t, rfl⟩ := r1
  refine SB.find (later g1 x1 (h2 outer n A σ1 μ1 s1 _ X hA R1 k1) fun u s2 p2 => ?_)
  obtain ⟨y, σ2, μ2, ⟨k, rfl, k2⟩, R2, r2, g2, x2⟩ := p2
  obtain ⟨t', rfl⟩ := r2
  refine ⟨_, t', rfl, .int (findD l k 0), σ2, μ2, k2, R2, ⟨s2.toks, ?_⟩, g1.trans x1 g2, x1.trans g1 x2⟩
  rw [show (⟨[k].toArray⟩ : Str) = ⟨#[k]⟩ from rfl, find0_is]

theorem sound_find2 {o e e' : Expr} {a b c : E} {apos pos : Pos} (ok : EnvOk env names) (hbase : attributeBase o "find" env (eval o env) = eval o env) (hs : starEach [e, e'] env = [(false, eval e env), (false, eval e' env)]) (hline : (apos.endLine == pos.line) = true)
    (h1 : SoundE prog w base C env names fn o a) (h2 : SoundE prog w base C env names fn e b) (h3 : SoundE prog w base C env names fn e' c) :
    SoundE prog w base C env names fn (.Call (.Attribute o "find" apos) [e, e'] [] pos) (.find2 a b c) := fun outer n A σ μ s P X hA R h => by
  refine Call_method2 hbase hs hline (next (h1 outer n A σ μ s _ X hA R h) fun v s1 p1 => ?_)
  obtain ⟨x, σ1, μ1, ⟨l, rfl, k1⟩, R1, r1, g1, x1⟩ := p1
  obtain ⟨t, rfl⟩ := r1
  refine ⟨"str", "str.find", F.plainAttrs_str, F.slot_str_find, F.type_str_find, typeIs_str _ _ _, (fun _ e => nomatch e), ?_⟩
  refine callWith_builtin rfl (evalArgs_plain (spliced_cons (later g1 x1 (h2 outer n A σ1 μ1 s1 _ X hA R1 k1) fun u s2 p2 => ?_)))
  obtain ⟨y, σ2, μ2, k2, R2, r2, g2, x2⟩ := p2
  have g12 := g1.trans x1 g2
  have x12 := x1.trans g1 x2
  refine spliced_cons (later g12 x12 (h3 outer n A σ2 μ2 s2 _ X hA R2 k2) fun u' s3 p3 => ?_)
  obtain ⟨z, σ3, μ3, ⟨k, i, rfl, rfl, hi, k3⟩, R3, r3, g3, x3⟩ := p3
  obtain ⟨t', rfl⟩ := r2
  obtain ⟨t'', rfl⟩ := r3
  refine spliced_nil (SC.find3 ⟨.int (findD l k i), σ3, μ3, k3, R3, ⟨s3.toks, ?_⟩, g12.trans x12 g3, x12.trans g12 x3⟩)
  rw [show (⟨[k].toArray⟩ : Str) = ⟨#[k]⟩ from rfl, find_is]

theorem sound_append {o e : Expr} {a b : E} {apos pos : Pos} (ok : EnvOk env names) (hbase : attributeBase o "append" env (eval o env) = eval o env) (hs : starEach [e] env = [(false, eval e env)]) (hline : (apos.endLine == pos.line) = true)
    (h1 : SoundE prog w base C env names fn o a) (h2 : SoundE prog w base C env names fn e b) : SoundE prog w base C env names fn (.Call (.Attribute o "append" apos) [e] [] pos) (.append a b) := fun outer n A σ μ s P X hA R h => by
  refine Call_method1 hbase hs hline (next (h1 outer n A σ μ s _ X hA R h) fun v s1 p1 => ?_)
  obtain ⟨x, σ1, μ1, ⟨m, l0, rfl, hc, k1⟩, R1, r1, g1, x1⟩ := p1
  obtain ⟨al, rfl, ha, vs0, k0, e0, hv0⟩ := cellOf R1.inv hc r1
  refine ⟨"list", "list.append", F.plainAttrs_list, F.slot_list_append, F.type_list_append, ⟨_, e0, rfl⟩, (fun a q => by cases q; exact ⟨_, e0, rfl⟩), ?_⟩
  refine callWith_builtin rfl (evalArgs_plain (spliced_cons (later g1 x1 (h2 outer n A σ1 μ1 s1 _ X hA R1 k1) fun u s2 p2 => spliced_nil ?_)))
  obtain ⟨z, σ2, μ2, ⟨l, hc2, hl, k2⟩, R2, r2, g2, x2⟩ := p2
  obtain ⟨al', q, ha', vs, k, e2, hv⟩ := cellOf R2.inv hc2 (r1.mono (R1.tups ok x2) g2.pre)
  cases q
  have hsz : vs.size = l.length := by rw [← hv.length]; simp
  refine wpAny_list_append_plain ⟨k, e2⟩ (fun h' hp sb => ?_) (by rw [hsz, sizeLine_is]; walk_at "om")
  obtain ⟨k', hk'⟩ := hp
  have m2 : al ∈ μ2 := List.mem_of_getElem? ha'
  have tu : Tups s2.heap h' := fun b vs n e => (sb.2 b (fun q => R2.inv.notTup m2 (q ▸ e))).trans e
  have R3 := R2.put ok ha' (fun b hb => sb.2 b hb) (c := .lst (l ++ [z])) ⟨_, k', hk', by
    rw [Array.toList_push]
    exact VRs.append (hv.mono tu (List.prefix_refl _)) ⟨u, [], rfl, r2.mono tu (List.prefix_refl _), rfl⟩⟩
  have x3 : Ext (FA (env :: outer)) ([env.locals] ++ μ2) (hOf s2) (hW (hOf s2) h') := Ext.put m2 (fun b hb => sb.2 b hb) ⟨_, hk'⟩
  have g12 := g1.trans x1 g2
  have x12 := x1.trans g1 x2
  exact ⟨.none, _, μ2, k2, R3, rfl, g12, x12.trans g12 x3⟩

theorem sound_pop {o : Expr} {a : E} {apos pos : Pos} (ok : EnvOk env names) (hbase : attributeBase o "pop" env (eval o env) = eval o env) (hline : (apos.endLine == pos.line) = true)
    (h1 : SoundE prog w base C env names fn o a) : SoundE prog w base C env names fn (.Call (.Attribute o "pop" apos) [] [] pos) (.pop a) := fun outer n A σ μ s P X hA R h => by
  refine Call_method0 hbase hline (next (h1 outer n A σ μ s _ X hA R h) fun v s1 p1 => ?_)
  obtain ⟨x, σ1, μ1, ⟨m, l, z, rfl, hc, hl, k1⟩, R1, r1, g1, x1⟩ := p1
  obtain ⟨al, rfl, ha, vs, k, e, hv⟩ := cellOf R1.inv hc r1
  refine ⟨"list", "list.pop", F.plainAttrs_list, F.slot_list_pop, F.type_list_pop, ⟨_, e, rfl⟩, (fun a q => by cases q; exact ⟨_, e, rfl⟩), ?_⟩
  have hsz : vs.size = l.length + 1 := by
    have := hv.length
    simpa using this
  obtain ⟨y, hy, ry⟩ := hv.get (i := l.length) (d := z) (by simp)
  refine PySem.P.pop_list (n := k) e (y := y) (by rw [hsz]; simpa using hy) ?_ (by rw [hsz, sizeLine_is]; walk_at "om")
  have ys : (vs.eraseIdxIfInBounds (vs.size - 1)).toList = vs.toList.take l.length := by
    have : vs.size - 1 < vs.size := by walk_at "om"
    rw [Array.eraseIdxIfInBounds, dif_pos this, Array.toList_eraseIdx, List.eraseIdx_eq_take_drop_succ]
    rw [hsz, List.drop_eq_nil_of_le (by simp [hsz])]
    simp
  have m1 : al ∈ μ1 := List.mem_of_getElem? ha
  have ho : ∃ k', (Obj.mapSeq (fun xs => xs.eraseIdxIfInBounds (vs.size - 1)) (listOf vs k)) = listOf (vs.eraseIdxIfInBounds (vs.size - 1)) k' := ⟨_, rfl⟩
  obtain ⟨k', ho⟩ := ho
  have hg : (s1.heap.update al (Obj.mapSeq fun xs => xs.eraseIdxIfInBounds (vs.size - 1))).get? al = some (listOf (vs.eraseIdxIfInBounds (vs.size - 1)) k') := by
    rw [← ho]; exact Heap.get?_update_self _ e (by rw [ho]; rfl)
  have sb : ∀ b, b ≠ al → (s1.heap.update al (Obj.mapSeq fun xs => xs.eraseIdxIfInBounds (vs.size - 1))).get? b = s1.heap.get? b := fun b q => Heap.get?_update_other _ _ (Ne.symm q)
  have tu : Tups s1.heap (s1.heap.update al (Obj.mapSeq fun xs => xs.eraseIdxIfInBounds (vs.size - 1))) := fun b vs n e => (sb b (fun q => R1.inv.notTup m1 (q ▸ e))).trans e
  have R3 := R1.put ok ha sb (c := .lst l) ⟨_, k', hg, by
    rw [ys]
    have := (hv.mono tu (List.prefix_refl _)).take l.length
    simpa using this⟩
  exact ⟨z, _, μ1, k1, R3, ry.mono tu (List.prefix_refl _), g1, x1.trans g1 (Ext.put m1 sb ⟨_, hg⟩)⟩

theorem sound_cmp2 {l r e3 : Expr} {a b c : E} {p1 p2 : COp} {o1 o2 : CmpOp} {pos : Pos} (ok : EnvOk env names) (hop1 : CopIs p1 o1) (hop2 : CopIs p2 o2)
    (hm : markedEach [o1, o2] [r, e3] (evalEach [r, e3] env) = [eval r env, eval e3 env])
    (hl : SoundE prog w base C env names fn l a) (hr : SoundE prog w base C env names fn r b) (hr2 : SoundE prog w base C env names fn e3 c) :
    SoundE prog w base C env names fn (.Compare l [o1, o2] [r, e3] pos) (.cmp2 p1 p2 a b c) := fun outer n A σ μ s P X hA R h => by
  rw [arm_eval_Compare, hm]
  refine wpAny_bind (next (hl outer n A σ μ s _ X hA R h) fun v s1 q1 => ?_)
  obtain ⟨x, σ1, μ1, k1, R1, r1, g1, x1⟩ := q1
  show wpAny _ _ (do let rv ← holding [v] (eval r env); standAt pos; let c ← holding [v, rv] (compareOp o1 v rv); release [v, rv] [c]; if ← holding [c, rv] (truthy c) then compareChain pos rv [o2] [eval e3 env] else pure c) _ _ _
  refine wpAny_bind (wpAny_holding (later g1 x1 (hr outer n A σ1 μ1 s1 _ X hA R1 k1) fun u s2 q2 => ?_))
  obtain ⟨y, σ2, μ2, ⟨t, ht, k2⟩, R2, r2, g2, x2⟩ := q2
  have g12 := g1.trans x1 g2
  have x12 := x1.trans g1 x2
  refine wpAny_bind (wpAny_standAt (wpAny_bind (wpAny_holding (cmp_ok hop1 (r1.mono (R1.tups ok x2) g2.pre) r2 ht ?_))))
  refine wpAny_bind (wpAny_release (wpAny_bind (wpAny_holding (wpAny_truthy_bool ?_))))
  cases t
  · exact wpAny_pure ⟨_, σ2, μ2, k2, R2, rfl, g12, x12⟩
  · show wpAny _ _ (do let rv ← holding [u] (eval e3 env); standAt pos; operate [u, rv] (compareOp o2 u rv)) _ _ _
    refine wpAny_bind (wpAny_holding (later g12 x12 (hr2 outer n A σ2 μ2 s2 _ X hA R2 k2) fun u' s3 q3 => ?_))
    obtain ⟨z, σ3, μ3, ⟨t', ht', k3⟩, R3, r3, g3, x3⟩ := q3
    exact wpAny_bind (wpAny_standAt (wpAny_operating (cmp_ok hop2 (r2.mono (R2.tups ok x3) g3.pre) r3 ht' ⟨_, σ3, μ3, k3, R3, rfl, g12.trans x12 g3, x12.trans g12 x3⟩)))
end
end
section
open PySem PySem.Calls PySem.W

section
variable {prog : Program} {w : World} {base : Heap} {C : Addr} {env : Env} {outer : List Env} {names : List Str} {fn : Nat → Option Addr}

noncomputable def IsRec (h : Heap) (S : List Addr) : Prop := ∀ b ∈ S, ∀ o, h.get? b = some o → ∃ vs, o.data = .fields vs

theorem funFrames_of_data {base h h' : Heap} : ∀ {l : List Env}, (∀ b ∈ FA l, ∀ o, h.get? b = some o → ∃ o', h'.get? b = some o' ∧ o'.data = o.data) → h.FunFrames base l → h'.FunFrames base l
  | [], _, _ => trivial
  | env :: r, k, ⟨a, ⟨L, o, hf, hn, ho, hd⟩, y⟩ => by
    have m : L ∈ FA (env :: r) := by unfold FA; rw [List.filterMap_cons, hf]; exact .head _
    obtain ⟨o', e', d'⟩ := k L m o ho
    refine ⟨a, ⟨L, o', hf, hn, e', fun vs => d' ▸ hd vs⟩, funFrames_of_data (fun b hb => k b ?_) y⟩
    unfold FA; rw [List.filterMap_cons, hf]; exact .tail _ hb

theorem cell_notRec {h : Heap} {μ : List Addr} {a : Addr} {c : Cell} (x : CellAt prog w h μ a c) {S : List Addr} (r : IsRec h S) : a ∉ S := fun m => by
  cases c with
  | lst ds => obtain ⟨vs, n, e, _⟩ := x; obtain ⟨q, hq⟩ := r a m _ e; cases hq
  | dct es => obtain ⟨kvs, ⟨o, es', ep, e, _, hd, _⟩, _⟩ := x; obtain ⟨q, hq⟩ := r a m _ e; rw [hd] at hq; cases hq

theorem Inv.rest {l : List Env} {μ : List Addr} {cells : List Cell} {h h' : Heap} {S : List Addr} (I : Inv prog w base l μ cells h) (x : Rest (FA l) S h h') (r : IsRec h S) (hb : ∀ b ∈ S, base.get? b = none) :
    Inv prog w base l μ cells h' ∧ Tups h h' := by
  have nS : ∀ b ∈ FA l, b ∉ S := fun b m mS => by
    obtain ⟨f, o, es, ep, e, hd, _⟩ := I.dicts b m
    obtain ⟨q, hq⟩ := r b mS o e
    rw [hd] at hq; cases hq
  have tu : Tups h h' := fun a vs n e => x.keep a _ e (fun m => let ⟨_, hm⟩ := I.dicts a m; ns_notTup hm e) fun m => by
    obtain ⟨q, hq⟩ := r a m _ e; cases hq
  refine ⟨⟨fun b o e => ?_, funFrames_of_data (fun b m o e => ?_) I.frames, I.len, I.nodup, I.fresh, I.apart, fun a m => ?_, fun i a c e1 e2 => ?_⟩, tu⟩
  · refine x.keep b o (I.stays b o e) (fun m => ?_) fun m => ?_
    · rw [(I.frames.mem m).1] at e; cases e
    · rw [hb b m] at e; cases e
  · obtain ⟨sl, e'⟩ := x.data b o e m (nS b m)
    exact ⟨_, e', rfl⟩
  · obtain ⟨f, o, es, ep, e, r⟩ := I.dicts a m
    obtain ⟨sl, e'⟩ := x.data a o e m (nS a m)
    exact ⟨f, _, es, ep, e', r⟩
  · have hc := I.cells i a c e1 e2
    have ma := List.mem_of_getElem? e1
    exact hc.mono tu (List.prefix_refl _) fun o e => x.keep a o e (I.apart a ma) (cell_notRec hc r)

theorem exc_rec {h : Heap} {e C d : Addr} {tb : Tb} (x : ExcAt h e C d tb) : IsRec h (e :: tb.at) := fun b m o q => by
  obtain ⟨vs, sl, he, _, ht⟩ := x
  rcases List.mem_cons.mp m with rfl | m
  · rw [he] at q; cases q; exact ⟨vs, rfl⟩
  · cases tb with
    | none => cases m
    | some p =>
      obtain ⟨T, fl⟩ := p
      obtain rfl := List.mem_singleton.mp m
      obtain ⟨_, _, oT, ts, hT, hd, _⟩ := ht
      rw [hT] at q; cases q; exact ⟨ts, hd⟩

theorem val_rest {l : List Env} {h h' : Heap} {S : List Addr} {d : Addr} {msg : List Nat} (x : Rest (FA l) S h h') (r : IsRec h S) (hd : d ∉ FA l) (v : ValAt prog w h d msg) : ValAt prog w h' d msg := by
  obtain ⟨f, t, ⟨o, es, ep, e, hdt, q⟩, hv⟩ := v
  exact ⟨f, t, ⟨o, es, ep, x.keep d o e hd fun m => (by obtain ⟨z, hz⟩ := r d m o e; rw [hdt] at hz; cases hz), hdt, q⟩, hv⟩

theorem base_none {h0 : Heap} (k : base.StaysIn h0) {b : Addr} (e : h0.get? b = none) : base.get? b = none := by
  cases q : base.get? b with
  | none => rfl
  | some o => have := k b o q; rw [e] at this; cases this

theorem ErrF.rest {l : List Env} {own : Value → Prop} {fr : List Addr} {h0 : Hp} {h' : Heap} {μ0 : List Addr} {X : XP} {s' : Shared} {e d : Addr} {tb' : Tb} {msg : List Nat} {cells' : List Cell} {μ' : List Addr} {S : List Addr}
    (h2 : X msg cells') (h3 : Inv prog w base l μ' cells' s'.heap) (h4 : Gro h0.1 μ0 μ') (h5 : Ext (FA l) (fr ++ μ0) h0 (hOf s')) (h8 : ValAt prog w s'.heap d msg) (h9 : h0.1.get? e = none) (h10 : d ∉ FA l) (hb : base.StaysIn h0.1)
    (x : Rest (FA l) S s'.heap h') (r : IsRec s'.heap S) (hS : ∀ b ∈ S, h0.1.get? b = none) (a : ExcAt h' e C d tb') (hfl : ∀ T fl, tb' = some (T, fl) → fl = .none ∨ own fl) (hT : ∀ T ∈ tb'.at, h0.1.get? T = none) :
    ErrF prog w base C l own fr h0 μ0 X (.ref e) { s' with heap := h' } := by
  obtain ⟨I, tu⟩ := h3.rest x r fun b m => base_none hb (hS b m)
  refine ⟨e, d, tb', msg, cells', μ', rfl, h2, I, h4, ⟨fun b o q n1 n2 => ?_, fun b o q n1 n2 => ?_, fun b o q => ?_, h5.same⟩, a, hfl, val_rest x r h10 h8, h9, h10, hT⟩
  · exact x.keep b o (h5.keep b o q n1 n2) n1 fun m => by rw [hS b m] at q; cases q
  · obtain ⟨sl, q1⟩ := h5.data b o q n1 n2
    obtain ⟨sl', q2⟩ := x.data b _ q1 n1 fun m => by rw [hS b m] at q; cases q
    exact ⟨sl', q2⟩
  · obtain ⟨o1, q1⟩ := h5.live b o q
    exact x.live b o1 q1

theorem err_passes (ok : EnvOk env names) {A : Around} (hA : A.frames = some (env :: outer)) {h0 : Hp} {μ0 : List Addr} {X : XP} (hb : base.StaysIn h0.1) :
    ∀ ev s', ErrS prog w base C env outer h0 μ0 X ev s' → notedBy (model prog w) A env (cameBackBy (model prog w) A env (ErrS prog w base C env outer h0 μ0 X)) ev s' := fun ev s' y => by
  obtain ⟨e, d, tb, msg, cells', μ', rfl, h2, h3, h4, h5, h6, h7, h8, h9, h10, h11⟩ := y
  unfold notedBy
  refine note_ok hA h3.frames ok.frame h6 h7 fun h' T a b c => ?_
  have hS : ∀ b ∈ e :: tb.at, h0.1.get? b = none := fun b m => by
    rcases List.mem_cons.mp m with rfl | m
    · exact h9
    · exact h11 b m
  have hT0 : h0.1.get? T = none := by
    rcases b with b | b
    · exact none_of_live h5 b
    · exact h11 T b
  have y2 := ErrF.rest (own := fun fl => fl = rawInt env.locals) h2 h3 h4 h5 h8 h9 h10 hb c (exc_rec h6) hS a (fun T' fl q => by cases q; exact .inr rfl) (fun T' m => by obtain rfl := List.mem_singleton.mp m; exact hT0)
  obtain ⟨e', d', tb', msg', cells2, μ2, q, k2, k3, k4, k5, k6, k7, k8, k9, k10, k11⟩ := y2
  cases q
  refine cameBack_ok (base := base) (outer := outer) ok.frame a fun h'' a' c' => ?_
  obtain ⟨_, _, e1, _, e2⟩ := id a
  obtain ⟨_, _, e1', _, e2'⟩ := id k6
  have hd' : d' = d := by
    rw [e1] at e1'; cases e1'; rfl
  subst hd'
  exact ErrF.rest (own := fun fl => fl = rawInt env.locals) k2 k3 k4 k5 k8 h9 k10 hb c' (fun b m o q => exc_rec a b (.tail _ m) o q) (fun b m => by obtain rfl := List.mem_singleton.mp m; exact hT0) a' (fun T' fl q => by cases q; exact .inr rfl) (fun T' m => by obtain rfl := List.mem_singleton.mp m; exact hT0)
end
end
section
open PySem PySem.Calls PySem.W

section
variable (prog : Program) (w : World) (base : Heap) (C : Addr) (env : Env) (outer : List Env) (names : List Str) (fn : Nat → Option Addr)

noncomputable def FlR (h : Heap) (μ : List Addr) : Fl → Flow → Prop
  | .next, f => f = .next
  | .brk, f => f = .brk
  | .ret d, f => ∃ v, f = .ret v ∧ VR h μ d v

inductive PostS (h0 : Hp) (μ0 : List Addr) (P : Fl → St → Prop) (f : Flow) (s' : Shared) : Prop where
  | mk (fl : Fl) (σ' : St) (μ' : List Addr) (h1 : P fl σ') (h2 : Rel prog w base env outer names σ' μ' s'.heap) (h3 : FlR s'.heap μ' fl f) (h4 : Gro h0.1 μ0 μ') (h5 : Ext (FA (env :: outer)) ([env.locals] ++ μ0) h0 (hOf s')) : PostS h0 μ0 P f s'

noncomputable def Sound1 (st : Stmt) (t : S) : Prop := ∀ outer n A σ μ s P X, AOk A (env :: outer) n → Rel prog w base env outer names σ μ s.heap → wpS (CallOK prog w base C fn n) t σ P X →
  wpAny (model prog w) A (exec st env) (PostS prog w base env outer names (hOf s) μ P) (ErrS prog w base C env outer (hOf s) μ X) s
noncomputable def SoundS (ss : List Stmt) (t : S) : Prop := ∀ outer n A σ μ s P X, AOk A (env :: outer) n → Rel prog w base env outer names σ μ s.heap → wpS (CallOK prog w base C fn n) t σ P X →
  wpAny (model prog w) A (execs ss env) (PostS prog w base env outer names (hOf s) μ P) (ErrS prog w base C env outer (hOf s) μ X) s
end

section
variable {prog : Program} {w : World} {base : Heap} {C : Addr} {env : Env} {outer : List Env} {names : List Str} {fn : Nat → Option Addr}

theorem PostS.trans {h0 h1 : Hp} {μ0 μ1 : List Addr} {P : Fl → St → Prop} {f : Flow} {s' : Shared} (g : Gro h0.1 μ0 μ1) (x : Ext (FA (env :: outer)) ([env.locals] ++ μ0) h0 h1)
    (y : PostS prog w base env outer names h1 μ1 P f s') : PostS prog w base env outer names h0 μ0 P f s' := by
  obtain ⟨d, σ', μ', a, b, c, d1, d2⟩ := y
  exact ⟨d, σ', μ', a, b, c, g.trans x d1, x.trans g d2⟩

theorem funFrames_of_data' {L : Addr} {m : Str → Option Value} {h h' : Heap} : ∀ {l : List Env}, h.FunFrames base l → h'.Ns L m → (∀ b, b ≠ L → h'.get? b = h.get? b) → h'.FunFrames base l
  | [], _, _, _ => trivial
  | env :: r, ⟨a, ⟨K, o, hf, hn, ho, hd⟩, y⟩, x, sb => by
    refine ⟨a, ?_, funFrames_of_data' y x sb⟩
    by_cases q : K = L
    · subst q
      obtain ⟨o', es, ep, e', d', _⟩ := x
      exact ⟨K, o', hf, hn, e', fun vs z => by rw [d'] at z; cases z⟩
    · exact ⟨K, o, hf, hn, (sb K q).trans ho, hd⟩

theorem Rel.store (ok : EnvOk env names) {σ : St} {μ : List Addr} {h h' : Heap} {i : Nat} {x : Str} {d : D} {v : Value} {m : Str → Option Value} (R : Rel prog w base env outer names σ μ h)
    (hm : h.Ns env.locals m ∧ ∀ (i : Nat) (x : Str) (d : D), names[i]? = some x → σ.loc[i]? = some (some d) → ∃ v, m x = some v ∧ VR h μ d v)
    (hx : names[i]? = some x) (r : VR h μ d v)
    (hn : h'.Ns env.locals fun y => if y = x then some v else m y) (sb : ∀ b, b ≠ env.locals → h'.get? b = h.get? b) : Rel prog w base env outer names (σ.set i d) μ h' := by
  have hL := locals_mem (outer := outer) ok
  have tu : Tups h h' := fun a vs n e => (sb a (fun q => by subst q; exact ns_notTup hm.1 e)).trans e
  refine ⟨⟨fun b o e => (sb b (fun q => ?_)).trans (R.inv.stays b o e), funFrames_of_data' R.inv.frames hn sb, R.inv.len, R.inv.nodup, R.inv.fresh, R.inv.apart, fun a ma => ?_, fun j a c e1 e2 => ?_⟩, ⟨_, hn, fun j y d' e1 e2 => ?_⟩⟩
  · rw [q, (R.inv.frames.mem hL).1] at e; cases e
  · by_cases q : a = env.locals
    · exact ⟨_, q ▸ hn⟩
    · obtain ⟨f, o, es, ep, e, r⟩ := R.inv.dicts a ma
      exact ⟨f, o, es, ep, (sb a q).trans e, r⟩
  · have ma := List.mem_of_getElem? e1
    exact (R.inv.cells j a c e1 e2).mono tu (List.prefix_refl _) fun o e => (sb a (fun q => R.inv.apart a ma (q ▸ hL))).trans e
  · show ∃ u, (if y = x then some v else m y) = some u ∧ VR h' μ d' u
    by_cases q : j = i
    · subst q
      rw [hx] at e1; cases e1
      rw [if_pos rfl]
      refine ⟨v, rfl, ?_⟩
      have : d' = d := by
        unfold St.set at e2
        simp only [List.getElem?_set] at e2
        split at e2
        · split at e2
          · cases e2; rfl
          · cases e2
        · rename_i q; exact absurd trivial q
      rw [this]; exact r.mono tu (List.prefix_refl _)
    · have hne : ¬ y = x := fun z => by
        subst z
        have h1 := List.getElem?_eq_some_iff.mp e1
        have h2 := List.getElem?_eq_some_iff.mp hx
        exact q ((List.getElem_inj ok.nodup).mp (h1.2.trans h2.2.symm))
      rw [if_neg hne]
      have e3 : σ.loc[j]? = some (some d') := by
        unfold St.set at e2
        rw [List.getElem?_set_ne (Ne.symm q)] at e2
        exact e2
      obtain ⟨u, e4, r4⟩ := hm.2 j y d' e1 e3
      exact ⟨u, e4, r4.mono tu (List.prefix_refl _)⟩

theorem store_ok (ok : EnvOk env names) {A : Around} {σ : St} {μ : List Addr} {s : Shared} {i : Nat} {x : Str} {d : D} {v : Value} {Q : Unit → Shared → Prop} {X : Value → Shared → Prop} (R : Rel prog w base env outer names σ μ s.heap)
    (hx : names[i]? = some x) (r : VR s.heap μ d v)
    (k : ∀ h' tk, Rel prog w base env outer names (σ.set i d) μ h' → Tups s.heap h' → Ext (FA (env :: outer)) ([env.locals] ++ μ) (hOf s) (hW (hOf s) h') → Q () { s with heap := h', toks := tk }) :
    wpAny (model prog w) A (storeName env x v) Q X s := by
  obtain ⟨m, hm⟩ := R.ns
  refine wpAny_storeName_local (ok.loc i x hx) hm.1 (fun h' hn sb => ?_) (by
    show (env.scope.kind == .class || (env.scope.kind == .module && env.locals != env.globals)) = false
    rw [ok.kind]; rfl)
  have tu : Tups s.heap h' := fun a vs n e => (sb.2 a (fun q => by subst q; exact ns_notTup hm.1 e)).trans e
  refine k h' _ (R.store ok hm hx r hn sb.2) tu ⟨fun b o e n1 n2 => (sb.2 b fun q => n2 (by rw [q]; exact .head _)).trans e, fun b o e n1 n2 => ⟨o.slots, (sb.2 b fun q => n2 (by rw [q]; exact .head _)).trans e⟩, fun b o e => ?_, rfl⟩
  by_cases q : b = env.locals
  · obtain ⟨o', _, _, e', _⟩ := hn; exact ⟨o', q ▸ e'⟩
  · exact ⟨o, (sb.2 b q).trans e⟩

theorem sound_skip : SoundS prog w base C env names fn [] .skip := fun outer n A σ μ s P X hA R h =>
  wpAny_execs_nil ⟨.next, σ, μ, h, R, rfl, Gro.refl _ _, Ext.refl _ _ _⟩

theorem sound_seq {st : Stmt} {ss : List Stmt} {a b : S} (h1 : Sound1 prog w base C env names fn st a) (h2 : SoundS prog w base C env names fn ss b) : SoundS prog w base C env names fn (st :: ss) (.seq a b) := fun outer n A σ μ s P X hA R h => by
  refine wpAny_execs_cons (next (h1 outer n A σ μ s _ X hA R h) fun f s1 p1 => ?_)
  obtain ⟨fl, σ1, μ1, k1, R1, r1, g1, x1⟩ := p1
  cases fl with
  | next => cases r1; exact later g1 x1 (h2 outer n A σ1 μ1 s1 P X hA R1 k1) fun f s2 p2 => p2.trans g1 x1
  | brk => cases r1; exact ⟨.brk, σ1, μ1, k1, R1, rfl, g1, x1⟩
  | ret d => obtain ⟨v, rfl, r⟩ := r1; exact ⟨.ret d, σ1, μ1, k1, R1, ⟨v, rfl, r⟩, g1, x1⟩

theorem sound_one {st : Stmt} {a : S} (h1 : Sound1 prog w base C env names fn st a) : SoundS prog w base C env names fn [st] a := fun outer n A σ μ s P X hA R h => by
  refine wpAny_execs_cons (next (h1 outer n A σ μ s _ X hA R h) fun f s1 p1 => ?_)
  obtain ⟨fl, σ1, μ1, k1, R1, r1, g1, x1⟩ := p1
  cases fl with
  | next => cases r1; exact wpAny_execs_nil ⟨.next, σ1, μ1, k1, R1, rfl, g1, x1⟩
  | brk => cases r1; exact ⟨.brk, σ1, μ1, k1, R1, rfl, g1, x1⟩
  | ret d => obtain ⟨v, rfl, r⟩ := r1; exact ⟨.ret d, σ1, μ1, k1, R1, ⟨v, rfl, r⟩, g1, x1⟩

theorem sound_expr {e : Expr} {t : E} {pos : Pos} (ok : EnvOk env names) (hs : swapsWith e none pos.line env = pure false) (h1 : SoundE prog w base C env names fn e t) : Sound1 prog w base C env names fn (.Expr e pos) (.expr t) := fun outer n A σ μ s P X hA R h => by
  refine wpAny_Expr_any (next (h1 outer n A σ μ s _ X hA R h) fun v s1 p1 => ?_) ?_ hs
  · obtain ⟨d, σ1, μ1, k1, R1, r1, g1, x1⟩ := p1
    exact ⟨.next, σ1, μ1, k1, R1, rfl, g1, x1⟩
  · unfold interactive; rw [ok.kind]; rfl

theorem sound_ret {e : Expr} {t : E} {pos : Pos} (h1 : SoundE prog w base C env names fn e t) : Sound1 prog w base C env names fn (.Return (some e) pos) (.ret t) := fun outer n A σ μ s P X hA R h => by
  refine wpAny_Return_some (next (h1 outer n A σ μ s _ X hA R h) fun v s1 p1 => ?_)
  obtain ⟨d, σ1, μ1, k1, R1, r1, g1, x1⟩ := p1
  exact ⟨.ret d, σ1, μ1, k1, R1, ⟨v, rfl, r1⟩, g1, x1⟩

theorem sound_ret0 {pos : Pos} : Sound1 prog w base C env names fn (.Return none pos) (.ret (.cst .none)) := fun outer n A σ μ s P X hA R h =>
  wpAny_Return_none ⟨.ret .none, σ, μ, h, R, ⟨_, rfl, rfl⟩, Gro.refl _ _, Ext.refl _ _ _⟩

theorem sound_brk {pos : Pos} : Sound1 prog w base C env names fn (.Break pos) .brk := fun outer n A σ μ s P X hA R h =>
  wpAny_Break ⟨.brk, σ, μ, h, R, rfl, Gro.refl _ _, Ext.refl _ _ _⟩

theorem sound_asg {x : Str} {p pos : Pos} {e : Expr} {t : E} {i : Nat} (ok : EnvOk env names) (hx : names[i]? = some x) (hs : swapsWith e (some (.Name x p)) pos.line env = pure false) (h1 : SoundE prog w base C env names fn e t) :
    Sound1 prog w base C env names fn (.Assign [.Name x p] e pos) (.asg i t) := fun outer n A σ μ s P X hA R h => by
  refine wpAny_Assign_Name (next (h1 outer n A σ μ s _ X hA R h) fun v s1 p1 => ?_) hs
  obtain ⟨d, σ1, μ1, k1, R1, r1, g1, x1⟩ := p1
  exact store_ok ok R1 hx r1 fun h' tk R2 tu x2 => ⟨.next, _, μ1, k1, R2, rfl, g1, x1.trans g1 x2⟩

theorem sound_if {c : Expr} {a b : List Stmt} {t : E} {u v : S} {pos : Pos} (hc : SoundB prog w base C env names fn c t) (ha : SoundS prog w base C env names fn a u) (hb : SoundS prog w base C env names fn b v) :
    Sound1 prog w base C env names fn (.If c a b pos) (.ite t u v) := fun outer n A σ μ s P X hA R h => by
  refine wpAny_If (next (hc outer n A σ μ s (fun b σ1 => if b then wpS (CallOK prog w base C fn n) u σ1 P X else wpS (CallOK prog w base C fn n) v σ1 P X) X hA R h) fun b s1 p1 => ?_)
  obtain ⟨σ1, μ1, k1, R1, g1, x1⟩ := p1
  cases b
  · exact later g1 x1 (hb outer n A σ1 μ1 s1 P X hA R1 k1) fun b s2 p2 => p2.trans g1 x1
  · exact later g1 x1 (ha outer n A σ1 μ1 s1 P X hA R1 k1) fun b s2 p2 => p2.trans g1 x1

theorem iop_ok {A : Around} {s : Shared} {X : Value → Shared → Prop} {op : BOp} {o : Operator} {x y d : D} {v u : Value} {h : Heap} {μ : List Addr} {Q : Value → Shared → Prop}
    (hop : AopIs op o) (r1 : VR h μ x v) (r2 : VR h μ y u) (hd : binD op x y = some d) (hs : sizeOk d)
    (k : ∀ r tk, VR h μ d r → Q r { s with toks := tk }) : wpAny (model prog w) A (inplaceOp o v u) Q X s := by
  cases hop with
  | add =>
    cases x with
    | int a =>
      obtain ⟨b, e, rfl⟩ := ms hd
      obtain rfl := asI_eq e
      obtain ⟨t, rfl⟩ := r1; obtain ⟨t', rfl⟩ := r2
      exact PyProof.Rows.iadd_int (k _ _ ⟨_, rfl⟩)
    | str a =>
      obtain ⟨b, e, rfl⟩ := ms hd
      obtain rfl := asS_eq e
      obtain ⟨t, rfl⟩ := r1; obtain ⟨t', rfl⟩ := r2
      refine SB.iadd (fun t k' => ?_) ?_
      · rw [cat_is]; exact k _ _ ⟨_, rfl⟩
      · have := fits_of hs
        simp only [Str.length, List.size_toArray, List.length_append] at this ⊢
        exact this
    | _ => exact nn hd
  | sub =>
    obtain ⟨a, e, hd⟩ := bs hd
    obtain ⟨b, e', rfl⟩ := ms hd
    obtain rfl := asI_eq e
    obtain rfl := asI_eq e'
    obtain ⟨t, rfl⟩ := r1; obtain ⟨t', rfl⟩ := r2
    exact PyProof.Rows.isub_int (k _ _ ⟨_, rfl⟩)

theorem sound_aug {x : Str} {p pos : Pos} {e : Expr} {t : E} {i : Nat} {op : BOp} {o : Operator} (ok : EnvOk env names) (hx : names[i]? = some x) (hop : AopIs op o)
    (h1 : SoundE prog w base C env names fn e t) : Sound1 prog w base C env names fn (.AugAssign (.Name x p) o e pos) (.aug i op t) := fun outer n A σ μ s P X hA R h => by
  obtain ⟨d, hd, h⟩ := h
  obtain ⟨m, hm, hv⟩ := R.ns
  obtain ⟨v, ev, r⟩ := hv i x d hx hd
  refine wpAny_AugAssign_Name (wpAny_loadName_local ok.kind (ok.loc i x hx) hm ev (next (h1 outer n A σ μ s _ X hA R h) fun u s1 p1 => ?_))
  obtain ⟨z, σ1, μ1, ⟨q, hq, hs, k1⟩, R1, r1, g1, x1⟩ := p1
  refine iop_ok hop (r.mono (R.tups ok x1) g1.pre) r1 hq hs fun y tk ry => ?_
  exact store_ok ok (s := { s1 with toks := tk }) R1 hx ry fun h' tk R2 tu x2 => ⟨.next, _, μ1, k1, R2, rfl, g1, x1.trans g1 x2⟩

theorem sound_whl {c : Expr} {b : List Stmt} {t : E} {u : S} {pos : Pos} (ok : EnvOk env names) (hc : SoundB prog w base C env names fn c t) (hb : SoundS prog w base C env names fn b u) :
    Sound1 prog w base C env names fn (.While c b [] pos) (.whl t u) := fun outer n A σ μ s P X hA R h => by
  obtain ⟨I, k, h0, hI⟩ := h
  refine wpAny_While (codeAny_loop rfl (fun k s' => ∃ σ' μ', I k σ' ∧ Rel prog w base env outer names σ' μ' s'.heap ∧ Gro s.heap μ μ' ∧ Ext (FA (env :: outer)) ([env.locals] ++ μ) (hOf s) (hOf s')) (fun k s' y => ?_) k ⟨σ, μ, h0, R, Gro.refl _ _, Ext.refl _ _ _⟩)
  obtain ⟨σ1, μ1, k1, R1, g1, x1⟩ := y
  rw [Around.under_of_weight (by rfl)]
  show wpAny _ _ ((whileTurn c b [] env).onRaise fun x => do noteFrame x env; theTreesLotGoes x) _ _ _
  refine wpAny_noted (wpAny_mono ?_ (fun _ _ q => q) (err_passes ok hA.frames R.inv.stays))
  unfold whileTurn
  refine wpAny_bind (later g1 x1 (hc outer n A σ1 μ1 s' (fun t σ1 => if t then wpS (CallOK prog w base C fn n) u σ1 (fun f σ2 => match f with
        | .next => ∃ m, m < k ∧ I m σ2
        | .brk => P .next σ2
        | .ret d => P (.ret d) σ2) X else P .next σ1) X hA R1 (hI k σ1 k1)) fun q s2 p2 => ?_)
  obtain ⟨σ2, μ2, k2, R2, g2, x2⟩ := p2
  have g12 := g1.trans x1 g2
  have x12 := x1.trans g1 x2
  cases q
  · exact wpAny_bind (wpAny_execs_nil (wpAny_pure ⟨.next, σ2, μ2, k2, R2, rfl, g12, x12⟩))
  · refine wpAny_bind (later g12 x12 (hb outer n A σ2 μ2 s2 _ X hA R2 k2) fun f s3 p3 => ?_)
    obtain ⟨fl, σ3, μ3, k3, R3, r3, g3, x3⟩ := p3
    have g13 := g12.trans x12 g3
    have x13 := x12.trans g12 x3
    cases fl with
    | next =>
      cases r3
      obtain ⟨m, hm, k3⟩ := k3
      exact wpAny_pure ⟨rfl, m, hm, σ3, μ3, k3, R3, g13, x13⟩
    | brk => cases r3; exact wpAny_pure ⟨.next, σ3, μ3, k3, R3, rfl, g13, x13⟩
    | ret d => obtain ⟨v, rfl, r⟩ := r3; exact wpAny_pure ⟨.ret d, σ3, μ3, k3, R3, ⟨v, rfl, r⟩, g13, x13⟩
end
end
section
open PySem PySem.Calls PySem.W

section
variable {prog : Program} {w : World} {base : Heap} {C : Addr} {env : Env} {outer : List Env} {names : List Str} {fn : Nat → Option Addr}

inductive TgtOk (names : List Str) : List Expr → List Nat → Prop
  | nil : TgtOk names [] []
  | cons {x : Str} {p : Pos} {es : List Expr} {i : Nat} {is : List Nat} (h : names[i]? = some x) (r : TgtOk names es is) : TgtOk names (.Name x p :: es) (i :: is)

theorem order_ok (ok : EnvOk env names) {A : Around} {X : Value → Shared → Prop} {es : List Expr} {is : List Nat} (ht : TgtOk names es is) : ∀ {ds : List D} {vs : List Value} {σ : St} {μ : List Addr} {s : Shared} {Q : Unit → Shared → Prop}, ds.length = is.length →
    Rel prog w base env outer names σ μ s.heap → VRs s.heap μ ds vs →
    (∀ h' tk, Rel prog w base env outer names (σ.sets is ds) μ h' → Ext (FA (env :: outer)) ([env.locals] ++ μ) (hOf s) (hW (hOf s) h') → Q () { s with heap := h', toks := tk }) →
    wpAny (model prog w) A (assignInOrder ((assignEach es env).map (·.2)) vs) Q X s := by
  induction ht with
  | nil =>
    intro ds vs σ μ s Q hl R r k
    obtain rfl := List.length_eq_zero_iff.mp hl
    exact wpAny_assignInOrder_none (k s.heap s.toks R (Ext.refl _ _ _))
  | cons h0 ht ih =>
    intro ds vs σ μ s Q hl R r k
    cases ds with
    | nil => exact nomatch hl
    | cons d ds =>
      obtain ⟨v, vs', rfl, r1, r2⟩ := r
      refine wpAny_assignInOrder_more (wpAny_assign_Name (store_ok ok R h0 r1 fun h' tk R2 tu x2 => ?_))
      refine ih (Nat.succ.inj hl) R2 (r2.mono tu (List.prefix_refl _)) fun h'' tk' R3 x3 => ?_
      exact k h'' tk' R3 (x2.trans (Gro.refl _ _) x3)

theorem tgt_len {es : List Expr} {is : List Nat} (ht : TgtOk names es is) : (assignEach es env).length = is.length ∧ (assignEach es env).findIdx? (·.1) = none := by
  induction ht with
  | nil => exact ⟨rfl, rfl⟩
  | @cons x p es i is h r ih =>
    refine ⟨congrArg (· + 1) ih.1, ?_⟩
    show List.findIdx? _ ((false, _) :: assignEach es env) = none
    rw [List.findIdx?_cons]; simp [ih.2]

theorem unpack_ok (ok : EnvOk env names) {A : Around} {n : Nat} {X : Value → Shared → Prop} {es : List Expr} {is : List Nat} {k : Nat} {pos : Pos} {ds : List D} {v : Value} {σ : St} {μ : List Addr} {s : Shared} {Q : Unit → Shared → Prop} (hA : A.handled = none) (ht : TgtOk names es is) (hl : ds.length = is.length)
    (R : Rel prog w base env outer names σ μ s.heap) (r : VR s.heap μ (.tup ds) v)
    (kQ : ∀ h' tk, Rel prog w base env outer names (σ.sets is ds) μ h' → Ext (FA (env :: outer)) ([env.locals] ++ μ) (hOf s) (hW (hOf s) h') → Q () { s with heap := h', toks := tk }) :
    wpAny (model prog w) A (assign (.Tuple es k pos) env v) Q X s := by
  obtain ⟨a, vs, m, rfl, e, rv⟩ := r
  have hlen : vs.toArray.size = ds.length := by rw [List.size_toArray, rv.length]
  obtain ⟨t1, t2⟩ := tgt_len (env := env) ht
  refine wpAny_assign_Tuple hA ⟨_, e, rfl, m, rfl⟩ (by rw [t1, hlen, hl]) t2 fun h' xb => ?_
  have kp : ∀ b o, s.heap.get? b = some o → h'.get? b = some o := fun b o q => xb b o (Nat.ne_of_lt (Heap.lt_size q)) q
  have R2 := R.grow kp
  have rv2 := rv.mono (fun b vs n e => kp _ _ e) (List.prefix_refl μ)
  refine order_ok ok ht hl R2 (by simpa using rv2) fun h'' tk R3 x3 => kQ h'' tk R3 ?_
  exact (Ext.of_keeps kp).trans (Gro.refl _ _) x3

theorem sound_asgs {es : List Expr} {e : Expr} {t : E} {is : List Nat} {k : Nat} {p pos : Pos} (ok : EnvOk env names) (ht : TgtOk names es is) (h1 : SoundE prog w base C env names fn e t)
    (hs : swapsWithSole [.Tuple es k p] e pos.line env = pure false) (hw : swappedStores [.Tuple es k p] e env = pure none) : Sound1 prog w base C env names fn (.Assign [.Tuple es k p] e pos) (.asgs is t) := fun outer n A σ μ s P X hA R h => by
  refine wpAny_Assign_stores (next (h1 outer n A σ μ s _ X hA R h) fun v s1 p1 => ?_) hs hw
  obtain ⟨d, σ1, μ1, ⟨l, rfl, hl, k1⟩, R1, r1, g1, x1⟩ := p1
  show wpAny _ _ (assign (.Tuple es k p) env v) _ _ _
  refine unpack_ok (n := n) ok hA.handled ht hl R1 r1 fun h' tk R2 x2 => ?_
  exact ⟨.next, _, μ1, k1, R2, rfl, g1, x1.trans g1 x2⟩

theorem Array.toList_setIf (vs : Array Value) (k : Nat) (v : Value) : (vs.setIfInBounds k v).toList = vs.toList.set k v := by simp

theorem stored_rel {h : Heap} {μ : List Addr} {k : List Nat} {d : D} {v : Value} (r : VR h μ d v) : ∀ {es : List (List Nat × D)} {kvs : List (Str × Value)}, kvs.map (·.1) = es.map (fun p => (⟨p.1.toArray⟩ : Str)) → VRs h μ (es.map (·.2)) (kvs.map (·.2)) →
    (kvs.map (fun kv => if kv.1 = (⟨k.toArray⟩ : Str) then (kv.1, v) else kv)).map (·.1) = (es.map fun p => if p.1 = k then (k, d) else p).map (fun p => (⟨p.1.toArray⟩ : Str)) ∧
    VRs h μ ((es.map fun p => if p.1 = k then (k, d) else p).map (·.2)) ((kvs.map (fun kv => if kv.1 = (⟨k.toArray⟩ : Str) then (kv.1, v) else kv)).map (·.2))
  | [], [], _, _ => ⟨rfl, rfl⟩
  | [], _ :: _, e, _ => by cases e
  | _ :: _, [], e, _ => by cases e
  | (k', d') :: es, (x, u) :: kvs, e1, ⟨q, t, e2, z, y⟩ => by
    simp only [List.map_cons, List.cons.injEq] at e1 e2
    obtain ⟨rfl, e1⟩ := e1
    obtain ⟨rfl, e2⟩ := e2
    obtain ⟨h1, h2⟩ := stored_rel (k := k) r (kvs := kvs) e1 (by rw [e2]; exact y)
    by_cases q : k' = k
    · subst q
      refine ⟨?_, ?_⟩
      · simp only [List.map_cons, if_true]
        rw [h1]
      · simp only [List.map_cons, if_true]
        exact ⟨v, _, rfl, r, h2⟩
    · have hn : ¬ ((⟨k'.toArray⟩ : Str) = ⟨k.toArray⟩) := fun z => q (by
        have := congrArg (fun s : Str => s.cps.toList) z
        simpa using this)
      refine ⟨?_, ?_⟩
      · simp only [List.map_cons, if_neg q, if_neg hn]
        rw [h1]
      · simp only [List.map_cons, if_neg q, if_neg hn]
        exact ⟨_, _, rfl, z, h2⟩

theorem any_of_lookup {h : Heap} {μ : List Addr} {k : List Nat} : ∀ {es : List (List Nat × D)} {kvs : List (Str × Value)}, kvs.map (·.1) = es.map (fun p => (⟨p.1.toArray⟩ : Str)) → (es.lookup k).isSome = true →
    kvs.any (fun kv => kv.1 = (⟨k.toArray⟩ : Str)) = true
  | [], _, _, e => by cases e
  | (k', d') :: es, [], e, _ => by cases e
  | (k', d') :: es, (x, u) :: kvs, e1, e => by
    simp only [List.map_cons, List.cons.injEq] at e1
    obtain ⟨rfl, e1⟩ := e1
    by_cases q : k = k'
    · subst q; simp
    · have hq : (k == k') = false := by simpa using q
      rw [List.lookup_cons, hq] at e
      rw [List.any_cons, any_of_lookup (h := h) (μ := μ) e1 e, Bool.or_true]

theorem set_ok (ok : EnvOk env names) {A : Around} {X : Value → Shared → Prop} {x y z : D} {v u r : Value} {σ : St} {μ : List Addr} {c : List Cell} {s : Shared} {Q : Unit → Shared → Prop} (R : Rel prog w base env outer names σ μ s.heap)
    (r1 : VR s.heap μ x v) (r2 : VR s.heap μ y u) (r3 : VR s.heap μ z r) (hc : setD σ.cells x y z = some c)
    (k : ∀ h' tk, Rel prog w base env outer names { σ with cells := c } μ h' → Tups s.heap h' → Ext (FA (env :: outer)) ([env.locals] ++ μ) (hOf s) (hW (hOf s) h') → Q () { s with heap := h', toks := tk }) :
    wpAny (model prog w) A (setItem v u r) Q X s := by
  cases x with
  | obj m =>
    cases y with
    | int i =>
      obtain ⟨l, hl, hc⟩ := bs hc
      obtain ⟨hi, hc⟩ := ig hc
      cases hc
      obtain ⟨a, rfl, ha, vs, n, e, hv⟩ := cellOf R.inv (lst_of hl) r1
      obtain ⟨t, rfl⟩ := r2
      obtain ⟨⟨i1, i2⟩, i3, i4⟩ := hi
      have hsz : vs.size = l.length := by rw [← hv.length]; simp
      have ma : a ∈ μ := List.mem_of_getElem? ha
      refine ki_setAt (n := n) e i3 (by walk_at "om") (by rw [hsz]; walk_at "om") ?_
      obtain ⟨n', ho⟩ : ∃ n', (Obj.mapSeq (fun xs => xs.setIfInBounds i.toNat r) (listOf vs n)) = listOf (vs.setIfInBounds i.toNat r) n' := ⟨_, rfl⟩
      have hg : (s.heap.update a (Obj.mapSeq fun xs => xs.setIfInBounds i.toNat r)).get? a = some (listOf (vs.setIfInBounds i.toNat r) n') := by
        rw [← ho]; exact Heap.get?_update_self _ e (by rw [ho]; rfl)
      have sb : ∀ b, b ≠ a → (s.heap.update a (Obj.mapSeq fun xs => xs.setIfInBounds i.toNat r)).get? b = s.heap.get? b := fun b q => Heap.get?_update_other _ _ (Ne.symm q)
      generalize s.heap.update a (Obj.mapSeq fun xs => xs.setIfInBounds i.toNat r) = h' at hg sb ⊢
      have tu : Tups s.heap h' := fun b vs n e => (sb b (fun q => R.inv.notTup ma (q ▸ e))).trans e
      refine k _ s.toks (R.put ok ha sb (c := .lst (l.set i.toNat z)) ⟨_, n', hg, ?_⟩) tu (Ext.put ma sb ⟨_, hg⟩)
      rw [Array.toList_setIf]
      exact VRs.set (r3.mono tu (List.prefix_refl _)) (hv.mono tu (List.prefix_refl _))
    | str i =>
      obtain ⟨l, hl, hc⟩ := bs hc
      obtain ⟨hi, hc⟩ := ig hc
      cases hc
      obtain ⟨a, rfl, ha, kvs, hD, e1, e2⟩ := cellOf R.inv (dct_of hl) r1
      obtain ⟨t, rfl⟩ := r2
      have ma : a ∈ μ := List.mem_of_getElem? ha
      have hany := any_of_lookup (h := s.heap) (μ := μ) e1 hi.1
      refine wpAny_setItem_pairs (strKind_is prog w _ t) hD (fun h' hD' sb => ?_) ?_
      · have tu : Tups s.heap h' := fun b vs n e => (sb.2 b (fun q => R.inv.notTup ma (q ▸ e))).trans e
        unfold stored at hD'
        rw [if_pos hany] at hD'
        obtain ⟨q1, q2⟩ := stored_rel r3 e1 e2
        obtain ⟨o, es, ep, e, q⟩ := id hD'
        exact k h' _ (R.put ok ha (fun b hb => sb.2 b hb) (c := .dct (l.map fun p => if p.1 = i then (i, z) else p)) ⟨_, hD', q1, q2.mono tu (List.prefix_refl _)⟩) tu (Ext.put ma (fun b hb => sb.2 b hb) ⟨o, e⟩)
      · have := congrArg List.length e1
        simp only [List.length_map] at this
        rw [this, sizeLine_is]; walk_at "om"
    | _ => exact nn hc
  | _ => exact nn hc
end
end
section
open PySem PySem.Calls PySem.W

section
variable {prog : Program} {w : World} {base : Heap} {C : Addr} {env : Env} {outer : List Env} {names : List Str} {fn : Nat → Option Addr}

theorem test_cmp2 {l r e3 : Expr} {a b c : E} {p1 p2 : COp} {o1 o2 : CmpOp} {pos : Pos} (ok : EnvOk env names) (hop1 : CopIs p1 o1) (hop2 : CopIs p2 o2)
    (hm : markedEach [o1, o2] [r, e3] (evalEach [r, e3] env) = [eval r env, eval e3 env])
    (hl : SoundE prog w base C env names fn l a) (hr : SoundE prog w base C env names fn r b) (hr2 : SoundE prog w base C env names fn e3 c) :
    SoundB prog w base C env names fn (.Compare l [o1, o2] [r, e3] pos) (.cmp2 p1 p2 a b c) := fun outer n A σ μ s P X hA R h => by
  rw [arm_isTrue_Compare, hm]
  refine wpAny_bind (next (hl outer n A σ μ s _ X hA R h) fun v s1 q1 => ?_)
  obtain ⟨x, σ1, μ1, k1, R1, r1, g1, x1⟩ := q1
  show wpAny _ _ (do let rv ← holding [v] (eval r env); standAt pos; let c ← holding [v, rv] (compareOp o1 v rv); release [v, rv] [c]; if ← holding [c, rv] (truthy c) then testChain pos rv [o2] [eval e3 env] else pure false) _ _ _
  refine wpAny_bind (wpAny_holding (later g1 x1 (hr outer n A σ1 μ1 s1 _ X hA R1 k1) fun u s2 q2 => ?_))
  obtain ⟨y, σ2, μ2, ⟨t, ht, k2⟩, R2, r2, g2, x2⟩ := q2
  have g12 := g1.trans x1 g2
  have x12 := x1.trans g1 x2
  refine wpAny_bind (wpAny_standAt (wpAny_bind (wpAny_holding (cmp_ok hop1 (r1.mono (R1.tups ok x2) g2.pre) r2 ht ?_))))
  refine wpAny_bind (wpAny_release (wpAny_bind (wpAny_holding (wpAny_truthy_bool ?_))))
  cases t
  · obtain ⟨t', q, k2⟩ := k2
    cases q
    exact wpAny_pure ⟨σ2, μ2, k2, R2, g12, x12⟩
  · show wpAny _ _ (do let rv ← holding [u] (eval e3 env); standAt pos; let c ← operate [u, rv] (compareOp o2 u rv); holding [c] (truthy c)) _ _ _
    refine wpAny_bind (wpAny_holding (later g12 x12 (hr2 outer n A σ2 μ2 s2 _ X hA R2 k2) fun u' s3 q3 => ?_))
    obtain ⟨z, σ3, μ3, ⟨t', ht', q, hq, k3⟩, R3, r3, g3, x3⟩ := q3
    cases hq
    exact wpAny_bind (wpAny_standAt (wpAny_bind (wpAny_operating (cmp_ok hop2 (r2.mono (R2.tups ok x3) g3.pre) r3 ht' (wpAny_holding (wpAny_truthy_bool ⟨σ3, μ3, k3, R3, g12.trans x12 g3, x12.trans g12 x3⟩))))))

theorem sound_setSub {o i v : Expr} {a b c : E} {p pos : Pos} (ok : EnvOk env names) (hs : swapsWith v (some (.Subscript o i p)) pos.line env = pure false)
    (h1 : SoundE prog w base C env names fn o a) (h2 : SoundE prog w base C env names fn i b) (h3 : SoundE prog w base C env names fn v c) :
    Sound1 prog w base C env names fn (.Assign [.Subscript o i p] v pos) (.setSub a b c) := fun outer n A σ μ s P X hA R h => by
  refine wpAny_Assign_Subscript (next (h3 outer n A σ μ s _ X hA R h) fun vz s1 p1 => ?_) hs
  obtain ⟨z, σ1, μ1, k1, R1, r1, g1, x1⟩ := p1
  refine later g1 x1 (h1 outer n A σ1 μ1 s1 _ X hA R1 k1) fun vx s2 p2 => ?_
  obtain ⟨x, σ2, μ2, k2, R2, r2, g2, x2⟩ := p2
  have g12 := g1.trans x1 g2
  have x12 := x1.trans g1 x2
  refine later g12 x12 (h2 outer n A σ2 μ2 s2 _ X hA R2 k2) fun vy s3 p3 => ?_
  obtain ⟨y, σ3, μ3, ⟨cc, hc, k3⟩, R3, r3, g3, x3⟩ := p3
  have g13 := g12.trans x12 g3
  have x13 := x12.trans g12 x3
  have tu := R2.tups ok x3
  exact set_ok ok R3 (r2.mono tu g3.pre) r3 ((r1.mono (R1.tups ok x2) g2.pre).mono tu g3.pre) hc fun h' tk R4 tu4 x4 => ⟨.next, _, μ3, k3, R4, rfl, g13, x13.trans g13 x4⟩

theorem assign_Sub (o i : Expr) (p : Pos) (v : Value) : assign (.Subscript o i p) env v = (do
    let ov ← holding [v] (eval o env)
    let iv ← holding [v, ov] (eval i env)
    standAt p
    holding [v, ov, iv] (setItem ov iv v)
    release (match i with | .Slice _ _ none _ => [iv, v, ov] | _ => [v, ov, iv]) []) := rfl

theorem assignSub_ok {o i : Expr} {a b : E} {p : Pos} (ok : EnvOk env names) (h1 : SoundE prog w base C env names fn o a) (h2 : SoundE prog w base C env names fn i b)
    {n : Nat} {A : Around} {σ : St} {μ : List Addr} {s : Shared} {z : D} {vz : Value} {X : XP} {P : D → D → List Cell → St → Prop} {Q : Unit → Shared → Prop} (hA : AOk A (env :: outer) n) (R : Rel prog w base env outer names σ μ s.heap)
    (h : wpE (CallOK prog w base C fn n) a σ (fun x σ2 => wpE (CallOK prog w base C fn n) b σ2 (fun y σ3 => ∃ c, setD σ3.cells x y z = some c ∧ P x y c σ3) X) X) (r : VR s.heap μ z vz)
    (k : ∀ x y c σ' μ' s', P x y c σ' → Rel prog w base env outer names { σ' with cells := c } μ' s'.heap → Gro s.heap μ μ' → Ext (FA (env :: outer)) ([env.locals] ++ μ) (hOf s) (hOf s') → Tups s.heap s'.heap → Q () s') :
    wpAny (model prog w) A (assign (.Subscript o i p) env vz) Q (ErrS prog w base C env outer (hOf s) μ X) s := by
  rw [assign_Sub]
  refine wpAny_bind (wpAny_holding (next (h1 outer n A σ μ s _ X hA R h) fun vx s2 p2 => ?_))
  obtain ⟨x, σ2, μ2, k2, R2, r2, g2, x2⟩ := p2
  refine wpAny_bind (wpAny_holding (later g2 x2 (h2 outer n A σ2 μ2 s2 _ X hA R2 k2) fun vy s3 p3 => ?_))
  obtain ⟨y, σ3, μ3, ⟨cc, hc, k3⟩, R3, r3, g3, x3⟩ := p3
  have g13 := g2.trans x2 g3
  have x13 := x2.trans g2 x3
  have tu := R2.tups ok x3
  refine wpAny_bind (wpAny_standAt (wpAny_bind (wpAny_holding (set_ok ok R3 (r2.mono tu g3.pre) r3 ((r.mono (R.tups ok x2) g2.pre).mono tu g3.pre) hc fun h' tk R4 tu4 x4 => ?_))))
  exact wpAny_release (k x y cc σ3 μ3 _ k3 R4 g13 (x13.trans g13 x4) (((R.tups ok x2).trans tu).trans tu4))

theorem sound_setSub2 {o i o' i' v : Expr} {a b a' b' c : E} {k : Nat} {p p' q pos : Pos} (ok : EnvOk env names)
    (hs : swapsWithSole [.Tuple [.Subscript o i p, .Subscript o' i' p'] k q] v pos.line env = pure false) (hw : swappedStores [.Tuple [.Subscript o i p, .Subscript o' i' p'] k q] v env = pure none)
    (h1 : SoundE prog w base C env names fn o a) (h2 : SoundE prog w base C env names fn i b) (h1' : SoundE prog w base C env names fn o' a') (h2' : SoundE prog w base C env names fn i' b') (h3 : SoundE prog w base C env names fn v c) :
    Sound1 prog w base C env names fn (.Assign [.Tuple [.Subscript o i p, .Subscript o' i' p'] k q] v pos) (.setSub2 a b a' b' c) := fun outer n A σ μ s P X hA R h => by
  refine wpAny_Assign_stores (next (h3 outer n A σ μ s _ X hA R h) fun vz s1 p1 => ?_) hs hw
  obtain ⟨z, σ1, μ1, ⟨z1, z2, rfl, k1⟩, R1, r1, g1, x1⟩ := p1
  obtain ⟨al, vs, m, rfl, e, rv⟩ := r1
  obtain ⟨v1, vs', rfl, rv1, v2, vs'', rfl, rv2, rfl⟩ := rv
  show wpAny _ _ (assign (.Tuple [.Subscript o i p, .Subscript o' i' p'] k q) env (.ref al)) _ _ _
  refine wpAny_assign_Tuple hA.handled ⟨_, e, rfl, m, rfl⟩ rfl rfl fun h' xb => ?_
  have kp : ∀ b o, s1.heap.get? b = some o → h'.get? b = some o := fun b o q => xb b o (Nat.ne_of_lt (Heap.lt_size q)) q
  have R1' : Rel prog w base env outer names σ1 μ1 ({ s1 with heap := h' } : Shared).heap := R1.grow kp
  have tu0 : Tups s1.heap h' := fun b vs n e => kp _ _ e
  have x1' := x1.trans g1 (Ext.of_keeps (fs := FA (env :: outer)) (fr := [env.locals] ++ μ1) (h' := hW (hOf s1) h') kp)
  refine wpAny_assignInOrder_more (t := assign (.Subscript o i p) env) ?_
  refine wpAny_mono (assignSub_ok ok h1 h2 hA R1' k1 (rv1.mono tu0 (List.prefix_refl _)) fun x y cc σ' μ' s' hp R2 g2 x2 tu2 => ?_) (fun _ _ q => q) fun _ _ e => ErrF.trans g1 x1' e
  have g12 := g1.trans x1' g2
  have x12 := x1'.trans g1 x2
  refine wpAny_assignInOrder_more (t := assign (.Subscript o' i' p') env) ?_
  refine wpAny_mono (assignSub_ok ok h1' h2' hA R2 hp ((rv2.mono tu0 (List.prefix_refl _)).mono tu2 g2.pre) fun x y cc σ' μ' s' hp R3 g3 x3 tu3 => ?_) (fun _ _ q => q) fun _ _ e => ErrF.trans g12 x12 e
  exact wpAny_assignInOrder_none ⟨.next, _, μ', hp, R3, rfl, g12.trans x12 g3, x12.trans g12 x3⟩

theorem sound_augSub {o i v : Expr} {a b c : E} {op : BOp} {oo : Operator} {p pos : Pos} (ok : EnvOk env names) (hop : AopIs op oo)
    (hi : ∀ ov iv new, augStore i ov iv new = (do holding [new, ov, iv] (setItem ov iv new); release [new, ov, iv] []; pure .next))
    (h1 : SoundE prog w base C env names fn o a) (h2 : SoundE prog w base C env names fn i b) (h3 : SoundE prog w base C env names fn v c) :
    Sound1 prog w base C env names fn (.AugAssign (.Subscript o i p) oo v pos) (.augSub a b op c) := fun outer n A σ μ s P X hA R h => by
  refine wpAny_AugAssign_SubscriptAny (next (h1 outer n A σ μ s _ X hA R h) fun vx s1 p1 => ?_) hi
  obtain ⟨x, σ1, μ1, k1, R1, r1, g1, x1⟩ := p1
  refine later g1 x1 (h2 outer n A σ1 μ1 s1 _ X hA R1 k1) fun vy s2 p2 => ?_
  obtain ⟨y, σ2, μ2, ⟨d, hd, k2⟩, R2, r2, g2, x2⟩ := p2
  have g12 := g1.trans x1 g2
  have x12 := x1.trans g1 x2
  have rx := r1.mono (R1.tups ok x2) g2.pre
  refine (sub_ok (Q := fun old s₃ => wpAny (model prog w) A (eval v env) (fun u s₄ => wpAny (model prog w) A (inplaceOp oo old u) (fun new s₅ => wpAny (model prog w) A (setItem vx vy new) (fun _ => PostS prog w base env outer names (hOf s) μ P .next) (ErrS prog w base C env outer (hOf s) μ X) s₅) (ErrS prog w base C env outer (hOf s) μ X) s₄) (ErrS prog w base C env outer (hOf s) μ X) s₃) R2.inv rx r2 hd fun old tk ro => ?_).2
  refine later g12 x12 (h3 outer n A σ2 μ2 { s2 with toks := tk } _ X hA R2 k2) fun u s3 p3 => ?_
  obtain ⟨z, σ3, μ3, ⟨r, cc, hr, hsz, hc, k3⟩, R3, r3, g3, x3⟩ := p3
  have g13 := g12.trans x12 g3
  have x13 := x12.trans g12 x3
  have tu := R2.tups ok x3
  refine iop_ok hop (ro.mono tu g3.pre) r3 hr hsz fun new tk' rn => ?_
  exact set_ok ok (s := { s3 with toks := tk' }) R3 (rx.mono tu g3.pre) (r2.mono tu g3.pre) rn hc fun h' tk'' R4 tu4 x4 => ⟨.next, _, μ3, k3, R4, rfl, g13, x13.trans g13 x4⟩

noncomputable def NamesAre (names : List Str) : List Str → List Nat → Prop
  | [], [] => True
  | x :: xs, i :: is => names[i]? = some x ∧ NamesAre names xs is
  | _, _ => False

theorem bind_ok (ok : EnvOk env names) {A : Around} {X : Value → Shared → Prop} : ∀ {xs : List Str} {is : List Nat} {ds : List D} {vs : List Value} {σ : St} {μ : List Addr} {s : Shared} {Q : Unit → Shared → Prop},
    NamesAre names xs is → ds.length = is.length → Rel prog w base env outer names σ μ s.heap → VRs s.heap μ ds vs →
    (∀ h' tk, Rel prog w base env outer names (σ.sets is ds) μ h' → Ext (FA (env :: outer)) ([env.locals] ++ μ) (hOf s) (hW (hOf s) h') → Q () { s with heap := h', toks := tk }) →
    wpAny (model prog w) A (assignInOrder (xs.map fun n => bindName env n) vs) Q X s := by
  intro xs
  induction xs with
  | nil =>
    intro is ds vs σ μ s Q ht hl R r k
    cases is with
    | nil => exact wpAny_assignInOrder_none (k s.heap s.toks R (Ext.refl _ _ _))
    | cons _ _ => exact ht.elim
  | cons x xs ih =>
    intro is ds vs σ μ s Q ht hl R r k
    cases is with
    | nil => exact ht.elim
    | cons i is =>
      cases ds with
      | nil => cases hl
      | cons d ds =>
        obtain ⟨v, vs', rfl, r1, r2⟩ := r
        refine wpAny_assignInOrder_more (wpAny_bindName (store_ok ok R ht.1 r1 fun h' tk R2 tu x2 => ?_))
        refine ih ht.2 (by simpa using hl) R2 (r2.mono tu (List.prefix_refl _)) fun h'' tk' R3 x3 => ?_
        exact k h'' tk' R3 (x2.trans (Gro.refl _ _) x3)

theorem VRs.reverse {h : Heap} {μ : List Addr} : ∀ {ds : List D} {vs : List Value}, VRs h μ ds vs → VRs h μ ds.reverse vs.reverse
  | [], _, e => by cases e; rfl
  | d :: ds, _, ⟨v, r, e, x, y⟩ => by
    rw [e, List.reverse_cons, List.reverse_cons]
    exact VRs.append (VRs.reverse y) ⟨v, [], rfl, x, rfl⟩

theorem sound_asgsR {es : List Expr} {e : Expr} {t : E} {is : List Nat} {xs : List Str} {k : Nat} {p pos : Pos} (ok : EnvOk env names) (hx : NamesAre names xs.reverse is.reverse) (hn : xs.length = is.length) (h1 : SoundE prog w base C env names fn e t)
    (hs : swapsWithSole [.Tuple es k p] e pos.line env = pure false) (hw : swappedStores [.Tuple es k p] e env = pure (some xs)) : Sound1 prog w base C env names fn (.Assign [.Tuple es k p] e pos) (.asgsR is t) := fun outer n A σ μ s P X hA R h => by
  rw [exec_Assign_arm]
  refine wpAny_bind (wpAny_standAt ?_)
  rw [hs]
  refine wpAny_bind (wpAny_pure ?_)
  rw [if_neg (by decide)]
  refine wpAny_bind (next (h1 outer n A σ μ s _ X hA R h) fun v s1 p1 => ?_)
  obtain ⟨d, σ1, μ1, ⟨l, rfl, hl, k1⟩, R1, r1, g1, x1⟩ := p1
  rw [hw]
  refine wpAny_bind (wpAny_pure ?_)
  unfold assignStores
  obtain ⟨a, vs, m, rfl, ea, rv⟩ := r1
  refine wpAny_bind (wpAny_rule ?_)
  have hlen : vs.toArray.size = xs.length := by rw [List.size_toArray, rv.length, hl, hn]
  rw [← hlen]
  refine wpAny_bind (wpAny_unpackItems_tuple hA.handled ⟨_, ea, rfl, m, rfl⟩ fun h' xb => ?_)
  have kp : ∀ b o, s1.heap.get? b = some o → h'.get? b = some o := fun b o q => xb b o (Nat.ne_of_lt (Heap.lt_size q)) q
  have R2 := R1.grow kp
  have rv2 := (rv.mono (fun b vs n e => kp _ _ e) (List.prefix_refl μ1)).reverse
  refine wpAny_bind (bind_ok (ds := l.reverse) ok hx (by simp [hl]) (s := { s1 with heap := h' }) R2 (by simpa using rv2) fun h'' tk R3 x3 => wpAny_pure ?_)
  exact ⟨.next, _, μ1, k1, R3, rfl, g1, x1.trans g1 ((Ext.of_keeps kp).trans (Gro.refl _ _) x3)⟩
end
end
section
open PySem PySem.Calls PySem.W

inductive Src where
  | str (l : List Nat)
  | lst (n : Nat) (a : Addr)
  | rng (a b c : Int)

noncomputable def Src.items (cells : List Cell) : Src → Option (List D)
  | .str l => some (l.map fun x => .str [x])
  | .lst n _ => cells[n]?.bind asL
  | .rng a b c => some ((rangeL a b c).map .int)

noncomputable def IterAt (h : Heap) (it : Addr) : Src → Nat → Prop
  | .str l, i => ∃ ty t, (ty = "str_ascii_iterator" ∨ ty = "str_iterator") ∧ h.IsStrIter it ty ⟨l.toArray⟩ t i
  | .lst n a, i => h.IsListIter it a i
  | .rng a b c, i => IsRangeIter h it (a + (i : Int) * c) (Builtin.Range.rangeSize a b c - i) c

theorem IterAt.same {h h' : Heap} {it : Addr} (k : ∀ o, h.get? it = some o → h'.get? it = some o) : ∀ {src : Src} {i : Nat}, IterAt h it src i → IterAt h' it src i
  | .str _, _, ⟨ty, t, e, o, ho, r⟩ => ⟨ty, t, e, o, k _ ho, r⟩
  | .lst _ _, _, ⟨o, ho, r⟩ => ⟨o, k _ ho, r⟩
  | .rng _ _ _, _, x => k _ x

theorem IterAt.rec' {h : Heap} {it : Addr} : ∀ {src : Src} {i : Nat}, IterAt h it src i → ∃ o vs, h.get? it = some o ∧ o.data = .fields vs
  | .str _, _, ⟨ty, t, e, o, ho, _, r⟩ => ⟨o, _, ho, r⟩
  | .lst _ _, _, ⟨o, ho, _, r⟩ => ⟨o, _, ho, r⟩
  | .rng _ _ _, _, x => ⟨_, _, x, rfl⟩

section
variable {prog : Program} {w : World} {base : Heap} {C : Addr} {env : Env} {outer : List Env} {names : List Str} {fn : Nat → Option Addr}

noncomputable def SrcOk (μ : List Addr) : Src → Prop
  | .lst n a => μ[n]? = some a
  | _ => True

theorem iter_next {A : Around} {X : Value → Shared → Prop} {src : Src} {i : Nat} {it : Addr} {σ : St} {μ : List Addr} {s : Shared} {xs : List D} {x : D} {Q : Option Value → Shared → Prop} (R : Rel prog w base env outer names σ μ s.heap)
    (hi : IterAt s.heap it src i) (hsrc : SrcOk μ src) (hx : src.items σ.cells = some xs) (hxi : xs[i]? = some x)
    (k : ∀ h' v tk, IterAt h' it src (i + 1) → Heap.SameBut it s.heap h' → VR s.heap μ x v → Q (some v) { s with heap := h', toks := tk }) :
    wpAny (model prog w) A (pyNext (.ref it)) Q X s := by
  cases src with
  | str l =>
    cases hx
    obtain ⟨ty, t, hty, hit⟩ := hi
    rw [List.getElem?_map] at hxi
    obtain ⟨c, hc, rfl⟩ := Option.map_eq_some_iff.mp hxi
    rcases hty with rfl | rfl
    · exact wpAny_pyNext_ascii_item hit (by simpa using hc) fun h' a b => k h' _ _ ⟨_, t, .inl rfl, a⟩ b ⟨_, rfl⟩
    · exact wpAny_pyNext_wide_item hit (by simpa using hc) fun h' a b => k h' _ _ ⟨_, t, .inr rfl, a⟩ b ⟨_, rfl⟩
  | lst n a =>
    obtain ⟨a', q, ha', vs, m, e, hv⟩ := cellOf R.inv (lst_of hx) (v := .ref a) ⟨a, rfl, hsrc⟩
    cases q
    obtain ⟨v, hv1, hv2⟩ := hv.get hxi
    exact wpAny_pyNext_list_item hi (isList_of e) (by simpa using hv1) fun h' p b => k h' _ s.toks p b hv2
  | rng a b c =>
    cases hx
    rw [List.getElem?_map] at hxi
    obtain ⟨y, hy, rfl⟩ := Option.map_eq_some_iff.mp hxi
    unfold rangeL at hy
    rw [List.getElem?_map] at hy
    obtain ⟨j, hj, rfl⟩ := Option.map_eq_some_iff.mp hy
    have hlt := (List.getElem?_eq_some_iff.mp hj).1
    rw [List.length_range] at hlt
    rw [List.getElem?_range hlt] at hj
    cases hj
    refine wpAny_pyNext_range_item hi (by walk_at "om") fun h' p bb => k h' _ _ ?_ bb ⟨_, rfl⟩
    show IsRangeIter h' it (a + ((i + 1 : Nat) : Int) * c) _ c
    have e1 : a + ((i + 1 : Nat) : Int) * c = a + (i : Int) * c + c := by
      rw [Int.natCast_add, Int.add_mul]; walk_at "om"
    have e2 : Builtin.Range.rangeSize a b c - ((i + 1 : Nat) : Int) = Builtin.Range.rangeSize a b c - (i : Int) - 1 := by walk_at "om"
    rw [e1, e2]; exact p

theorem iter_end {A : Around} {X : Value → Shared → Prop} {src : Src} {i : Nat} {it : Addr} {σ : St} {μ : List Addr} {s : Shared} {xs : List D} {Q : Option Value → Shared → Prop} (hA : A.handled = none) (R : Rel prog w base env outer names σ μ s.heap)
    (hi : IterAt s.heap it src i) (hsrc : SrcOk μ src) (hx : src.items σ.cells = some xs) (hxi : xs[i]? = none)
    (k : ∀ h', Heap.ExtBut it s.heap h' → Q none { s with heap := h' }) :
    wpAny (model prog w) A (pyNext (.ref it)) Q X s := by
  cases src with
  | str l =>
    cases hx
    obtain ⟨ty, t, hty, hit⟩ := hi
    rw [List.getElem?_map] at hxi
    have hc : l[i]? = none := by simpa using hxi
    rcases hty with rfl | rfl
    · exact wpAny_pyNext_ascii_end hA hit (by simpa using hc) k
    · exact wpAny_pyNext_wide_end hA hit (by simpa using hc) k
  | lst n a =>
    obtain ⟨a', q, ha', vs, m, e, hv⟩ := cellOf R.inv (lst_of hx) (v := .ref a) ⟨a, rfl, hsrc⟩
    cases q
    have hlen := hv.length
    refine wpAny_pyNext_list_end hA hi (isList_of e) ?_ k
    rw [List.getElem?_eq_none_iff] at hxi
    have : vs.size = xs.length := by rw [← hlen]; simp
    exact Array.getElem?_eq_none (by walk_at "om")
  | rng a b c =>
    cases hx
    rw [List.getElem?_eq_none_iff] at hxi
    unfold rangeL at hxi
    simp only [List.length_map, List.length_range] at hxi
    exact wpAny_pyNext_range_end hA hi (by walk_at "om") k

theorem Rel.aside (ok : EnvOk env names) {σ : St} {μ : List Addr} {h h' : Heap} (R : Rel prog w base env outer names σ μ h) {it : Addr} {o : Obj} {vs : Array Value} (ho : h.get? it = some o) (hd : o.data = .fields vs) (hb : base.get? it = none)
    (k : ∀ b o, b ≠ it → h.get? b = some o → h'.get? b = some o) : Rel prog w base env outer names σ μ h' ∧ Tups h h' := by
  have r : IsRec h [it] := fun b m o' e => by
    obtain rfl := List.mem_singleton.mp m
    rw [ho] at e; cases e; exact ⟨vs, hd⟩
  have nf : ∀ b ∈ FA (env :: outer), b ≠ it := fun b m q => by
    subst q
    obtain ⟨f, o', es, ep, e, hd', _⟩ := R.inv.dicts b m
    rw [ho] at e; cases e; rw [hd] at hd'; cases hd'
  have tu : Tups h h' := fun a vs' n e => k a _ (fun q => by subst q; rw [ho] at e; cases e; cases hd) e
  refine ⟨⟨⟨fun b o' e => k b o' (fun q => by subst q; rw [hb] at e; cases e) (R.inv.stays b o' e), funFrames_of_data (fun b m o' e => ⟨o', k b o' (nf b m) e, rfl⟩) R.inv.frames, R.inv.len, R.inv.nodup, R.inv.fresh, R.inv.apart, fun a m => ?_, fun i a c e1 e2 => ?_⟩, ?_⟩, tu⟩
  · obtain ⟨f, o', es, ep, e, q⟩ := R.inv.dicts a m
    exact ⟨f, o', es, ep, k a _ (nf a m) e, q⟩
  · have hc := R.inv.cells i a c e1 e2
    exact hc.mono tu (List.prefix_refl _) fun o' e => k a o' (fun q => by
      have := cell_notRec hc r
      exact this (by rw [q]; exact .head _)) e
  · obtain ⟨m, ⟨o', es, ep, e, q⟩, hv⟩ := R.ns
    refine ⟨m, ⟨o', es, ep, k _ _ (nf _ (locals_mem ok)) e, q⟩, fun i x d e1 e2 => ?_⟩
    obtain ⟨v, e, r⟩ := hv i x d e1 e2
    exact ⟨v, e, r.mono tu (List.prefix_refl _)⟩

theorem ext_aside {fs fr : List Addr} {h0 h : Hp} {h' : Heap} {it : Addr} (x : Ext fs fr h0 h) (e0 : h0.1.get? it = none) (k : ∀ b o, b ≠ it → h.1.get? b = some o → h'.get? b = some o) : Ext fs fr h0 (hW h h') := by
  have ne : ∀ b o, h0.1.get? b = some o → b ≠ it := fun b o e q => by subst q; rw [e0] at e; cases e
  refine ⟨fun b o e n1 n2 => k b o (ne b o e) (x.keep b o e n1 n2), fun b o e n1 n2 => ?_, fun b o e => ?_, x.same⟩
  · obtain ⟨sl, q⟩ := x.data b o e n1 n2
    exact ⟨sl, k b _ (ne b o e) q⟩
  · obtain ⟨o', q⟩ := x.live b o e
    exact ⟨o', k b o' (ne b o e) q⟩

theorem IterAt.ext {it : Addr} {src : Src} {i : Nat} {σ : St} {μ : List Addr} {h h' : Hp} (ok : EnvOk env names) (R : Rel prog w base env outer names σ μ h.1) (x : Ext (FA (env :: outer)) ([env.locals] ++ μ) h h') (hit : IterAt h.1 it src i) :
    IterAt h'.1 it src i := by
  obtain ⟨o, vs, ho, hd⟩ := hit.rec'
  have nf : it ∉ FA (env :: outer) := fun m => by
    obtain ⟨f, o', es, ep, e, hd', _⟩ := R.inv.dicts it m
    rw [ho] at e; cases e; rw [hd] at hd'; cases hd'
  have nm : it ∉ μ := fun m => by
    obtain ⟨j, hj, e⟩ := List.getElem_of_mem m
    have hj' : j < σ.cells.length := R.inv.len ▸ hj
    have := R.inv.cells j it σ.cells[j] (by rw [List.getElem?_eq_getElem hj, e]) (List.getElem?_eq_getElem hj')
    exact cell_notRec this (S := [it]) (fun b m o' e' => by
      rw [List.mem_singleton.mp m, ho] at e'; cases e'; exact ⟨vs, hd⟩) (.head _)
  exact hit.same fun o' e => x.keep it o' e nf fun m => by
    rcases List.mem_append.mp m with m | m
    · exact nf (by rw [List.mem_singleton.mp m]; exact locals_mem ok)
    · exact nm m

inductive TgtFor (names : List Str) : Expr → List Nat → Prop
  | one {x : Str} {p : Pos} {i : Nat} (h : names[i]? = some x) : TgtFor names (.Name x p) [i]
  | more {es : List Expr} {k : Nat} {p : Pos} {i j : Nat} {is : List Nat} (h : TgtOk names es (i :: j :: is)) : TgtFor names (.Tuple es k p) (i :: j :: is)

noncomputable def turnW (K : Call) (b : S) (P : Fl → St → Prop) (X : XP) (src : Src) (is : List Nat) (xs : List D) (x : D) (k : St → Prop) (σ2 : St) : Prop :=
  src.items σ2.cells = some xs ∧ bindItem σ2 is x fun σ3 => wpS K b σ3 (fun f σ4 => match f with
    | .next => k σ4
    | .brk => P .next σ4
    | .ret d => P (.ret d) σ4) X

theorem src_lst {src : Src} {cells : List Cell} {xs : List D} {i : Nat} {l : List D} (h : src.items cells = some xs) (hx : xs[i]? = some (.tup l)) : ∃ m a, src = .lst m a := by
  cases src with
  | lst m a => exact ⟨m, a, rfl⟩
  | str q =>
    cases h
    rw [List.getElem?_map] at hx
    obtain ⟨_, _, q⟩ := ms hx
    exact nomatch q
  | rng a b c =>
    cases h
    rw [List.getElem?_map] at hx
    obtain ⟨_, _, q⟩ := ms hx
    exact nomatch q
theorem SrcOk.mono {src : Src} {μ μ' : List Addr} (h : SrcOk μ src) (p : μ <+: μ') : SrcOk μ' src := by
  cases src with
  | lst m a =>
    obtain ⟨q, rfl⟩ := p
    show (μ ++ q)[m]? = some a
    rw [List.getElem?_append_left (List.getElem?_eq_some_iff.mp h).1]; exact h
  | str l => trivial
  | rng a b c => trivial
noncomputable def loopR (prog : Program) (w : World) (A : Around) (env : Env) (Q : Flow → Shared → Prop) (Z : Value → Shared → Prop) : Result → Shared → Prop := fun r s' => match r with
  | .ok f => Q f s'
  | .error e => cameBackBy (model prog w) A env Z e s'
noncomputable def finR (prog : Program) (w : World) (A : Around) (env : Env) (Q : Flow → Shared → Prop) (Z : Value → Shared → Prop) : PySem.Fin → Shared → Prop := fun fin s' => match fin with
  | .done f => Q f s'
  | .again c' => c'.quiet = true ∧ codeAny (model prog w) A c' (loopR prog w A env Q Z) s'
noncomputable def bodyR (L : Shared → Prop) (Q : Flow → Shared → Prop) : Flow → Shared → Prop := fun f s' => match f with
  | .next => L s'
  | .cont => L s'
  | .brk => Q .next s'
  | .ret v => Q (.ret v) s'
section
variable {A : Around} {tgt : Expr} {body : List Stmt} {it : Addr} {s : Shared} {Q : Flow → Shared → Prop} {Z : Value → Shared → Prop}
theorem for_start (h : wpAny (model prog w) A (forTurn tgt (.ref it) body [] env) (finR prog w A env Q Z) Z s) (hZ : ∀ e s', Z e s' → notedBy (model prog w) A env (cameBackBy (model prog w) A env Z) e s') :
    codeAny (model prog w) A (.forLoop tgt (.ref it) body [] env) (loopR prog w A env Q Z) s := by
  refine codeAny_of_tree ?_
  rw [Around.under_of_weight (by rfl)]
  exact wpAny_noted (wpAny_mono h (fun _ _ q => q) hZ)
theorem turn_end {src : Src} {i : Nat} {σ : St} {μ : List Addr} {xs : List D} (hA : A.handled = none) (R : Rel prog w base env outer names σ μ s.heap) (hi : IterAt s.heap it src i) (hsrc : SrcOk μ src) (hx : src.items σ.cells = some xs) (hxi : xs[i]? = none)
    (k : ∀ h', Heap.ExtBut it s.heap h' → Q .next { s with heap := h' }) : wpAny (model prog w) A (forTurn tgt (.ref it) body [] env) (finR prog w A env Q Z) Z s := by
  unfold forTurn
  refine wpAny_bind (wpAny_standAt (wpAny_bind (wpAny_onRaise (iter_end hA R hi hsrc hx hxi fun h' xb => ?_))))
  refine wpAny_pure ⟨rfl, codeAny_of_tree ?_⟩
  rw [Around.under_of_weight (by rfl)]
  show wpAny _ _ (((execs [] env).onRaise (fun x => do noteFrame x env; theTreesLotGoes x)) >>= fun f => pure (PySem.Fin.done f)) _ _ _
  exact wpAny_bind (wpAny_noted (wpAny_execs_nil (wpAny_pure (k h' xb))))
theorem turn_body {L : Shared → Prop} (hL : ∀ s', L s' → codeAny (model prog w) A (.forLoop tgt (.ref it) body [] env) (loopR prog w A env Q Z) s') (h : wpAny (model prog w) A (execs body env) (bodyR L Q) Z s) :
    wpAny (model prog w) A ((do
      match ← execs body env with
      | .next | .cont => again (.forLoop tgt (.ref it) body [] env)
      | .brk => pure (.done .next)
      | .ret v => pure (.done (.ret v))) : Sem PySem.Fin) (finR prog w A env Q Z) Z s :=
  wpAny_bind (wpAny_mono h (fun f s' q => by
    cases f with
    | next => exact wpAny_pure ⟨rfl, hL _ q⟩
    | cont => exact wpAny_pure ⟨rfl, hL _ q⟩
    | brk => exact wpAny_pure q
    | ret v => exact wpAny_pure q) fun _ _ e => e)
theorem turn_more (ok : EnvOk env names) {is : List Nat} (ht : TgtFor names tgt is) {L : Shared → Prop} (hL : ∀ s', L s' → codeAny (model prog w) A (.forLoop tgt (.ref it) body [] env) (loopR prog w A env Q Z) s')
    {src : Src} {i n : Nat} {σ : St} {μ μ0 : List Addr} {h0 : Hp} {xs : List D} {y : D} {W : St → Prop} (hA : AOk A (env :: outer) n) (h0i : h0.1.get? it = none) (hst0 : base.StaysIn h0.1) (R : Rel prog w base env outer names σ μ s.heap) (hit : IterAt s.heap it src i) (hsrc : SrcOk μ src)
    (g : Gro h0.1 μ0 μ) (x : Ext (FA (env :: outer)) ([env.locals] ++ μ0) h0 (hOf s)) (hitems : src.items σ.cells = some xs) (hxi : xs[i]? = some y) (hbind : bindItem σ is y W)
    (k : ∀ σ' h2 tk', W σ' → IterAt h2 it src (i + 1) → Rel prog w base env outer names σ' μ h2 → Ext (FA (env :: outer)) ([env.locals] ++ μ0) h0 (hW (hOf s) h2) → wpAny (model prog w) A (execs body env) (bodyR L Q) Z { s with heap := h2, toks := tk' }) :
    wpAny (model prog w) A (forTurn tgt (.ref it) body [] env) (finR prog w A env Q Z) Z s := by
  obtain ⟨o, vs, ho, hd⟩ := hit.rec'
  unfold forTurn
  refine wpAny_bind (wpAny_standAt (wpAny_bind (wpAny_onRaise (iter_next R hit hsrc hitems hxi fun h1 v tk hit1 sb r => ?_))))
  have kk : ∀ b o', b ≠ it → s.heap.get? b = some o' → h1.get? b = some o' := fun b o' q e => (sb.2 b q).trans e
  obtain ⟨R1, tu1⟩ := R.aside ok ho hd (base_none hst0 h0i) kk
  have x1 := ext_aside x h0i kk
  have r1 := r.mono tu1 (List.prefix_refl μ)
  cases ht with
  | one hz =>
    show wpAny _ _ (do letOwnedTupleGo (.Name _ _) (.ref it) v; assign (.Name _ _) env v; _) _ _ _
    refine wpAny_bind (wpAny_pure ?_)
    exact wpAny_bind (wpAny_assign_Name (store_ok ok (s := { s with heap := h1, toks := tk }) R1 hz r1 fun h2 tk' R2 tu2 x2 => turn_body hL (k _ h2 tk' hbind (hit1.ext ok R1 x2) R2 (x1.trans g x2))))
  | more hz =>
    obtain ⟨l, rfl, hl, hw⟩ := hbind
    obtain ⟨m, a, rfl⟩ := src_lst hitems hxi
    obtain ⟨al, us, m', rfl, e, rv⟩ := id r1
    show wpAny _ _ (do letOwnedTupleGo (.Tuple _ _ _) (.ref it) (.ref al); assign (.Tuple _ _ _) env (.ref al); _) _ _ _
    refine wpAny_bind (wpAny_letOwnedTupleGo_listiter hit1 ?_)
    exact wpAny_bind (unpack_ok (n := n) ok hA.handled hz hl (s := { s with heap := h1, toks := tk }) R1 r1 fun h2 tk' R2 x2 => turn_body hL (k _ h2 tk' hw (hit1.ext ok R1 x2) R2 (x1.trans g x2)))
end

theorem for_ok (ok : EnvOk env names) {tgt : Expr} {is : List Nat} {body : List Stmt} {u : S} (ht : TgtFor names tgt is) (hb : SoundS prog w base C env names fn body u) {src : Src}
    {n : Nat} {A : Around} {h0 : Hp} {μ0 : List Addr} {P : Fl → St → Prop} {X : XP} {xs : List D} {it : Addr} (hA : AOk A (env :: outer) n) (h0i : h0.1.get? it = none) (hst0 : base.StaysIn h0.1) :
    ∀ (rest : List D) (i : Nat) (σ : St) (μ : List Addr) (s : Shared), xs.drop i = rest → IterAt s.heap it src i → SrcOk μ src → Rel prog w base env outer names σ μ s.heap → Gro h0.1 μ0 μ → Ext (FA (env :: outer)) ([env.locals] ++ μ0) h0 (hOf s) →
    (rest.foldr (turnW (CallOK prog w base C fn n) u P X src is xs) (fun σ2 => src.items σ2.cells = some xs ∧ P .next σ2)) σ →
    codeAny (model prog w) A (.forLoop tgt (.ref it) body [] env) (loopR prog w A env (PostS prog w base env outer names h0 μ0 P) (ErrS prog w base C env outer h0 μ0 X)) s := by
  intro rest
  induction rest with
  | nil =>
    intro i σ μ s hdrop hit hsrc R g x h
    obtain ⟨o, vs, ho, hd⟩ := hit.rec'
    refine for_start (turn_end hA.handled R hit hsrc h.1 (List.getElem?_eq_none (List.drop_eq_nil_iff.mp hdrop)) fun h' xb => ?_) (err_passes ok hA.frames hst0)
    obtain ⟨R2, tu⟩ := R.aside ok ho hd (base_none hst0 h0i) (h' := h') fun b o' q e => xb b o' q e
    exact ⟨.next, σ, μ, h.2, R2, rfl, g, ext_aside x h0i (h' := h') fun b o' q e => xb b o' q e⟩
  | cons y rest ih =>
    intro i σ μ s hdrop hit hsrc R g x h
    have hxi : xs[i]? = some y := by
      have := congrArg (fun l => l[0]?) hdrop
      simpa using this
    have hdrop' : xs.drop (i + 1) = rest := by
      rw [← List.drop_drop, hdrop]; rfl
    refine for_start (turn_more ok ht (fun s' q => q) hA h0i hst0 R hit hsrc g x h.1 hxi h.2 fun σ' h2 tk' hw hit2 R2 x2 => ?_) (err_passes ok hA.frames hst0)
    refine later (s := { s with heap := h2, toks := tk' }) g x2 (hb outer n A σ' μ { s with heap := h2, toks := tk' } _ X hA R2 hw) fun f s3 p3 => ?_
    obtain ⟨fl, σ3, μ3, k3, R3, r3, g3, x3⟩ := p3
    have g13 := g.trans x2 g3
    have x13 := x2.trans g x3
    cases fl with
    | next =>
      cases r3
      exact ih (i + 1) σ3 μ3 s3 hdrop' (hit2.ext ok R2 x3) (hsrc.mono g3.pre) R3 g13 x13 k3
    | brk => cases r3; exact ⟨.next, σ3, μ3, k3, R3, rfl, g13, x13⟩
    | ret d => obtain ⟨v, rfl, r⟩ := r3; exact ⟨.ret d, σ3, μ3, k3, R3, ⟨v, rfl, r⟩, g13, x13⟩
end
end
section
open PySem PySem.Calls PySem.W

section
variable {prog : Program} {w : World} {base : Heap} {C : Addr} {env : Env} {outer : List Env} {names : List Str} {fn : Nat → Option Addr}

theorem sound_forE {tgt e : Expr} {body : List Stmt} {t : E} {u : S} {is : List Nat} {pos : Pos} (ok : EnvOk env names) (hf : ∀ x, foldedSetIterable e env x = pure x) (ht : TgtFor names tgt is) (h1 : SoundE prog w base C env names fn e t) (hb : SoundS prog w base C env names fn body u) :
    Sound1 prog w base C env names fn (.For tgt e body [] pos) (.forE is t u) := fun outer n A σ μ s P X hA R h => by
  refine wpAny_For (next (h1 outer n A σ μ s _ X hA R h) fun v s1 p1 => ?_) hf
  obtain ⟨d, σ1, μ1, ⟨xs, hxs, hlen, k1⟩, R1, r1, g1, x1⟩ := p1
  have hn := size_none s1.heap
  have hn0 := none_of_live x1 hn
  cases d with
  | str l =>
    obtain ⟨t', rfl⟩ := r1
    refine wpAny_pyIter_strU ?_
    have kp := keepPush (h := s1.heap) { cls := .type (strIterType ⟨l.toArray⟩), data := .fields #[.str ⟨l.toArray⟩ t', .int 0 0] }
    refine for_ok ok ht hb (src := .str l) (P := P) (xs := xs) hA hn0 R.inv.stays xs 0 σ1 μ1 _ rfl ?_ trivial (R1.grow kp) g1 (x1.trans g1 (Ext.of_keeps kp)) k1
    refine ⟨strIterType ⟨l.toArray⟩, t', ?_, _, Heap.get?_push_size _ rfl, rfl, rfl⟩
    unfold strIterType; split <;> simp
  | obj m =>
    obtain ⟨a, rfl, ha, vs, k, e, hv⟩ := cellOf R1.inv (lst_of hxs) r1
    refine wpAny_pyIter_list (isList_of e) ?_
    have kp := keepPush (h := s1.heap) { cls := .type "list_iterator", data := .fields #[.ref a, .int 0 0] }
    refine for_ok ok ht hb (src := .lst m a) (P := P) (xs := xs) hA hn0 R.inv.stays xs 0 σ1 μ1 _ rfl ?_ ha (R1.grow kp) g1 (x1.trans g1 (Ext.of_keeps kp)) k1
    exact ⟨_, Heap.get?_push_size _ rfl, rfl, rfl⟩
  | _ => exact nn hxs

theorem range_small {a b c : Int} (ha : -(2 ^ 20) ≤ a) (ha' : a ≤ 2 ^ 20) (hb : -(2 ^ 20) ≤ b) (hb' : b ≤ 2 ^ 20) (hc : c ≠ 0) (hc1 : -(2 ^ 20) ≤ c) (hc2 : c ≤ 2 ^ 20) : Builtin.Range.small a b c = true := by
  have hsz : 0 ≤ Builtin.Range.rangeSize a b c ∧ Builtin.Range.rangeSize a b c ≤ 2 ^ 22 := by
    unfold Builtin.Range.rangeSize
    split
    · split
      · have h1 := Int.ediv_le_self (a := b - a - 1) c (by walk_at "om")
        have h2 := Int.ediv_nonneg (a := b - a - 1) (b := c) (by walk_at "om") (by walk_at "om")
        walk_at "om"
      · walk_at "om"
    · split
      · have h1 := Int.ediv_le_self (a := a - b - 1) (-c) (by walk_at "om")
        have h2 := Int.ediv_nonneg (a := a - b - 1) (b := -c) (by walk_at "om") (by walk_at "om")
        walk_at "om"
      · walk_at "om"
  have fits : ∀ i : Int, -(2 ^ 30) ≤ i → i ≤ 2 ^ 30 → Builtin.Range.rangeFitsLong i = true := fun i h1 h2 => by
    unfold Builtin.Range.rangeFitsLong
    simp only [Bool.and_eq_true, decide_eq_true_eq]
    walk_at "om"
  unfold Builtin.Range.small
  simp only [Bool.and_eq_true, Bool.or_eq_true]
  refine ⟨⟨⟨⟨fits _ (by walk_at "om") (by walk_at "om"), fits _ (by walk_at "om") (by walk_at "om")⟩, fits _ (by walk_at "om") (by walk_at "om")⟩, fits _ (by walk_at "om") (by walk_at "om")⟩, .inr ?_⟩
  split
  · exact fits _ (by walk_at "om") (by walk_at "om")
  · exact fits _ (by walk_at "om") (by walk_at "om")

structure RgOk (a b c : Int) : Prop where
  q1 : -(2 ^ 20) ≤ a
  q2 : a ≤ 2 ^ 20
  q3 : -(2 ^ 20) ≤ b
  q4 : b ≤ 2 ^ 20
  q5 : c ≠ 0
  q6 : -(2 ^ 20) ≤ c
  q7 : c ≤ 2 ^ 20
theorem range_call {A : Around} {s : Shared} {a b c : Int} {ta tb tc : Tok} {Q : Value → Shared → Prop} {E : Value → Shared → Prop} (q : RgOk a b c) (k : ∀ r h', (∀ b o, s.heap.get? b = some o → h'.get? b = some o) → PySem.IsRange h' r a b c ta tb tc → Q (.ref r) { s with heap := h' }) :
    wpAny (model prog w) A (call (.type "range") [.int a ta, .int b tb, .int c tc]) Q E s := by
  obtain ⟨q1, q2, q3, q4, q5, q6, q7⟩ := q
  exact PySem.call_range_3 q5 (k _ _ (keepPush _) (PySem.IsRange.new s.heap a b c ta tb tc)) (.inl (PyProof.noPylong_small (by walk_at "om")))
theorem range_iter {A : Around} {s : Shared} {a b c : Int} {ta tb tc : Tok} {r : Addr} {Q : Value → Shared → Prop} {E : Value → Shared → Prop} (q : RgOk a b c) (hr : PySem.IsRange s.heap r a b c ta tb tc) (k : ∀ it h', (∀ b o, s.heap.get? b = some o → h'.get? b = some o) → s.heap.get? it = none → IterAt h' it (.rng a b c) 0 → Q (.ref it) { s with heap := h' }) :
    wpAny (model prog w) A (pyIter (.ref r)) Q E s := by
  obtain ⟨q1, q2, q3, q4, q5, q6, q7⟩ := q
  refine wpAny_pyIter_range hr (range_small q1 q2 q3 q4 q5 q6 q7) (k _ _ (keepPush _) (size_none _) ?_)
  show IsRangeIter _ _ _ _ _
  have := Heap.get?_push_size s.heap (o := { cls := .type "range_iterator", data := .fields #[rawInt a, rawInt (Builtin.Range.rangeSize a b c), rawInt c] }) rfl
  simpa [IsRangeIter] using this
theorem rng_fold {K : Call} {u : S} {P : Fl → St → Prop} {X : XP} {a b c : Int} {i : Nat} {σ : St} (h : (rangeL a b c).foldr (fun n (k : St → Prop) σ2 => wpS K u (σ2.set i (.int n)) (fun f σ4 => match f with
        | .next => k σ4
        | .brk => P .next σ4
        | .ret d => P (.ret d) σ4) X) (fun σ2 => P .next σ2) σ) :
    (((rangeL a b c).map .int).foldr (turnW K u P X (.rng a b c) [i] ((rangeL a b c).map .int)) (fun σ2 => (Src.rng a b c).items σ2.cells = some ((rangeL a b c).map .int) ∧ P .next σ2)) σ := by
  rw [List.foldr_map]
  have e1 : (fun (n' : Int) => turnW K u P X (.rng a b c) [i] ((rangeL a b c).map .int) (.int n')) = (fun (n' : Int) (k : St → Prop) (σ2 : St) => wpS K u (σ2.set i (.int n')) (fun f σ4 => match f with
      | .next => k σ4
      | .brk => P .next σ4
      | .ret d => P (.ret d) σ4) X) := by
    funext n' k σ2
    exact propext ⟨fun h => h.2, fun h => ⟨rfl, h⟩⟩
  have e2 : (fun σ2 : St => (Src.rng a b c).items σ2.cells = some ((rangeL a b c).map .int) ∧ P .next σ2) = fun σ2 => P .next σ2 := by
    funext σ2
    exact propext ⟨fun h => h.2, fun h => ⟨rfl, h⟩⟩
  rw [e1, e2]
  exact h

theorem sound_forR {mg mb : Str → Option Value} {x r : Str} {px np p pos : Pos} {e1 e2 e3 : Expr} {body : List Stmt} {t1 t2 t3 : E} {u : S} {i : Nat} (B : BaseOk prog base mg mb) (ok : EnvOk env names)
    (hk : env.kindOf r = some .globalImplicit) (hd : (r == ("__debug__" : Str)) = false) (hm : mg r = none) (hv : mb r = some (.type "range")) (he : starEach [e1, e2, e3] env = (false, eval e1 env) :: starEach [e2, e3] env) (he2 : starEach [e2, e3] env = [(false, eval e2 env), (false, eval e3 env)])
    (hx : names[i]? = some x) (h1 : SoundE prog w base C env names fn e1 t1) (h2 : SoundE prog w base C env names fn e2 t2) (h3 : SoundE prog w base C env names fn e3 t3) (hb : SoundS prog w base C env names fn body u) :
    Sound1 prog w base C env names fn (.For (.Name x px) (.Call (.Name r np) [e1, e2, e3] [] p) body [] pos) (.forR i t1 t2 t3 u) := fun outer n A σ μ s P X hA R h => by
  refine wpAny_For (wpAny_Call_NameR (builtin_ok B ok R hk hm hv hd (PyProof.Rows.callWith_type1 ?_ he (by rw [he2]; rfl)))) (by intro _; rfl)
  rw [he, he2]
  refine spliced_cons (next (h1 outer n A σ μ s _ X hA R h) fun va s1 p1 => ?_)
  obtain ⟨x1, σ1, μ1, k1, R1, r1, g1, y1⟩ := p1
  refine spliced_cons (later g1 y1 (h2 outer n A σ1 μ1 s1 _ X hA R1 k1) fun vb s2 p2 => ?_)
  obtain ⟨x2, σ2, μ2, k2, R2, r2, g2, y2⟩ := p2
  have g12 := g1.trans y1 g2
  have y12 := y1.trans g1 y2
  refine spliced_cons (later g12 y12 (h3 outer n A σ2 μ2 s2 _ X hA R2 k2) fun vc s3 p3 => ?_)
  obtain ⟨x3, σ3, μ3, ⟨a, b, c, rfl, rfl, rfl, q1, q2, q3, q4, q5, q6, q7, k3⟩, R3, r3, g3, y3⟩ := p3
  have g13 := g12.trans y12 g3
  have y13 := y12.trans g12 y3
  have q : RgOk a b c := ⟨q1, q2, q3, q4, q5, q6, q7⟩
  clear q1 q2 q3 q4 q5 q6 q7
  obtain ⟨ta, rfl⟩ := r1; obtain ⟨tb, rfl⟩ := r2; obtain ⟨tc, rfl⟩ := r3
  refine spliced_nil (range_call q fun r h4 kp hr => range_iter q hr fun it h5 kp2 hn hi => ?_)
  have R4 := (R3.grow kp).grow kp2
  have y14 : Ext (FA (env :: outer)) ([env.locals] ++ μ) (hOf s) (hW (hOf s3) h4) := y13.trans g13 (Ext.of_keeps kp)
  exact for_ok ok (tgt := .Name x px) (is := [i]) (.one hx) hb (src := .rng a b c) (P := P) (xs := (rangeL a b c).map .int) hA (none_of_live y14 hn) R.inv.stays _ 0 σ3 μ3 _ rfl hi trivial R4 g13 (y14.trans g13 (Ext.of_keeps kp2)) (rng_fold k3)
end
end
section
open PySem PySem.Calls PySem.W

section
variable {prog : Program} {w : World} {base : Heap} {C : Addr} {env : Env} {outer : List Env} {names : List Str} {fn : Nat → Option Addr}

theorem Inv.push {l : List Env} {μ : List Addr} {cells : List Cell} {h h' : Heap} (I : Inv prog w base l μ cells h) (k : ∀ b o, h.get? b = some o → h'.get? b = some o) {L : Addr} (hL : h.get? L = none) {m : Str → Option Value}
    (hn : h'.Ns L m) {env : Env} (hf : env.frame = some L) (hk : env.scope.kind ≠ .module) : Inv prog w base (env :: l) μ cells h' := by
  have J := I.grow k
  have fa : FA (env :: l) = L :: FA l := by unfold FA; rw [List.filterMap_cons, hf]
  refine ⟨J.stays, ⟨hk, ?_, J.frames⟩, I.len, I.nodup, I.fresh, fun a m q => ?_, fun a m => ?_, J.cells⟩
  · obtain ⟨o, es, ep, e, hd, _⟩ := hn
    exact ⟨L, o, hf, base_none I.stays hL, e, fun vs q => by rw [hd] at q; cases q⟩
  · rw [fa] at q
    rcases List.mem_cons.mp q with rfl | q
    · obtain ⟨o, e⟩ := I.live m; rw [hL] at e; cases e
    · exact I.apart a m q
  · rw [fa] at m
    rcases List.mem_cons.mp m with rfl | m
    · exact ⟨_, hn⟩
    · exact J.dicts a m

theorem Inv.pop {l : List Env} {μ : List Addr} {cells : List Cell} {h : Heap} (I : Inv prog w base (env :: l) μ cells h) : Inv prog w base l μ cells h := by
  have sub : ∀ a, a ∈ FA l → a ∈ FA (env :: l) := fun a m => by
    unfold FA at m ⊢
    rw [List.filterMap_cons]
    split
    · exact m
    · exact .tail _ m
  exact ⟨I.stays, I.frames.2.2, I.len, I.nodup, I.fresh, fun a m q => I.apart a m (sub a q), fun a m => I.dicts a (sub a m), I.cells⟩

structure FnOk (base : Heap) (a : Addr) (fd : FuncData) (names : List Str) (k : Nat) : Prop where
  obj : ∃ o, base.get? a = some o ∧ o.data = .func fd
  code : base.CodeRec fd.code fd.qualname
  env : ∀ L, EnvOk (callEnv fd L a) names
  cell : ∀ x ∈ fd.scope.names, x.2 ≠ .cell
  loc : ∀ x ∈ names, fd.scope.names.lookup x = some .local
  sync : fd.scope.isCoroutine = false
  plain : fd.scope.isGenerator = false
  kind : fd.scope.kind = .function
  few : k ≤ names.length

noncomputable abbrev St.init (names : List Str) (ds : List D) (cells : List Cell) : St := Mine.init names.length ds cells

theorem lookup_of_mem {x : Str} {v : Value} : ∀ {l : List (Str × Value)}, (l.map (·.1)).Nodup → (x, v) ∈ l → l.lookup x = some v
  | (y, u) :: r, nd, m => by
    rw [List.lookup_cons]
    rcases List.mem_cons.mp m with q | q
    · cases q; simp
    · have : x ≠ y := fun z => by
        subst z
        exact (List.nodup_cons.mp nd).1 (List.mem_map.mpr ⟨_, q, rfl⟩)
      have hf : (x == y) = false := by simpa using this
      rw [hf]
      exact lookup_of_mem (List.nodup_cons.mp nd).2 q

theorem lookup_zip {names : List Str} (nd : names.Nodup) {vs : List Value} {i : Nat} {x : Str} {v : Value} (hx : names[i]? = some x) (hv : vs[i]? = some v) : ((names.take vs.length).zip vs).reverse.lookup x = some v := by
  have hi := (List.getElem?_eq_some_iff.mp hv).1
  refine lookup_of_mem ?_ ?_
  · rw [List.map_reverse, List.map_fst_zip (by rw [List.length_take]; walk_at "om")]
    have : (names.take vs.length).Nodup := nd.sublist (List.take_sublist _ _)
    unfold List.Nodup at this ⊢
    rw [List.pairwise_reverse]
    exact this.imp fun h => Ne.symm h
  · rw [List.mem_reverse]
    refine List.mem_of_getElem? (i := i) ?_
    rw [List.getElem?_zip_eq_some]
    exact ⟨by rw [List.getElem?_take_of_lt hi]; exact hx, hv⟩

noncomputable def flV : Flow → Value
  | .ret v => v
  | _ => .none

theorem fl_val {h : Heap} {μ : List Addr} {fl : Fl} {f : Flow} (r : FlR h μ fl f) : VR h μ fl.val (flV f) := by
  cases fl with
  | next => cases r; exact rfl
  | brk => cases r; exact rfl
  | ret d => obtain ⟨v, rfl, r⟩ := r; exact r

theorem ErrF.pop {l : List Env} {own : Value → Prop} {L : Addr} {h h0 : Hp} {μ0 : List Addr} {X : XP} {ev : Value} {s' : Shared} (hf : env.frame = some L) (hL : h.1.get? L = none) (kp : ∀ b o, h.1.get? b = some o → h0.1.get? b = some o) (hs : h0.2 = h.2 := by rfl)
    (y : ErrF prog w base C (env :: l) own [L] h0 μ0 X ev s') : ErrF prog w base C l own [] h μ0 X ev s' := by
  obtain ⟨e, d, tb, msg, cells', μ', h1, h2, h3, h4, h5, h6, h7, h8, h9, h10, h11⟩ := y
  have fa : FA (env :: l) = L :: FA l := by unfold FA; rw [List.filterMap_cons, hf]
  have back : ∀ b, h0.1.get? b = none → h.1.get? b = none := fun b e => by
    cases q : h.1.get? b with
    | none => rfl
    | some o => have := kp b o q; rw [e] at this; cases this
  have ne : ∀ b o, h.1.get? b = some o → b ≠ L := fun b o e q => by rw [q, hL] at e; cases e
  refine ⟨e, d, tb, msg, cells', μ', h1, h2, h3.pop, ⟨h4.pre, fun b m => (h4.new b m).imp id (back b)⟩, ⟨fun b o q n1 n2 => ?_, fun b o q n1 n2 => ?_, fun b o q => h5.live b o (kp b o q), h5.same.trans hs⟩, h6, h7, h8, back e h9, ?_, fun T m => back T (h11 T m)⟩
  · refine h5.keep b o (kp b o q) ?_ ?_
    · rw [fa]; exact fun m => (List.mem_cons.mp m).elim (ne b o q) n1
    · exact fun m => (List.mem_append.mp m).elim (fun m => ne b o q (List.mem_singleton.mp m)) fun m => n2 (List.mem_append_right _ m)
  · refine h5.data b o (kp b o q) ?_ ?_
    · rw [fa]; exact .tail _ n1
    · exact fun m => (List.mem_append.mp m).elim (fun m => ne b o q (List.mem_singleton.mp m)) fun m => n2 (List.mem_append_right _ m)
  · rw [fa] at h10; exact fun m => h10 (.tail _ m)

theorem call_ok {mg mb : Str → Option Value} (B : BaseOk prog base mg mb) {f : Nat} {a : Addr} {fd : FuncData} {body : List Stmt} {u : S} {n : Nat} {ds : List D} {cells : List Cell} {P : D → List Cell → Prop} {X : XP}
    (hf : fn f = some a) {dx : List D} {ex : List Value} (F : FnOk base a fd names (ds ++ dx).length) (hbody : fd.body = .stmts body)
    (hex : ∀ h μ, VRs h μ dx ex)
    (hbind : ∀ s vs, base.StaysIn s.heap → vs.length = ds.length → BindsTo s fd ⟨vs, []⟩ ((names.take (vs ++ ex).length).zip (vs ++ ex)))
    (hS : ∀ L, SoundS prog w base C (callEnv fd L a) names fn body u)
    (h : wpS (CallOK prog w base C fn n) u (St.init names (ds ++ dx) cells) (fun fl σ' => P fl.val σ'.cells) X) :
    CallOK prog w base C fn (n + 1) f ds cells P X := by
  refine ⟨a, hf, fun A l μ s vs0 hA I r0 => ?_⟩
  obtain ⟨o, ho, hd⟩ := F.obj
  have hlen := r0.length
  have r : VRs s.heap μ (ds ++ dx) (vs0 ++ ex) := VRs.append r0 (hex _ _)
  have hb := hbind s vs0 I.stays hlen
  generalize hvs : vs0 ++ ex = vs at r hb
  generalize ds ++ dx = ds' at r h F
  have hL := size_none s.heap
  refine codeAny_call_def (body := body) (binds := (names.take vs.length).zip vs) ?_ (I.stays _ _ ho) hd (B.nolimit.keeps I.stays) ?_ hbody hb F.cell ?_ (fun h₀ hns kp => ?_) F.sync F.plain F.kind
  · have := hA.depth
    unfold recursionLimit; walk_at "om"
  · obtain ⟨c, o, vs, t, e, ho, r⟩ := F.code
    exact ⟨c, o, vs, t, e, I.stays _ _ ho, r⟩
  · intro x hx
    exact F.loc _ (List.mem_of_mem_take (List.of_mem_zip hx).1)
  · have ok := F.env s.heap.objs.size
    have hfr : (callEnv fd s.heap.objs.size a).frame = some s.heap.objs.size := ok.frame
    have hloc : (callEnv fd s.heap.objs.size a).locals = s.heap.objs.size := rfl
    have hkm : (callEnv fd s.heap.objs.size a).scope.kind ≠ .module := by rw [ok.kind]; intro q; cases q
    have I' := I.push kp hL hns hfr hkm
    have fa : FA (callEnv fd s.heap.objs.size a :: l) = s.heap.objs.size :: FA l := by unfold FA; rw [List.filterMap_cons, hfr]
    have R0 : Rel prog w base (callEnv fd s.heap.objs.size a) l names (St.init names ds' cells) μ h₀ := ⟨I', _, hns, fun i x d e1 e2 => by
      have hds : ds'[i]? = some d := by
        unfold St.init Mine.init at e2
        simp only at e2
        by_cases q : i < ds'.length
        · rw [List.getElem?_append_left (by simpa using q), List.getElem?_map] at e2
          obtain ⟨y, hy, hz⟩ := Option.map_eq_some_iff.mp e2
          cases hz; exact hy
        · rw [List.getElem?_append_right (by simpa using q), List.getElem?_replicate] at e2
          split at e2 <;> cases e2
      obtain ⟨v, hv, rv⟩ := r.get hds
      exact ⟨v, lookup_zip ok.nodup e1 hv, rv.mono (fun b vs n e => kp _ _ e) (List.prefix_refl _)⟩⟩
    have hA' : AOk (A.deeper (callEnv fd s.heap.objs.size a)) (callEnv fd s.heap.objs.size a :: l) n := ⟨Around.frames_deeper hA.frames, hA.handled, by have := hA.depth; show A.depth + 1 + n ≤ 890; walk_at "om", by have := hA.units; show A.units + 3 + 3 * n ≤ 5000; walk_at "om"⟩
    have ne : ∀ b o, s.heap.get? b = some o → b ≠ s.heap.objs.size := fun b o e q => by rw [q, hL] at e; cases e
    refine wpAny_mono (hS _ l n _ _ μ { s with heap := h₀, toks := s.toks + ((names.take vs.length).zip vs).length } _ X hA' R0 h) (fun fl s' p => ?_) fun ev s' p => ?_
    · obtain ⟨fl', σ', μ', hp, R', rf, g, x⟩ := p
      refine ⟨fl'.val, σ'.cells, μ', hp, R'.inv.pop, fl_val rf, ⟨g.pre, fun b m => (g.new b m).imp id fun e => ?_⟩, ⟨fun b o e n1 n2 => ?_, fun b o e n1 n2 => ?_, fun b o e => x.live b o (kp b o e), x.same⟩⟩
      · cases q : s.heap.get? b with
        | none => rfl
        | some o => have := kp b o q; rw [e] at this; cases this
      · refine x.keep b o (kp b o e) ?_ ?_
        · rw [fa]; exact fun m => (List.mem_cons.mp m).elim (ne b o e) n1
        · exact fun m => (List.mem_append.mp m).elim (fun m => ne b o e (List.mem_singleton.mp m)) fun m => n2 (List.mem_append_right _ m)
      · refine x.data b o (kp b o e) ?_ ?_
        · rw [fa]; exact .tail _ n1
        · exact fun m => (List.mem_append.mp m).elim (fun m => ne b o e (List.mem_singleton.mp m)) fun m => n2 (List.mem_append_right _ m)
    · obtain ⟨e, d, tb, msg, cells', μ', rfl, h2, h3, h4, h5, h6, h7, h8, h9, h10, h11⟩ := p
      refine leaving_ok hA'.frames h3.frames hfr h6 h7 fun h'' T ax bx cx => ?_
      have hS : ∀ b ∈ e :: tb.at, h₀.get? b = none := fun b m => by
        rcases List.mem_cons.mp m with rfl | m
        · exact h9
        · exact h11 b m
      have hT0 : h₀.get? T = none := by
        rcases bx with b | b
        · exact none_of_live h5 b
        · exact h11 T b
      have y2 := ErrF.rest (own := fun _ => False) h2 h3 h4 h5 h8 h9 h10 I'.stays cx (exc_rec h6) hS ax (fun T' fl q => by cases q; exact .inl rfl) (fun T' m => by obtain rfl := List.mem_singleton.mp m; exact hT0)
      exact ErrF.pop (h := hOf s) (h0 := hW (hOf s) h₀) hfr hL kp rfl y2
end
end
section
open PySem PySem.W PyProof.Rows
noncomputable abbrev pw : Program := PySem.Challenge.pw_np0134_01
noncomputable def stAt (i : Nat) : Stmt := pw.main.body.getD i default
noncomputable def nmOf : Stmt → Str
  | .FunctionDef n _ _ _ _ _ _ _ _ _ => n
  | _ => Str.empty
noncomputable def inCls : Stmt → Stmt
  | .ClassDef _ _ _ (s :: _) _ _ _ _ _ _ _ => s
  | s => s
noncomputable def fnO (st : Stmt) (qn : Str) (md d : Value) (c : Addr) : Obj := match st with
  | .FunctionDef n args body _ _ _ scope _ _ _ => { cls := .type "function", data := .func { name := n, qualname := qn, params := args, body := .stmts body, scope := scope, globals := 3, closure := [], defaults := d, kwdefaults := .none, pyModule := md, code := .ref c } }
  | _ => default
noncomputable def fnT (i : Nat) (md d : Value) (c : Addr) : Obj := fnO (stAt i) (nmOf (stAt i)) md d c
noncomputable def codeO (c : Addr) (n q : Str) (t line na k : Nat) : Obj := { cls := .type "code", data := .fields #[.str n t, .str q (t + 1), .str "/claim/cut.py" (t + 2), .int line 0, .int na 0, .int 0 0, .int 0 0, .int 3 0, .ref (c - 5), .bool true, .int 181 0, .ref (c - 4), .none, .ref (c - 3), .ref (c - 2), .ref (c - 1), .int k 0, .int line 0, .str "/claim/cut.py" (k + 1)] }
noncomputable def codeT (i c t line na k : Nat) : Obj := codeO c (nmOf (stAt i)) (nmOf (stAt i)) t line na k
noncomputable def ent (P : Params) (n : Str) (t : Tok) (v : Value) : DictEntry := { hash := PyData.keyHash P n, key := .str n t, val := v }
noncomputable abbrev mdF : Value := .str "tclcore.faults" 187
noncomputable abbrev mdN : Value := .str "tclcore.numbers" 242
noncomputable abbrev mdW : Value := .str "tclcore.words" 252
noncomputable abbrev mdL : Value := .str "law_np0134_01" 447
noncomputable def globO (P : Params) : Obj := { cls := .type "dict", data := .dict #[ent P "__name__" 165 (.str "law_np0134_01" 447), ent P "__doc__" 166 .none, ent P "__package__" 167 .none, ent P "__loader__" 168 (.builtin "__main__.__loader__#opaque"), ent P "__spec__" 169 .none, ent P "__annotations__" 170 (.ref 6), ent P "__builtins__" 171 (.ref 4), ent P "__file__" 173 (.str "/claim/cut.py" 172), ent P "__cached__" 174 .none, ent P "Raised" 232 (.ref 33), ent P "error" 241 (.ref 45), ent P "digit" 251 (.ref 52), ent P "hex_sign" 265 (.ref 59), ent P "octal_sign" 276 (.ref 66), ent P "backslash" 287 (.ref 73), ent P "is_gap" 294 (.ref 80), ent P "skip_gaps" 302 (.ref 87), ent P "comment_behind" 311 (.ref 94), ent P "skip_to_command" 319 (.ref 101), ent P "read_name" 327 (.ref 108), ent P "variable" 339 (.ref 115), ent P "brackets" 350 (.ref 122), ent P "braces" 365 (.ref 129), ent P "parts_until" 381 (.ref 136), ent P "bare_stops" 388 (.ref 143), ent P "is_expanded" 397 (.ref 150), ent P "word" 412 (.ref 157), ent P "command_at" 427 (.ref 165), ent P "commands_of" 436 (.ref 172), ent P "is_complete" 446 (.ref 179), ent P "_law_pieces" 454 (.ref 186), ent P "_law_right_script" 460 (.ref 193), ent P "_law_rows" 466 (.ref 200), ent P "_law_changed" 478 (.ref 207), ent P "_law_is_name" 485 (.ref 214), ent P "_law_open" 495 (.ref 221), ent P "_law_in_script" 505 (.ref 228), ent P "_law_goes_on" 515 (.ref 235), ent P "_law_in_parts" 527 (.ref 242), ent P "_law_in_braces" 536 (.ref 249), ent P "_law_bent" 545 (.ref 256), ent P "_law_take" 555 (.ref 263), ent P "_law_is_faulty" 563 (.ref 270), ent P "_law_is_right" 571 (.ref 277), ent P "_law_begin" 577 (.ref 284), ent P "_law_walk" 587 (.ref 291), ent P "_law_closings" 599 (.ref 298), ent P "_law_closed_right" 609 (.ref 305), ent P "law" 615 (.ref 310)] 49 }
noncomputable def clsNs (P : Params) : Obj := { cls := .type "dict", data := .dict #[ent P "__module__" 196 mdF, ent P "__firstlineno__" 200 (.int 2 199), ent P "__init__" 215 (.ref 30), ent P "__static_attributes__" 225 (.ref 31), ent P "__weakref__" 227 (.ref 34), ent P "__doc__" 228 .none] 3 }
noncomputable def clsO : Obj := { cls := .type "type", data := .cls { name := "Raised", bases := [.type "Exception"], mro := [.ref 33, .type "Exception", .type "BaseException", .type "object"], ns := 32, qualname := "Raised" }, slots := #[some (.ref 15), none, some (.str "Raised" 189), some (.str "Raised" 197), some (.builtin "Exception.__new__"), some (.bool true)] }
noncomputable abbrev tupL (vs : List Value) : Obj := { cls := .type "tuple", data := .seq vs.toArray }
noncomputable def kF (P : Params) : Frag := [(3, globO P), (22, tupL [.str "NONE" 201]), (23, tupL [.ref 22, .int 0 202, .int 0 203]), (29, codeO 29 "__init__" "Raised.__init__" 204 4 6 213), (30, fnO (inCls (stAt 1)) "Raised.__init__" mdF (.ref 23) 29), (32, clsNs P), (33, clsO), (37, tupL [.str "NONE" 233]), (38, tupL [.ref 37]), (44, codeT 2 44 234 15 2 239), (45, fnT 2 mdF (.ref 38) 44), (51, codeT 4 51 244 18 1 249), (52, fnT 4 mdN .none 51), (58, codeT 6 58 254 30 2 263), (59, fnT 6 mdW .none 58), (65, codeT 7 65 266 47 2 274), (66, fnT 7 mdW .none 65), (72, codeT 8 72 277 57 2 285), (73, fnT 8 mdW .none 72), (79, codeT 9 79 288 74 1 292), (80, fnT 9 mdW .none 79), (86, codeT 10 86 295 76 2 300), (87, fnT 10 mdW .none 86), (93, codeT 11 93 303 85 2 309), (94, fnT 11 mdW .none 93), (100, codeT 12 100 312 95 2 317), (101, fnT 12 mdW .none 100), (107, codeT 13 107 320 104 2 325), (108, fnT 13 mdW .none 107), (114, codeT 14 114 328 115 2 337), (115, fnT 14 mdW .none 114), (121, codeT 15 121 340 131 2 348), (122, fnT 15 mdW .none 121), (128, codeT 16 128 351 140 2 363), (129, fnT 16 mdW .none 128), (135, codeT 17 135 366 166 3 379), (136, fnT 17 mdW .none 135), (142, codeT 18 142 382 196 1 386), (143, fnT 18 mdW .none 142), (149, codeT 19 149 389 200 2 395), (150, fnT 19 mdW .none 149), (156, codeT 20 156 398 207 3 410), (157, fnT 20 mdW .none 156), (158, tupL [.bool false]), (164, codeT 21 164 413 224 3 425), (165, fnT 21 mdW (.ref 158) 164), (171, codeT 22 171 428 245 1 434), (172, fnT 22 mdW .none 171), (178, codeT 23 178 437 252 1 444), (179, fnT 23 mdW .none 178), (185, codeT 25 185 449 265 0 452), (186, fnT 25 mdL .none 185), (192, codeT 26 192 455 267 0 458), (193, fnT 26 mdL .none 192), (199, codeT 27 199 461 269 0 464), (200, fnT 27 mdL .none 199), (206, codeT 28 206 467 271 2 476), (207, fnT 28 mdL .none 206), (213, codeT 29 213 479 277 1 483), (214, fnT 29 mdL .none 213), (220, codeT 30 220 486 279 4 493), (221, fnT 30 mdL .none 220), (227, codeT 31 227 496 281 2 503), (228, fnT 31 mdL .none 227), (234, codeT 32 234 506 305 4 513), (235, fnT 32 mdL .none 234), (241, codeT 33 241 516 317 2 525), (242, fnT 33 mdL .none 241), (248, codeT 34 248 528 337 2 534), (249, fnT 34 mdL .none 248), (255, codeT 35 255 537 344 2 543), (256, fnT 35 mdL .none 255), (262, codeT 36 262 546 356 2 553), (263, fnT 36 mdL .none 262), (269, codeT 37 269 556 376 1 561), (270, fnT 37 mdL .none 269), (276, codeT 38 276 564 379 1 569), (277, fnT 38 mdL .none 276), (283, codeT 39 283 572 386 0 575), (284, fnT 39 mdL .none 283), (290, codeT 40 290 578 388 1 585), (291, fnT 40 mdL .none 290), (297, codeT 41 297 588 396 1 597), (298, fnT 41 mdL .none 297), (304, codeT 42 304 600 411 1 607), (305, fnT 42 mdL .none 304), (309, { cls := .type "code", data := .fields #[.str "law" 610, .str "law" 611, .str "/claim/cut.py" 612, .int 422 0, .int 1 0, .int 0 0, .int 0 0, .int 3 0, .ref 306, .bool true, .int 181 0, .ref 307, .none, .none, .none, .ref 308, .int 613 0, .int 422 0, .str "/claim/cut.py" 614] }), (310, fnT 43 mdL .none 309)]
noncomputable abbrev kA : List Addr := [3, 22, 23, 29, 30, 32, 33, 37, 38, 44, 45, 51, 52, 58, 59, 65, 66, 72, 73, 79, 80, 86, 87, 93, 94, 100, 101, 107, 108, 114, 115, 121, 122, 128, 129, 135, 136, 142, 143, 149, 150, 156, 157, 158, 164, 165, 171, 172, 178, 179, 185, 186, 192, 193, 199, 200, 206, 207, 213, 214, 220, 221, 227, 228, 234, 235, 241, 242, 248, 249, 255, 256, 262, 263, 269, 270, 276, 277, 283, 284, 290, 291, 297, 298, 304, 305, 309, 310]
noncomputable abbrev hk : Hook := kHook kF kA (fun _ => by kernel_rfl)
noncomputable def qv : Program := { pw with main := { pw.main with body := [stAt 43] } }
noncomputable abbrev lo : List Str := [Str.ofString "Raised", Str.ofString "error", Str.ofString "digit", Str.ofString "hex_sign", Str.ofString "octal_sign", Str.ofString "backslash", Str.ofString "is_gap", Str.ofString "skip_gaps", Str.ofString "comment_behind", Str.ofString "skip_to_command", Str.ofString "read_name", Str.ofString "variable", Str.ofString "brackets", Str.ofString "braces", Str.ofString "parts_until", Str.ofString "bare_stops", Str.ofString "is_expanded", Str.ofString "word", Str.ofString "command_at", Str.ofString "commands_of", Str.ofString "is_complete", Str.ofString "_law_pieces", Str.ofString "_law_right_script", Str.ofString "_law_rows", Str.ofString "_law_changed", Str.ofString "_law_is_name", Str.ofString "_law_open", Str.ofString "_law_in_script", Str.ofString "_law_goes_on", Str.ofString "_law_in_parts", Str.ofString "_law_in_braces", Str.ofString "_law_bent", Str.ofString "_law_take", Str.ofString "_law_is_faulty", Str.ofString "_law_is_right", Str.ofString "_law_begin", Str.ofString "_law_walk", Str.ofString "_law_closings", Str.ofString "_law_closed_right"]
set_option maxHeartbeats 0 in
theorem left0 : LeftO PySem.Challenge.rw_np0134_01.row.prog qv lo (fun s => xlAt qv [] s && recOk (RowW.records PySem.Challenge.rw_np0134_01.row.toRowW) s) (Hook.obs hk) (Hook.val hk) 3164 := fun w => by kernel_rfl
theorem said1 : looksOpen PySem.Challenge.rw_np0134_01.row.toRowW.prog = true := by
  unfold looksOpen
  repeat' with_reducible refine look_both ?_ ?_
  all_goals decide +kernel
theorem said2 : PySem.Challenge.rw_np0134_01.row.partSaid = true := by
  unfold OpenRow.partSaid
  repeat' with_reducible refine look_both ?_ ?_
  · exact said1
  all_goals decide +kernel
theorem said3 : PySem.Challenge.rw_np0134_01.row.wellSaid = true := by
  unfold OpenRow.wellSaid
  repeat' with_reducible refine look_both ?_ ?_
  · exact said2
  all_goals decide +kernel
theorem said0 : PySem.Challenge.rw_np0134_01.wellSaid = true := by
  unfold OpenLaw.wellSaid
  repeat' with_reducible refine look_both ?_ ?_
  · exact said3
  all_goals decide +kernel
end
section
open PySem PySem.Calls PySem.W

noncomputable def fd0 : FuncData := { name := ⟨#[]⟩, qualname := ⟨#[]⟩, params := { posonlyargs := [], args := [], vararg := none, kwonlyargs := [], kw_defaults := [], kwarg := none, defaults := [] }, body := .stmts [], scope := { kind := .function, names := [], isGenerator := false, isCoroutine := false }, globals := 0, closure := [], defaults := .none, kwdefaults := .none, pyModule := .none, code := .none }
noncomputable def fnOfD : Data → Option FuncData
  | .func fd => some fd
  | _ => none
theorem fnOfD_eq {d : Data} {fd : FuncData} (h : fnOfD d = some fd) : d = .func fd := by
  cases d <;> first | exact nn h | (cases h; rfl)
noncomputable def fdAt (P : Params) (a : Addr) : FuncData := (((kF P).lookup a).bind fun o => fnOfD o.data).getD fd0
noncomputable def bodyOf (fd : FuncData) : List Stmt := match fd.body with
  | .stmts b => b
  | _ => []

section
variable {prog : Program} {w : World} {base : Heap} {C : Addr} {env : Env} {outer : List Env} {names : List Str} {fn : Nat → Option Addr}

theorem fnOf {base : Heap} {a : Addr} {fd : FuncData} (h : ∃ o, base.get? a = some o ∧ o.data = .func fd) : ∃ o fd, base.get? a = some o ∧ o.data = .func fd := let ⟨o, x, y⟩ := h; ⟨o, _, x, y⟩

noncomputable def isStar : Expr → Bool
  | .Starred _ _ => true
  | _ => false
theorem starEach_plain {env : Env} {e : Expr} {es : List Expr} (h : isStar e = false) : starEach (e :: es) env = (false, eval e env) :: starEach es env := by
  cases e <;> first | rfl | cases h

theorem namesAre_of : ∀ {is : List Nat} {xs : List Str}, is.mapM (fun i => names[i]?) = some xs → NamesAre names xs is
  | [], xs, h => by cases h; trivial
  | i :: is, xs, h => by
    rw [List.mapM_cons] at h
    cases q : names[i]? with
    | none => rw [q] at h; cases h
    | some x =>
      rw [q] at h
      cases q2 : is.mapM (fun i => names[i]?) with
      | none => rw [q2] at h; cases h
      | some ys => rw [q2] at h; cases h; exact ⟨q, namesAre_of q2⟩

theorem sound_swap {es : List Expr} {e : Expr} {t : E} {is : List Nat} {ys xs : List Str} {k : Nat} {p pos : Pos} (ok : EnvOk env names) (hx : is.reverse.mapM (fun i => names[i]?) = some ys) (hn : xs = ys.reverse) (h1 : SoundE prog w base C env names fn e t)
    (hs : swapsWithSole [.Tuple es k p] e pos.line env = pure false) (hw : swappedStores [.Tuple es k p] e env = pure (some xs)) : Sound1 prog w base C env names fn (.Assign [.Tuple es k p] e pos) (.asgsR is t) :=
  sound_asgsR ok (by rw [hn, List.reverse_reverse]; exact namesAre_of hx) (by
    subst hn
    have : ∀ {is : List Nat} {ys : List Str}, is.mapM (fun i => names[i]?) = some ys → ys.length = is.length := by
      intro is
      induction is with
      | nil => intro ys h; cases h; rfl
      | cons i is ih =>
        intro ys h
        rw [List.mapM_cons] at h
        cases q : names[i]? with
        | none => rw [q] at h; cases h
        | some x =>
          rw [q] at h
          cases q2 : is.mapM (fun i => names[i]?) with
          | none => rw [q2] at h; cases h
          | some ys => rw [q2] at h; cases h; simp [ih q2]
    simpa using this hx) h1 hs hw

theorem sound_chr {mg mb : Str → Option Value} {x : Str} {np pos : Pos} {e : Expr} {t : E} (B : BaseOk prog base mg mb) (ok : EnvOk env names)
    (hk : env.kindOf x = some .globalImplicit) (hd : (x == ("__debug__" : Str)) = false) (hm : mg x = none) (hv : mb x = some (.builtin "chr")) (he : starEach [e] env = (false, eval e env) :: starEach [] env)
    (hs : SoundE prog w base C env names fn e t) : SoundE prog w base C env names fn (.Call (.Name x np) [e] [] pos) (.chr t) := fun outer n A σ μ s P X hA R h => by
  refine wpAny_Call_NameR (builtin_ok B ok R hk hm hv hd (PyProof.Rows.callWith_builtin1 (wpAny_mono (one_arg (outer := outer) he hs hA R h (Q := fun v s1 => wpAny (model prog w) A (call (.builtin "chr") [v]) (PostE prog w base env outer names (hOf s) μ P) (ErrS prog w base C env outer (hOf s) μ X) s1) (fun v s1 p1 => ?_) rfl) (fun vs s1 q => ?_) fun _ _ e => e) he rfl))
  · obtain ⟨d, σ1, μ1, ⟨k, rfl, hk1, k1⟩, R1, r1, g1, x1⟩ := p1
    obtain ⟨t, rfl⟩ := r1
    exact PyProof.Rows.chr_of_range (by walk_at "om") (by walk_at "om") ⟨_, σ1, μ1, k1, R1, ⟨_, rfl⟩, g1, x1⟩
  · obtain ⟨v, rfl, q⟩ := q
    exact q

noncomputable def SoundPs (prog : Program) (w : World) (base : Heap) (C : Addr) (env : Env) (names : List Str) (fn : Nat → Option Addr) (keys : List (Option Expr)) (values : List Expr) (ks : List (List Nat)) (ts : Es) : Prop :=
  keys.all (·.isSome) = true ∧ keys.length = values.length ∧ ks.length = keys.length ∧
  ∀ pos outer n A σ μ s P X, AOk A (env :: outer) n → Rel prog w base env outer names σ μ s.heap → wpEs (CallOK prog w base C fn n) ts σ P X →
    wpAny (model prog w) A (evalPairs (pairTrees keys values env pos)) (fun kvs s' => ∃ ds σ' μ' kws, P ds σ' ∧ Rel prog w base env outer names σ' μ' s'.heap ∧ Carries (strKind prog w) kvs kws ∧ kws.map (·.1) = ks.map (fun k => (⟨k.toArray⟩ : Str)) ∧ VRs s'.heap μ' ds (kws.map (·.2)) ∧ Gro s.heap μ μ' ∧ Ext (FA (env :: outer)) ([env.locals] ++ μ) (hOf s) (hOf s'))
      (ErrS prog w base C env outer (hOf s) μ X) s

theorem pairs_nil : SoundPs prog w base C env names fn [] [] [] .nil :=
  ⟨rfl, rfl, rfl, fun pos outer n A σ μ s P X hA R h => evalPairs_nil ⟨[], σ, μ, [], h, R, trivial, rfl, rfl, Gro.refl _ _, Ext.refl _ _ _⟩⟩

theorem pairs_cons {x : Str} {kk : Nat} {p : Pos} {v : Expr} {keys : List (Option Expr)} {values : List Expr} {k : List Nat} {ks : List (List Nat)} {t : E} {ts : Es} (ok : EnvOk env names) (hx : x = ⟨k.toArray⟩)
    (h1 : SoundE prog w base C env names fn v t) (h2 : SoundPs prog w base C env names fn keys values ks ts) : SoundPs prog w base C env names fn (some (.Constant (.str x) kk p) :: keys) (v :: values) (k :: ks) (.cons t ts) := by
  obtain ⟨a1, a2, a3, h2⟩ := h2
  refine ⟨by simpa using a1, by simp [a2], by simp [a3], fun pos outer n A σ μ s P X hA R h => ?_⟩
  show wpAny _ _ (evalPairs ((eval (.Constant (.str x) kk p) env, do let x ← eval v env; standAt pos; pure x) :: pairTrees keys values env pos)) _ _ _
  refine evalPairs_cons (wpAny_Constant_str ?_)
  refine wpAny_bind (next (h1 outer n A σ μ { s with toks := s.toks + 1 } (fun d σ1 => wpEs (CallOK prog w base C fn n) ts σ1 (fun ds σ2 => P (d :: ds) σ2) X) X hA R h) fun vv s1 p1 => ?_)
  obtain ⟨d, σ1, μ1, k1, R1, r1, g1, x1⟩ := p1
  refine wpAny_bind (wpAny_standAt (wpAny_pure ?_))
  refine later g1 x1 (h2 pos outer n A σ1 μ1 s1 _ X hA R1 k1) fun kvs s2 p2 => ?_
  obtain ⟨ds, σ2, μ2, kws, k2, R2, c2, n2, r2, g2, x2⟩ := p2
  refine ⟨d :: ds, σ2, μ2, (⟨k.toArray⟩, vv) :: kws, k2, R2, ⟨?_, rfl, c2⟩, by simp [n2], ⟨vv, _, rfl, r1.mono (R1.tups ok x2) g2.pre, r2⟩, g1.trans x1 g2, x1.trans g1 x2⟩
  subst hx
  exact strKind_is _ _ _ _

theorem zip_keys {h : Heap} {μ : List Addr} : ∀ {ks : List (List Nat)} {ds : List D} {kws : List (Str × Value)}, kws.map (·.1) = ks.map (fun k => (⟨k.toArray⟩ : Str)) → VRs h μ ds (kws.map (·.2)) →
    kws.map (·.1) = (ks.zip ds).map (fun p => (⟨p.1.toArray⟩ : Str)) ∧ VRs h μ ((ks.zip ds).map (·.2)) (kws.map (·.2))
  | [], ds, [], _, _ => ⟨rfl, rfl⟩
  | k :: ks, ds, [], e, _ => by simp at e
  | [], ds, kw :: kws, e, _ => by simp at e
  | k :: ks, [], kw :: kws, _, r => by cases r
  | k :: ks, d :: ds, kw :: kws, e, r => by
    simp only [List.map_cons, List.cons.injEq] at e
    obtain ⟨v, r', e', r1, r2⟩ := r
    simp only [List.map_cons, List.cons.injEq] at e'
    obtain ⟨rfl, rfl⟩ := e'
    obtain ⟨a, b⟩ := zip_keys e.2 r2
    exact ⟨by simp [e.1, a], ⟨_, _, rfl, r1, b⟩⟩

theorem sound_dict {keys : List (Option Expr)} {values : List Expr} {ks : List (List Nat)} {ts : Es} {pos : Pos} (ok : EnvOk env names) (h1 : SoundPs prog w base C env names fn keys values ks ts)
    (h0 : keys ≠ []) (hlen : keys.length ≤ 15) (hn : (ks.map fun k => (⟨k.toArray⟩ : Str)).Nodup) : SoundE prog w base C env names fn (.Dict keys values pos) (.dict ks ts) := fun outer n A σ μ s P X hA R h => by
  obtain ⟨a1, a2, a3, h2⟩ := h1
  refine wpAny_Dict_any a1 a2 h0 hlen ?_
  have kp := keepPush (h := s.heap) { cls := .type "dict", data := .dict #[] }
  have hd := size_none s.heap
  have R0 : Rel prog w base env outer names { σ with cells := σ.cells ++ [.dct []] } (μ ++ [s.heap.objs.size]) (s.heap.push { cls := .type "dict", data := .dict #[] }) :=
    R.new kp hd (c := .dct []) ⟨[], Heap.DictOf.new _, rfl, rfl⟩
  have g0 : Gro s.heap μ (μ ++ [s.heap.objs.size]) := gro_new hd
  have x0 : Ext (FA (env :: outer)) ([env.locals] ++ μ) (hOf s) (hW (hOf s) (s.heap.push { cls := .type "dict", data := .dict #[] })) := Ext.push _
  refine later g0 x0 (h2 pos outer n A _ _ { s with heap := s.heap.push { cls := .type "dict", data := .dict #[] } } _ X hA R0 h) fun kvs s1 p1 => ?_
  obtain ⟨ds, σ1, μ1, kws, ⟨e1, k1⟩, R1, c1, n1, r1, g1, x1⟩ := p1
  have hi : μ1[σ.cells.length]? = some s.heap.objs.size := by
    obtain ⟨r, rfl⟩ := g1.pre
    rw [← R.inv.len, List.append_assoc, List.getElem?_append_right (Nat.le_refl _)]; simp
  have ma : s.heap.objs.size ∈ μ1 := List.mem_of_getElem? hi
  obtain ⟨kvs0, hd0, hk0, _⟩ := R1.inv.cells _ _ _ hi e1
  have : kvs0 = [] := by simpa using hk0
  subst this
  have hlk : kws.length = ks.length := by simpa using congrArg List.length n1
  unfold storeAll
  refine wpAny_storeAll (knd := strKind prog w) kvs kws [] s1 _ c1 hd0 (by rw [hlk, a3, sizeLine_is]; simp; walk_at "om") fun h' hd' sb => ?_
  rw [merged_nil_of_nodup kws (by rw [n1]; exact hn)] at hd'
  have sb2 : ∀ b, b ≠ s.heap.objs.size → h'.get? b = s1.heap.get? b := fun b q => sb.2 b q
  have tu : Tups s1.heap h' := fun b vs n e => (sb2 b (fun q => R1.inv.notTup ma (q ▸ e))).trans e
  obtain ⟨b1, b2⟩ := zip_keys n1 r1
  have R2 := R1.put ok hi sb2 (c := .dct (ks.zip ds)) ⟨kws, hd', b1, b2.mono tu (List.prefix_refl _)⟩
  refine ⟨_, _, μ1, k1, R2, ⟨_, rfl, hi⟩, g0.trans x0 g1, (x0.trans g0 x1).trans (g0.trans x0 g1) (Ext.put ma sb2 ?_)⟩
  obtain ⟨o, _, _, e, _⟩ := hd'
  exact ⟨o, e⟩
end
end
section
open PySem PySem.Calls PySem.W
noncomputable abbrev fnA : Nat → Option Addr := some

section
variable {prog : Program} {w : World} {base : Heap} {C : Addr} {env : Env} {outer : List Env} {names : List Str} {fn : Nat → Option Addr}
theorem ints_of {h : Heap} {μ : List Addr} : ∀ {is : List Int} {vs : List Value}, VRs h μ (is.map D.int) vs → ∃ xs : List (Int × Tok), vs = xs.map (fun p => Value.int p.1 p.2) ∧ xs.map (·.1) = is
  | [], vs, r => ⟨[], r, rfl⟩
  | i :: is, vs, ⟨v, r', e, ⟨t, e1⟩, r2⟩ => by
    obtain ⟨xs, e2, e3⟩ := ints_of r2
    exact ⟨(i, t) :: xs, by rw [e, e1, e2]; rfl, by rw [List.map_cons, e3]⟩
theorem sound_sum {mg mb : Str → Option Value} {x : Str} {np pos : Pos} {e : Expr} {t : E} (B : BaseOk prog base mg mb) (ok : EnvOk env names)
    (hk : env.kindOf x = some .globalImplicit) (hd : (x == ("__debug__" : Str)) = false) (hm : mg x = none) (hv : mb x = some (.builtin "sum")) (he : starEach [e] env = (false, eval e env) :: starEach [] env)
    (hs : SoundE prog w base C env names fn e t) : SoundE prog w base C env names fn (.Call (.Name x np) [e] [] pos) (.sum t) := fun outer n A σ μ s P X hA R h => by
  refine wpAny_Call_NameR (builtin_ok B ok R hk hm hv hd (PyProof.Rows.callWith_builtin1 (wpAny_mono (one_arg (outer := outer) he hs hA R h (Q := fun v s1 => wpAny (model prog w) A (call (.builtin "sum") [v]) (PostE prog w base env outer names (hOf s) μ P) (ErrS prog w base C env outer (hOf s) μ X) s1) (fun v s1 p1 => ?_) rfl) (fun vs s1 q => ?_) fun _ _ e => e) he rfl))
  · obtain ⟨d, σ1, μ1, ⟨k, is, rfl, hc, k1⟩, R1, r1, g1, x1⟩ := p1
    obtain ⟨a, rfl, ha, vs, k, e, hv⟩ := cellOf R1.inv hc r1
    obtain ⟨xs, ex, ei⟩ := ints_of hv
    have ev : vs = intItems xs.toArray := by
      apply Array.toList_inj.mp
      rw [ex]; simp [intItems]
    refine sum_intListG (xs := xs.toArray) hA.handled (ev ▸ isList_of e) fun h' tk t' kp => ?_
    have es : preSum (numAt xs.toArray) xs.toArray.size = is.sum := by
      rw [preSum_eq, List.take_of_length_le (by simp)]
      show (xs.map (·.1)).sum = is.sum
      rw [ei]
    rw [es]
    exact ⟨_, σ1, μ1, k1, R1.grow kp, ⟨_, rfl⟩, g1, x1.trans g1 (Ext.of_keeps kp)⟩
  · obtain ⟨v, rfl, q⟩ := q
    exact q
end

noncomputable def gd {α : Type} (c : Bool) (o : Option α) : Option α := match c with
  | true => o
  | false => none
theorem gs {α : Type} {c : Bool} {o : Option α} {b : α} (h : gd c o = some b) : c = true ∧ o = some b := by
  cases c
  · exact nn h
  · exact ⟨rfl, h⟩

noncomputable def eqN : List Nat → List Nat → Bool
  | [] => fun l => l.isEmpty
  | a :: l => fun m => match m with
    | [] => false
    | b :: r => Nat.beq a b && eqN l r
theorem eqN_eq : ∀ {l m : List Nat}, eqN l m = true → l = m
  | [], [], _ => rfl
  | a :: l, b :: r, h => by
    have := (Bool.and_eq_true _ _).mp h
    rw [Nat.eq_of_beq_eq_true this.1, eqN_eq this.2]
noncomputable def eqS (x y : Str) : Bool := eqN x.cps.toList y.cps.toList
theorem eqS_eq {x y : Str} (h : eqS x y = true) : x = y := by
  obtain ⟨⟨x⟩⟩ := x
  obtain ⟨⟨y⟩⟩ := y
  exact congrArg (fun l => Str.mk (Array.mk l)) (eqN_eq h)
noncomputable def fnd {α : Type} (x : Str) : List (Str × α) → Option α
  | [] => none
  | p :: l => bif eqS x p.1 then some p.2 else fnd x l
theorem fnd_mem {α : Type} {x : Str} {a : α} : ∀ {l : List (Str × α)}, fnd x l = some a → (x, a) ∈ l
  | p :: l, h => by
    unfold fnd at h
    cases q : eqS x p.1 with
    | true => rw [q] at h; cases h; rw [eqS_eq q]; exact .head _
    | false => rw [q] at h; exact .tail _ (fnd_mem h)
noncomputable def ixOf (x : Str) : List Str → Option Nat
  | [] => none
  | y :: l => bif eqS x y then some 0 else (ixOf x l).map (· + 1)
theorem ixOf_get {x : Str} : ∀ {l : List Str} {i : Nat}, ixOf x l = some i → l[i]? = some x
  | y :: l, i, h => by
    unfold ixOf at h
    cases q : eqS x y with
    | true => rw [q] at h; cases h; rw [eqS_eq q]; rfl
    | false =>
      rw [q] at h
      obtain ⟨j, e, rfl⟩ := ms h
      exact (List.getElem?_cons_succ).trans (ixOf_get e)

noncomputable def twoL {α : Type} : List α → Option (α × α)
  | [] => none
  | a :: l => (one l).map fun b => (a, b)
theorem twoL_eq {α : Type} {l : List α} {p : α × α} (h : twoL l = some p) : l = [p.1, p.2] := by
  cases l with
  | nil => exact nn h
  | cons b l =>
    obtain ⟨c, e, rfl⟩ := ms h
    rw [one_eq e]
noncomputable def three {α : Type} : List α → Option (α × α × α)
  | [] => none
  | a :: l => (twoL l).map fun b => (a, b.1, b.2)
theorem three_eq {α : Type} {l : List α} {p : α × α × α} (h : three l = some p) : l = [p.1, p.2.1, p.2.2] := by
  cases l with
  | nil => exact nn h
  | cons b l =>
    obtain ⟨c, e, rfl⟩ := ms h
    rw [twoL_eq e]

noncomputable def plainE : Expr → Bool
  | .BoolOp _ _ _ => true
  | .BinOp _ _ _ _ => true
  | .UnaryOp _ _ _ => true
  | .IfExp _ _ _ _ => true
  | .Dict _ _ _ => true
  | .Compare _ _ _ _ => true
  | .Call _ _ _ _ => true
  | .Constant _ _ _ => true
  | .Subscript _ _ _ => true
  | .Name _ _ => true
  | .List _ _ => true
  | .Tuple _ _ _ => true
  | _ => false

structure Plain (e : Expr) : Prop where
  star : ∀ env es, starEach (e :: es) env = (false, eval e env) :: starEach es env
  swaps : ∀ t l env, swapsWith e t l env = pure false
  beh : ∀ o, behindInMarks o e = false
  subs : ∀ o i, subscripted e false o i = operate [o, i] (getItem o i)
  aug : ∀ ov iv new, augStore e ov iv new = (do holding [new, ov, iv] (setItem ov iv new); release [new, ov, iv] []; pure .next)
  fold : ∀ env x, foldedSetIterable e env x = pure x

theorem plain_of {e : Expr} (h : plainE e = true) : Plain e := by
  cases e <;> first | exact ⟨fun _ _ => rfl, fun _ _ _ => rfl, fun _ => rfl, fun _ _ => rfl, fun _ _ _ => rfl, fun _ _ => rfl⟩ | exact Bool.noConfusion h

inductive EView where
  | name (x : Str) (p : Pos)
  | attr (o : Expr) (a : Str) (p : Pos)
  | call (f : Expr) (a : List Expr) (k : List Keyword) (p : Pos)
  | sub (o i : Expr) (p : Pos)
  | tup (es : List Expr) (k : Nat) (p : Pos)
  | slice (a b c : Option Expr) (p : Pos)
  | cst (c : Const) (k : Nat) (p : Pos)
  | other
noncomputable def viewE : Expr → EView
  | .Name x p => .name x p
  | .Attribute o a p => .attr o a p
  | .Call f a k p => .call f a k p
  | .Subscript o i p => .sub o i p
  | .Tuple es k p => .tup es k p
  | .Slice a b c p => .slice a b c p
  | .Constant c k p => .cst c k p
  | _ => .other
noncomputable def EView.expr : EView → Option Expr
  | .name x p => some (.Name x p)
  | .attr o a p => some (.Attribute o a p)
  | .call f a k p => some (.Call f a k p)
  | .sub o i p => some (.Subscript o i p)
  | .tup es k p => some (.Tuple es k p)
  | .slice a b c p => some (.Slice a b c p)
  | .cst c k p => some (.Constant c k p)
  | .other => none
theorem view_ok (e : Expr) : (viewE e).expr = some e ∨ (viewE e).expr = none := by
  cases e <;> first | exact .inl rfl | exact .inr rfl
theorem view_eq {e e' : Expr} (h : (viewE e).expr = some e') : e = e' := by
  rcases view_ok e with q | q
  · rw [q] at h; cases h; rfl
  · rw [q] at h; exact nn h
noncomputable def nameOf (e : Expr) : Option Str := match viewE e with
  | .name x _ => some x
  | _ => none
theorem nameOf_eq {e : Expr} {q : Str} (h : nameOf e = some q) : ∃ p, e = .Name q p := by
  unfold nameOf at h
  cases z : viewE e with
  | name x p => rw [z] at h; cases h; exact ⟨p, view_eq (by rw [z]; rfl)⟩
  | _ => rw [z] at h; exact nn h
noncomputable def attrOf (e : Expr) : Option (Expr × Str × Pos) := match viewE e with
  | .attr o a p => some (o, a, p)
  | _ => none
theorem attrOf_eq {e : Expr} {q : Expr × Str × Pos} (h : attrOf e = some q) : e = .Attribute q.1 q.2.1 q.2.2 := by
  unfold attrOf at h
  cases z : viewE e with
  | attr o a p => rw [z] at h; cases h; exact view_eq (by rw [z]; rfl)
  | _ => rw [z] at h; exact nn h
noncomputable def callOf (e : Expr) : Option (Expr × List Expr × List Keyword) := match viewE e with
  | .call f a k _ => some (f, a, k)
  | _ => none
theorem callOf_eq {e : Expr} {q : Expr × List Expr × List Keyword} (h : callOf e = some q) : ∃ p, e = .Call q.1 q.2.1 q.2.2 p := by
  unfold callOf at h
  cases z : viewE e with
  | call f a k p => rw [z] at h; cases h; exact ⟨p, view_eq (by rw [z]; rfl)⟩
  | _ => rw [z] at h; exact nn h
noncomputable def subOf (e : Expr) : Option (Expr × Expr) := match viewE e with
  | .sub o i _ => some (o, i)
  | _ => none
theorem subOf_eq {e : Expr} {q : Expr × Expr} (h : subOf e = some q) : ∃ p, e = .Subscript q.1 q.2 p := by
  unfold subOf at h
  cases z : viewE e with
  | sub o i p => rw [z] at h; cases h; exact ⟨p, view_eq (by rw [z]; rfl)⟩
  | _ => rw [z] at h; exact nn h
noncomputable def tupOf (e : Expr) : Option (List Expr) := match viewE e with
  | .tup es _ _ => some es
  | _ => none
theorem tupOf_eq {e : Expr} {q : List Expr} (h : tupOf e = some q) : ∃ k p, e = .Tuple q k p := by
  unfold tupOf at h
  cases z : viewE e with
  | tup es k p => rw [z] at h; cases h; exact ⟨k, p, view_eq (by rw [z]; rfl)⟩
  | _ => rw [z] at h; exact nn h
noncomputable def sliceOf (e : Expr) : Option (Option Expr × Option Expr × Option Expr) := match viewE e with
  | .slice a b c _ => some (a, b, c)
  | _ => none
theorem sliceOf_eq {e : Expr} {q : Option Expr × Option Expr × Option Expr} (h : sliceOf e = some q) : ∃ p, e = .Slice q.1 q.2.1 q.2.2 p := by
  unfold sliceOf at h
  cases z : viewE e with
  | slice a b c p => rw [z] at h; cases h; exact ⟨p, view_eq (by rw [z]; rfl)⟩
  | _ => rw [z] at h; exact nn h
noncomputable def cstOf (e : Expr) : Option Const := match viewE e with
  | .cst c _ _ => some c
  | _ => none
theorem cstOf_eq {e : Expr} {q : Const} (h : cstOf e = some q) : ∃ k p, e = .Constant q k p := by
  unfold cstOf at h
  cases z : viewE e with
  | cst c k p => rw [z] at h; cases h; exact ⟨k, p, view_eq (by rw [z]; rfl)⟩
  | _ => rw [z] at h; exact nn h
noncomputable def strOf : Const → Option Str
  | .str x => some x
  | _ => none
theorem strOf_eq {c : Const} {x : Str} (h : strOf c = some x) : c = .str x := by
  cases c <;> first | exact nn h | (cases h; rfl)
noncomputable def intOf : Const → Option Int
  | .int x => some x
  | _ => none
theorem intOf_eq {c : Const} {x : Int} (h : intOf c = some x) : c = .int x := by
  cases c <;> first | exact nn h | (cases h; rfl)
theorem base_of {o : Expr} (h : (callOf o).isNone = true) : ∀ a env w, attributeBase o a env w = w := by
  cases o <;> first | exact Bool.noConfusion h | exact fun _ _ _ => rfl

noncomputable def opB : Operator → Option BOp
  | .Add => some .add
  | .Sub => some .sub
  | .Mult => some .mul
  | .Mod => some .mod
  | .FloorDiv => some .fdiv
  | _ => none
theorem opB_ok {o : Operator} {p : BOp} (h : opB o = some p) : BopIs p o := by
  cases o <;> first | exact nn h | (cases h; constructor)
noncomputable def opA : Operator → Option BOp
  | .Add => some .add
  | .Sub => some .sub
  | _ => none
theorem opA_ok {o : Operator} {p : BOp} (h : opA o = some p) : AopIs p o := by
  cases o <;> first | exact nn h | (cases h; constructor)
noncomputable def opC : CmpOp → COp
  | .Eq => .eq
  | .NotEq => .ne
  | .Lt => .lt
  | .LtE => .le
  | .Gt => .gt
  | .GtE => .ge
  | .Is => .is
  | .IsNot => .isNot
  | .In => .inn
  | .NotIn => .notIn
theorem opC_ok (o : CmpOp) : CopIs (opC o) o := by
  cases o <;> constructor

inductive One where | len | ord | chr | tuple | sum
noncomputable def oneE : One → E → E
  | .len => .len
  | .ord => .ord
  | .chr => .chr
  | .tuple => .tupleOf
  | .sum => .sum
noncomputable def ones : List (Str × One) := [("len", .len), ("ord", .ord), ("chr", .chr), ("tuple", .tuple), ("sum", .sum)]
noncomputable def bls : List (Str × Value) := [("len", .builtin "len"), ("ord", .builtin "ord"), ("chr", .builtin "chr"), ("tuple", .type "tuple"), ("sum", .builtin "sum"), ("range", .type "range")]
noncomputable def tbl : List (Str × Nat) := [(Str.ofString "error", 45), (Str.ofString "digit", 52), (Str.ofString "hex_sign", 59), (Str.ofString "octal_sign", 66), (Str.ofString "backslash", 73), (Str.ofString "is_gap", 80), (Str.ofString "skip_gaps", 87), (Str.ofString "comment_behind", 94), (Str.ofString "skip_to_command", 101), (Str.ofString "read_name", 108), (Str.ofString "variable", 115), (Str.ofString "brackets", 122), (Str.ofString "braces", 129), (Str.ofString "parts_until", 136), (Str.ofString "bare_stops", 143), (Str.ofString "is_expanded", 150), (Str.ofString "word", 157), (Str.ofString "command_at", 165), (Str.ofString "commands_of", 172), (Str.ofString "is_complete", 179), (Str.ofString "_law_pieces", 186), (Str.ofString "_law_right_script", 193), (Str.ofString "_law_rows", 200), (Str.ofString "_law_changed", 207), (Str.ofString "_law_is_name", 214), (Str.ofString "_law_open", 221), (Str.ofString "_law_in_script", 228), (Str.ofString "_law_goes_on", 235), (Str.ofString "_law_in_parts", 242), (Str.ofString "_law_in_braces", 249), (Str.ofString "_law_bent", 256), (Str.ofString "_law_take", 263), (Str.ofString "_law_is_faulty", 270), (Str.ofString "_law_is_right", 277), (Str.ofString "_law_begin", 284), (Str.ofString "_law_walk", 291), (Str.ofString "_law_closings", 298), (Str.ofString "_law_closed_right", 305), (Str.ofString "law", 310)]

section
variable (names : List Str) (env : Env)

noncomputable def isGlob (x : Str) : Bool := decide (env.kindOf x = some .globalImplicit) && !(x == ("__debug__" : Str))

variable (r : Bool → Expr → Option E)

noncomputable def cstE : Const → Option E
  | .none => some (.cst .none)
  | .bool b => some (.cst (.bool b))
  | .int i => some (.cst (.int i))
  | .str x => some (.cst (.str x.cps.toList))
  | _ => none
noncomputable def lstE : List Expr → Option Es
  | [] => some .nil
  | e :: es => (r false e).bind fun a => (lstE es).map fun b => .cons a b
noncomputable def boolOf : BoolOp → E → E → E
  | .And => .and
  | .Or => .or
noncomputable def boolE (b : Bool) (op : BoolOp) : List Expr → Option E
  | [] => none
  | e :: es => (r b e).bind fun a => bif es.isEmpty then some a else (boolE b op es).map fun u => boolOf op a u
noncomputable def unE (b : Bool) (x : Expr) : UnaryOp → Option E
  | .Not => (r b x).map .not
  | .USub => gd (!b) ((cstOf x).bind fun c => (intOf c).map fun i => .cst (.int (-i)))
  | _ => none
noncomputable def cmpE (a : E) (ops : List CmpOp) (es : List Expr) : Option E := match one ops with
  | some o => (one es).bind fun e => (r false e).map fun b => .cmp (opC o) a b
  | none => (twoL ops).bind fun o => (twoL es).bind fun e => (r false e.1).bind fun b => (r false e.2).map fun c => .cmp2 (opC o.1) (opC o.2) a b c
noncomputable def slE : Option Expr → Option E
  | none => some (.cst .none)
  | some e => r false e
noncomputable def subE (a : E) (s : Expr) : Option E := match sliceOf s with
  | some q => gd q.2.2.isNone ((slE r q.1).bind fun b => (slE r q.2.1).map fun c => .slice a b c)
  | none => (r false s).map fun i => .sub a i
noncomputable def callN (x : Str) (args : List Expr) : Option E := gd (isGlob env x) (match fnd x tbl with
  | some a => (lstE r args).map (.call a)
  | none => (fnd x ones).bind fun c => (one args).bind fun e => (r false e).map (oneE c))
noncomputable def callM (o : E) (at_ : Str) (args : List Expr) : Option E :=
  bif eqS at_ "find" then (match one args with
    | some e => (r false e).map fun b => .find o b
    | none => (twoL args).bind fun e => (r false e.1).bind fun b => (r false e.2).map fun c => .find2 o b c)
  else bif eqS at_ "append" then (one args).bind fun e => (r false e).map fun b => .append o b
  else gd (eqS at_ "pop" && args.isEmpty) (some (.pop o))
noncomputable def callE (f : Expr) (args : List Expr) (p : Pos) : Option E := match nameOf f with
  | some x => callN env r x args
  | none => (attrOf f).bind fun q => gd ((callOf q.1).isNone && q.2.2.endLine == p.line) ((r false q.1).bind fun o => callM r o q.2.1 args)
noncomputable def keyE : Option Expr → Option (List Nat)
  | none => none
  | some e => (cstOf e).bind fun c => (strOf c).map fun x => x.cps.toList
noncomputable def pairE : List (Option Expr) → List Expr → Option (List (List Nat) × Es)
  | [] => fun vs => gd vs.isEmpty (some ([], .nil))
  | k :: ks => fun vs => match vs with
    | [] => none
    | v :: vs => (keyE k).bind fun x => (r false v).bind fun a => (pairE ks vs).map fun q => (x :: q.1, .cons a q.2)
noncomputable def stepE (b : Bool) : Expr → Option E
  | .Constant c _ _ => cstE c
  | .Name x _ => (ixOf x names).map .loc
  | .BinOp l o x _ => (opB o).bind fun op => (r false l).bind fun a => (r false x).map fun c => .bin op a c
  | .UnaryOp o x _ => unE r b x o
  | .Compare l ops es _ => (r false l).bind fun a => cmpE r a ops es
  | .BoolOp op es _ => boolE r b op es
  | .IfExp c x y _ => gd (!b) ((r true c).bind fun t => (r false x).bind fun u => (r false y).map fun v => .ite t u v)
  | .Subscript v s _ => (r false v).bind fun a => subE r a s
  | .Tuple es _ _ => (lstE r es).map .tup
  | .List es _ => (lstE r es).map .list
  | .Dict ks vs _ => (pairE r ks vs).bind fun q => gd (!ks.isEmpty && decide (ks.length ≤ 15) && decide ((q.1.map fun k => (⟨k.toArray⟩ : Str)).Nodup)) (some (.dict q.1 q.2))
  | .Call f args kws p => gd kws.isEmpty (callE env r f args p)
  | _ => none
noncomputable def tX : Nat → Bool → Expr → Option E
  | 0 => fun _ _ => none
  | n + 1 => fun b e => gd (plainE e) (stepE names env (tX n) b e)
end

section
variable (prog : Program) (w : World) (base : Heap) (names : List Str) (env : Env)

noncomputable def SoundX (b : Bool) (e : Expr) (t : E) : Prop := match b with
  | false => SoundE prog w base 33 env names fnA e t
  | true => SoundB prog w base 33 env names fnA e t

noncomputable def FailOk (prog : Program) (w : World) (base : Heap) : Prop := ∀ {env : Env} {names : List Str} {msg : List Nat} {pos : Pos} {x : Str} {t : Str} {p1 p2 p3 : Pos} {k : Nat}, EnvOk env names → x = "error" → t = ⟨msg.toArray⟩ → env.kindOf x = some .globalImplicit →
  Sound1 prog w base 33 env names fnA (.Raise (some (.Call (.Name x p1) [.Constant (.str t) k p2] [] p3)) none pos) (.fail msg)

structure TopOk (prog : Program) (w : World) (base : Heap) (mg mb : Str → Option Value) : Prop where
  B : BaseOk prog base mg mb
  K : (kF w.params).In base
  tbl : ∀ x a, (x, a) ∈ tbl → mg x = some (.ref a) ∧ ∃ o fd, base.get? a = some o ∧ o.data = .func fd
  bls : ∀ x v, (x, v) ∈ bls → mg x = none ∧ mb x = some v
  nE : mg "Exception" = none
  bE : mb "Exception" = some (.type "Exception")
  gR : mg "Raised" = some (.ref 33)
end

section
variable {prog : Program} {w : World} {base : Heap} {mg mb : Str → Option Value} {names : List Str} {env : Env}

theorem sx {b : Bool} {e : Expr} {t : E} (hs : SoundE prog w base 33 env names fnA e t) (he : isTrue e env (eval e env) = (do let v ← eval e env; standAt e.pos; holding [v] (truthy v))) : SoundX prog w base names env b e t := by
  cases b
  · exact hs
  · exact test_of hs he

theorem glob {x : Str} (h : isGlob env x = true) : env.kindOf x = some .globalImplicit ∧ (x == ("__debug__" : Str)) = false := by
  have := (Bool.and_eq_true _ _).mp h
  exact ⟨of_decide_eq_true this.1, Bool.not_eq_true' _ |>.mp this.2⟩

variable {r : Bool → Expr → Option E}

theorem lstE_ok (ok : EnvOk env names) (hr : ∀ {b e t}, r b e = some t → SoundX prog w base names env b e t ∧ Plain e) : ∀ {es : List Expr} {ts : Es}, lstE r es = some ts → SoundEs prog w base 33 env names fnA es ts ∧ (starEach es env).all (fun x => !x.1) = true
  | [], _, h => by cases h; exact ⟨sound_nil, rfl⟩
  | e :: es, ts, h => by
    obtain ⟨a, h1, h⟩ := bs h
    obtain ⟨b, h2, rfl⟩ := ms h
    obtain ⟨s1, p1⟩ := hr h1
    obtain ⟨s2, p2⟩ := lstE_ok ok hr h2
    refine ⟨sound_cons ok (p1.star _ _) s1 s2, ?_⟩
    rw [p1.star]
    exact p2

theorem boolE_true (hr : ∀ {b e t}, r b e = some t → SoundX prog w base names env b e t ∧ Plain e) {op : BoolOp} : ∀ {es : List Expr} {t : E}, boolE r true op es = some t → SoundAll prog w base 33 env names fnA op es t
  | [], _, h => nn h
  | [e], t, h => by
    obtain ⟨a, h1, h⟩ := bs h
    cases h
    exact all_one (hr h1).1
  | e :: e' :: es, t, h => by
    obtain ⟨a, h1, h⟩ := bs h
    obtain ⟨u, h2, rfl⟩ := ms h
    have ih := boolE_true hr h2
    cases op
    · exact all_and (hr h1).1 ih
    · exact all_or (hr h1).1 ih
theorem boolE_false (hr : ∀ {b e t}, r b e = some t → SoundX prog w base names env b e t ∧ Plain e) {op : BoolOp} : ∀ {es : List Expr} {t : E}, boolE r false op es = some t → SoundV prog w base 33 env names fnA op es t
  | [], _, h => nn h
  | [e], t, h => by
    obtain ⟨a, h1, h⟩ := bs h
    cases h
    exact vals_one (hr h1).1
  | e :: e' :: es, t, h => by
    obtain ⟨a, h1, h⟩ := bs h
    obtain ⟨u, h2, rfl⟩ := ms h
    have ih := boolE_false hr h2
    cases op
    · exact vals_and (hr h1).1 ih
    · exact vals_or (hr h1).1 ih

theorem cstE_ok {c : Const} {t : E} {k : Nat} {p : Pos} (h : cstE c = some t) : SoundE prog w base 33 env names fnA (.Constant c k p) t := by
  cases c <;> first | exact nn h | cases h
  · exact sound_none
  · exact sound_bool
  · exact sound_int
  · exact sound_str rfl

theorem marks {o1 o2 : CmpOp} {e1 e2 : Expr} (p : Plain e2) : markedEach [o1, o2] [e1, e2] (evalEach [e1, e2] env) = [eval e1 env, eval e2 env] := by
  show [eval e1 env, markedBehindIn o2 e2 (eval e2 env)] = _
  unfold markedBehindIn
  rw [p.beh]

theorem cmpE_ok (ok : EnvOk env names) (hr : ∀ {b e t}, r b e = some t → SoundX prog w base names env b e t ∧ Plain e) {l : Expr} {a t : E} {ops : List CmpOp} {es : List Expr} {p : Pos} (hl : SoundE prog w base 33 env names fnA l a) (h : cmpE r a ops es = some t) (b : Bool) : SoundX prog w base names env b (.Compare l ops es p) t := by
  unfold cmpE at h
  cases q : one ops with
  | some o =>
    rw [q] at h
    obtain ⟨e, h1, h⟩ := bs h
    obtain ⟨c, h2, rfl⟩ := ms h
    obtain ⟨s2, p2⟩ := hr h2
    rw [one_eq q, one_eq h1]
    cases b
    · exact sound_cmp ok (opC_ok o) (p2.beh o) hl s2
    · exact test_cmp ok (opC_ok o) (p2.beh o) hl s2
  | none =>
    rw [q] at h
    obtain ⟨o, h0, h⟩ := bs h
    obtain ⟨e, h1, h⟩ := bs h
    obtain ⟨c, h2, h⟩ := bs h
    obtain ⟨d, h3, rfl⟩ := ms h
    obtain ⟨s2, p2⟩ := hr h2
    obtain ⟨s3, p3⟩ := hr h3
    rw [twoL_eq h0, twoL_eq h1]
    cases b
    · exact sound_cmp2 ok (opC_ok _) (opC_ok _) (marks p3) hl s2 s3
    · exact test_cmp2 ok (opC_ok _) (opC_ok _) (marks p3) hl s2 s3

theorem slE_ok (hr : ∀ {b e t}, r b e = some t → SoundX prog w base names env b e t ∧ Plain e) {o : Option Expr} {t : E} (h : slE r o = some t) : SoundO prog w base 33 env names fnA o t := by
  cases o with
  | none => cases h; rfl
  | some e => exact (hr h).1

theorem subE_ok (ok : EnvOk env names) (hr : ∀ {b e t}, r b e = some t → SoundX prog w base names env b e t ∧ Plain e) {v s : Expr} {a t : E} {p : Pos} (hl : SoundE prog w base 33 env names fnA v a) (h : subE r a s = some t) : SoundE prog w base 33 env names fnA (.Subscript v s p) t := by
  unfold subE at h
  cases q : sliceOf s with
  | some q' =>
    rw [q] at h
    obtain ⟨g, h⟩ := gs h
    obtain ⟨b, h1, h⟩ := bs h
    obtain ⟨c, h2, rfl⟩ := ms h
    obtain ⟨p', rfl⟩ := sliceOf_eq q
    rw [Option.isNone_iff_eq_none.mp g]
    exact sound_slice ok hl (slE_ok hr h1) (slE_ok hr h2)
  | none =>
    rw [q] at h
    obtain ⟨b, h1, rfl⟩ := ms h
    obtain ⟨s1, p1⟩ := hr h1
    exact sound_sub ok p1.subs hl s1

theorem callN_ok (T : TopOk prog w base mg mb) (ok : EnvOk env names) (hr : ∀ {b e t}, r b e = some t → SoundX prog w base names env b e t ∧ Plain e) {x : Str} {args : List Expr} {t : E} {np p : Pos} (h : callN env r x args = some t) : SoundE prog w base 33 env names fnA (.Call (.Name x np) args [] p) t := by
  obtain ⟨g, h⟩ := gs h
  obtain ⟨hk, hd⟩ := glob g
  cases q : fnd x tbl with
  | some a =>
    rw [q] at h
    obtain ⟨ts, h1, rfl⟩ := ms h
    obtain ⟨s1, p1⟩ := lstE_ok ok hr h1
    obtain ⟨m1, m2⟩ := T.tbl x a (fnd_mem q)
    exact sound_call T.B ok m2 hk hd m1 rfl p1 s1
  | none =>
    rw [q] at h
    obtain ⟨c, h1, h⟩ := bs h
    obtain ⟨e, h2, h⟩ := bs h
    obtain ⟨a, h3, rfl⟩ := ms h
    obtain ⟨s1, p1⟩ := hr h3
    have m := fnd_mem h1
    rw [one_eq h2]
    have m' : ∀ v, (x, v) ∈ bls → mg x = none ∧ mb x = some v := fun v => T.bls x v
    unfold ones at m
    simp only [List.mem_cons, Prod.mk.injEq, List.not_mem_nil, or_false] at m
    rcases m with ⟨rfl, rfl⟩ | ⟨rfl, rfl⟩ | ⟨rfl, rfl⟩ | ⟨rfl, rfl⟩ | ⟨rfl, rfl⟩
    · have := m' _ (.head _)
      exact sound_len T.B ok hk hd this.1 this.2 (p1.star _ _) s1
    · have := m' _ (.tail _ (.head _))
      exact sound_ord T.B ok hk hd this.1 this.2 (p1.star _ _) s1
    · have := m' _ (.tail _ (.tail _ (.head _)))
      exact sound_chr T.B ok hk hd this.1 this.2 (p1.star _ _) s1
    · have := m' _ (.tail _ (.tail _ (.tail _ (.head _))))
      exact sound_tuple T.B ok hk hd this.1 this.2 (p1.star _ _) s1
    · have := m' _ (.tail _ (.tail _ (.tail _ (.tail _ (.head _)))))
      exact sound_sum T.B ok hk hd this.1 this.2 (p1.star _ _) s1

theorem callM_ok (ok : EnvOk env names) (hr : ∀ {b e t}, r b e = some t → SoundX prog w base names env b e t ∧ Plain e) {o : Expr} {at_ : Str} {args : List Expr} {a t : E} {ap p : Pos} (hb : ∀ a env w, attributeBase o a env w = w) (hp : (ap.endLine == p.line) = true)
    (ho : SoundE prog w base 33 env names fnA o a) (h : callM r a at_ args = some t) : SoundE prog w base 33 env names fnA (.Call (.Attribute o at_ ap) args [] p) t := by
  unfold callM at h
  cases q1 : eqS at_ "find" with
  | true =>
    rw [q1] at h
    obtain rfl := eqS_eq q1
    cases q : one args with
    | some e =>
      rw [cond_true, q] at h
      obtain ⟨b, h1, rfl⟩ := ms h
      obtain ⟨s1, p1⟩ := hr h1
      rw [one_eq q]
      exact sound_find ok (hb _ _ _) (p1.star _ _) hp ho s1
    | none =>
      rw [cond_true, q] at h
      obtain ⟨e, h0, h⟩ := bs h
      obtain ⟨b, h1, h⟩ := bs h
      obtain ⟨c, h2, rfl⟩ := ms h
      obtain ⟨s1, p1⟩ := hr h1
      obtain ⟨s2, p2⟩ := hr h2
      rw [twoL_eq h0]
      exact sound_find2 ok (hb _ _ _) ((p1.star _ _).trans (congrArg _ (p2.star _ _))) hp ho s1 s2
  | false =>
    rw [q1, cond_false] at h
    cases q2 : eqS at_ "append" with
    | true =>
      rw [q2, cond_true] at h
      obtain rfl := eqS_eq q2
      obtain ⟨e, h0, h⟩ := bs h
      obtain ⟨b, h1, rfl⟩ := ms h
      obtain ⟨s1, p1⟩ := hr h1
      rw [one_eq h0]
      exact sound_append ok (hb _ _ _) (p1.star _ _) hp ho s1
    | false =>
      rw [q2, cond_false] at h
      obtain ⟨g, h⟩ := gs h
      cases h
      have g := (Bool.and_eq_true _ _).mp g
      obtain rfl := eqS_eq g.1
      rw [List.isEmpty_iff.mp g.2]
      exact sound_pop ok (hb _ _ _) hp ho

theorem callE_ok (T : TopOk prog w base mg mb) (ok : EnvOk env names) (hr : ∀ {b e t}, r b e = some t → SoundX prog w base names env b e t ∧ Plain e) {f : Expr} {args : List Expr} {t : E} {p : Pos} (h : callE env r f args p = some t) : SoundE prog w base 33 env names fnA (.Call f args [] p) t := by
  unfold callE at h
  cases q : nameOf f with
  | some x =>
    rw [q] at h
    obtain ⟨np, rfl⟩ := nameOf_eq q
    exact callN_ok T ok hr h
  | none =>
    rw [q] at h
    obtain ⟨q', h1, h⟩ := bs h
    obtain ⟨g, h⟩ := gs h
    obtain ⟨a, h2, h⟩ := bs h
    have g := (Bool.and_eq_true _ _).mp g
    rw [attrOf_eq h1]
    exact callM_ok ok hr (base_of g.1) g.2 (hr h2).1 h

theorem pairE_ok (ok : EnvOk env names) (hr : ∀ {b e t}, r b e = some t → SoundX prog w base names env b e t ∧ Plain e) : ∀ {ks : List (Option Expr)} {vs : List Expr} {q : List (List Nat) × Es}, pairE r ks vs = some q → SoundPs prog w base 33 env names fnA ks vs q.1 q.2
  | [], vs, q, h => by
    obtain ⟨g, h⟩ := gs h
    cases h
    rw [List.isEmpty_iff.mp g]
    exact pairs_nil
  | k :: ks, [], q, h => nn h
  | k :: ks, v :: vs, q, h => by
    obtain ⟨x, h0, h⟩ := bs h
    obtain ⟨a, h1, h⟩ := bs h
    obtain ⟨q', h2, rfl⟩ := ms h
    cases k with
    | none => exact nn h0
    | some e =>
      obtain ⟨c, h3, h4⟩ := bs h0
      obtain ⟨y, h5, rfl⟩ := ms h4
      obtain ⟨k', p', rfl⟩ := cstOf_eq h3
      obtain rfl := strOf_eq h5
      exact pairs_cons ok rfl (hr h1).1 (pairE_ok ok hr h2)

theorem stepE_ok (T : TopOk prog w base mg mb) (ok : EnvOk env names) (hr : ∀ {b e t}, r b e = some t → SoundX prog w base names env b e t ∧ Plain e) {b : Bool} {e : Expr} {t : E} (h : stepE names env r b e = some t) : SoundX prog w base names env b e t := by
  cases e with
  | Constant c k p => exact sx (cstE_ok h) rfl
  | Name x p =>
    obtain ⟨i, h1, rfl⟩ := ms h
    exact sx (sound_loc ok (ixOf_get h1)) rfl
  | BinOp l o x p =>
    obtain ⟨op, h0, h⟩ := bs h
    obtain ⟨a, h1, h⟩ := bs h
    obtain ⟨c, h2, rfl⟩ := ms h
    exact sx (sound_bin T.B ok (opB_ok h0) (hr h1).1 (hr h2).1) rfl
  | UnaryOp o x p =>
    cases o with
    | Not =>
      obtain ⟨a, h1, rfl⟩ := ms h
      cases b
      · exact sound_not (hr h1).1
      · exact test_not (hr h1).1
    | USub =>
      obtain ⟨g, h⟩ := gs h
      obtain ⟨c, h1, h⟩ := bs h
      obtain ⟨i, h2, rfl⟩ := ms h
      obtain ⟨k', p', rfl⟩ := cstOf_eq h1
      obtain rfl := intOf_eq h2
      cases b
      · exact sound_neg
      · exact Bool.noConfusion g
    | Invert => exact nn h
    | UAdd => exact nn h
  | Compare l ops es p =>
    obtain ⟨a, h1, h⟩ := bs h
    exact cmpE_ok ok hr (hr h1).1 h b
  | BoolOp op es p =>
    cases b
    · exact sound_boolop (boolE_false hr h)
    · exact test_bool (boolE_true hr h)
  | IfExp c x y p =>
    obtain ⟨g, h⟩ := gs h
    obtain ⟨t', h1, h⟩ := bs h
    obtain ⟨u, h2, h⟩ := bs h
    obtain ⟨v, h3, rfl⟩ := ms h
    cases b
    · exact sound_ite (hr h1).1 (hr h2).1 (hr h3).1
    · exact Bool.noConfusion g
  | Subscript v s p =>
    obtain ⟨a, h1, h⟩ := bs h
    exact sx (subE_ok ok hr (hr h1).1 h) rfl
  | Tuple es k p =>
    obtain ⟨a, h1, rfl⟩ := ms h
    exact sx (sound_tup (lstE_ok ok hr h1).1) rfl
  | List es p =>
    obtain ⟨a, h1, rfl⟩ := ms h
    exact sx (sound_list (lstE_ok ok hr h1).1) rfl
  | Dict ks vs p =>
    obtain ⟨q, h1, h⟩ := bs h
    obtain ⟨g, h⟩ := gs h
    cases h
    have g := (Bool.and_eq_true _ _).mp g
    have g1 := (Bool.and_eq_true _ _).mp g.1
    exact sx (sound_dict ok (pairE_ok ok hr h1) (fun z => by rw [z] at g1; exact Bool.noConfusion g1.1) (of_decide_eq_true g1.2) (of_decide_eq_true g.2)) rfl
  | Call f args kws p =>
    obtain ⟨g, h⟩ := gs h
    obtain rfl := List.isEmpty_iff.mp g
    exact sx (callE_ok T ok hr h) rfl
  | _ => exact nn h

theorem tX_ok (T : TopOk prog w base mg mb) (ok : EnvOk env names) : ∀ {n : Nat} {b : Bool} {e : Expr} {t : E}, tX names env n b e = some t → SoundX prog w base names env b e t ∧ Plain e
  | 0, b, e, t, h => nn h
  | n + 1, b, e, t, h => by
    obtain ⟨g, h⟩ := gs h
    exact ⟨stepE_ok T ok (tX_ok T ok) h, plain_of g⟩
end
end
section
open PySem PySem.Calls PySem.W

section
variable (names : List Str) (env : Env)
noncomputable def tE : Expr → Option E := tX names env 30 false
noncomputable def tB : Expr → Option E := tX names env 30 true
noncomputable def tN : List Expr → Option (List Nat)
  | [] => some []
  | e :: es => (nameOf e).bind fun x => (ixOf x names).bind fun i => (tN es).map (i :: ·)
noncomputable def xsOn (line : Nat) : List Expr → Option (List Str)
  | [] => some []
  | e :: es => (nameOf e).bind fun x => gd (e.pos.line == line) ((xsOn line es).map (x :: ·))
noncomputable def swapOk (es vs : List Expr) (xs : List Str) : Bool := (es.length == 2 || es.length == 3) && !(vs.length != es.length) && vs.all plainE && !(xs.eraseDups.length != xs.length) && !vs.all (foldedForSure 8) && !vs.all (constantsAlone 8)
noncomputable def swE (is : List Nat) (es vs : List Expr) (c : E) : Option S := (xsOn ((es.head?.map (·.pos.line)).getD 0) es).bind fun xs => gd (swapOk es vs xs) (some (.asgsR is c))
noncomputable def asgE (t v : Expr) : Option S := (tE names env v).bind fun c => match nameOf t with
  | some x => (ixOf x names).map fun i => .asg i c
  | none => match subOf t with
    | some q => (tE names env q.1).bind fun a => (tE names env q.2).map fun b => .setSub a b c
    | none => (tupOf t).bind fun es => match tN names es with
      | some is => (match tupOf v with
        | some vs => swE is es vs c
        | none => some (.asgs is c))
      | none => (twoL es).bind fun e => (subOf e.1).bind fun p => (subOf e.2).bind fun q => (tE names env p.1).bind fun a => (tE names env p.2).bind fun b => (tE names env q.1).bind fun a' => (tE names env q.2).map fun b' => .setSub2 a b a' b' c
noncomputable def augE (t : Expr) (op : BOp) (c : E) : Option S := match nameOf t with
  | some x => (ixOf x names).map fun i => .aug i op c
  | none => (subOf t).bind fun q => (tE names env q.1).bind fun a => (tE names env q.2).map fun b => .augSub a b op c
noncomputable def tgE (t : Expr) : Option (List Nat) := match nameOf t with
  | some x => (ixOf x names).map fun i => [i]
  | none => (tupOf t).bind fun es => (tN names es).bind fun is => gd (decide (2 ≤ is.length)) (some is)
noncomputable def forE' (t e : Expr) (u : S) : Option S := match tE names env e with
  | some c => (tgE names t).map fun is => .forE is c u
  | none => (callOf e).bind fun q => (nameOf q.1).bind fun x => gd (eqS x "range" && isGlob env x && q.2.2.isEmpty) ((three q.2.1).bind fun l =>
      (nameOf t).bind fun y => (ixOf y names).bind fun i => (tE names env l.1).bind fun a => (tE names env l.2.1).bind fun b => (tE names env l.2.2).map fun c => .forR i a b c u)
noncomputable def failE (e : Expr) : Option S := (callOf e).bind fun q => (nameOf q.1).bind fun x => gd (eqS x "error" && isGlob env x && q.2.2.isEmpty) ((one q.2.1).bind fun l => (cstOf l).bind fun c => (strOf c).map fun m => .fail m.cps.toList)
noncomputable def retE : Option Expr → Option S
  | none => some (.ret (.cst .none))
  | some e => (tE names env e).map .ret
variable (r : List Stmt → Option S)
noncomputable def step1 : Stmt → Option S
  | .Expr e _ => (tE names env e).map .expr
  | .Return v _ => retE names env v
  | .Break _ => some .brk
  | .If c a b _ => (tB names env c).bind fun t => (r a).bind fun u => (r b).map fun v => .ite t u v
  | .While c b els _ => gd els.isEmpty ((tB names env c).bind fun t => (r b).map fun u => .whl t u)
  | .AugAssign t o v _ => (opA o).bind fun op => (tE names env v).bind fun c => augE names env t op c
  | .Assign ts v _ => (one ts).bind fun t => asgE names env t v
  | .For t e b els _ => gd els.isEmpty ((r b).bind fun u => forE' names env t e u)
  | .Raise e c _ => gd c.isNone (e.bind fun e => failE env e)
  | _ => none
noncomputable def tSs : Nat → List Stmt → Option S
  | 0 => fun _ => none
  | n + 1 => fun l => match l with
    | [] => some .skip
    | s :: l => (step1 names env (tSs n) s).bind fun a => bif l.isEmpty then some a else (tSs n l).map fun b => .seq a b
end

section
variable {prog : Program} {w : World} {base : Heap} {mg mb : Str → Option Value} {names : List Str} {env : Env}

theorem tE_ok (T : TopOk prog w base mg mb) (ok : EnvOk env names) {e : Expr} {t : E} (h : tE names env e = some t) : SoundE prog w base 33 env names fnA e t ∧ Plain e := tX_ok T ok h
theorem tB_ok (T : TopOk prog w base mg mb) (ok : EnvOk env names) {e : Expr} {t : E} (h : tB names env e = some t) : SoundB prog w base 33 env names fnA e t := (tX_ok T ok h).1
theorem sole {t v : Expr} (p : Plain v) {l : Nat} : swapsWithSole [t] v l env = pure false := p.swaps _ _ _

theorem tN_ok : ∀ {es : List Expr} {is : List Nat}, tN names es = some is → TgtOk names es is
  | [], _, h => by cases h; exact .nil
  | e :: es, is, h => by
    obtain ⟨x, h1, h⟩ := bs h
    obtain ⟨i, h2, h⟩ := bs h
    obtain ⟨js, h3, rfl⟩ := ms h
    obtain ⟨p, rfl⟩ := nameOf_eq h1
    exact .cons (ixOf_get h2) (tN_ok h3)

theorem xsOn_ok {line : Nat} : ∀ {es : List Expr} {is : List Nat} {xs : List Str}, tN names es = some is → xsOn line es = some xs → NamesAre names xs is ∧ xs.length = is.length ∧ xs.length = es.length ∧
    (EnvOk env names → (es.filterMap fun
      | .Name id pos => if env.kindOf id == some .local && pos.line == line then some id else none
      | _ => none) = xs)
  | [], _, _, h, h' => by cases h; cases h'; exact ⟨trivial, rfl, rfl, fun _ => rfl⟩
  | e :: es, is, xs, h, h' => by
    obtain ⟨x, h1, h⟩ := bs h
    obtain ⟨i, h2, h⟩ := bs h
    obtain ⟨js, h3, rfl⟩ := ms h
    obtain ⟨x', h1', h'⟩ := bs h'
    obtain ⟨g, h'⟩ := gs h'
    obtain ⟨ys, h3', rfl⟩ := ms h'
    obtain ⟨p, rfl⟩ := nameOf_eq h1
    cases h1'
    cases h1
    obtain ⟨a, b, c, d⟩ := xsOn_ok h3 h3'
    refine ⟨⟨ixOf_get h2, a⟩, congrArg (· + 1) b, congrArg (· + 1) c, fun ok => ?_⟩
    have hk : env.kindOf x = some .local := ok.loc _ _ (ixOf_get h2)
    have g' : (p.line == line) = true := g
    rw [List.filterMap_cons]
    simp only [hk, g', beq_self_eq_true, Bool.and_self, if_true]
    rw [d ok]

theorem NamesAre.append : ∀ {xs ys : List Str} {is js : List Nat}, NamesAre names xs is → NamesAre names ys js → NamesAre names (xs ++ ys) (is ++ js)
  | [], _, [], _, _, h => h
  | _ :: _, _, _ :: _, _, h1, h => ⟨h1.1, NamesAre.append h1.2 h⟩
theorem NamesAre.reverse : ∀ {xs : List Str} {is : List Nat}, NamesAre names xs is → NamesAre names xs.reverse is.reverse
  | [], [], _ => trivial
  | x :: xs, i :: is, h => by
    rw [List.reverse_cons, List.reverse_cons]
    exact NamesAre.append (NamesAre.reverse h.2) ⟨h.1, trivial⟩

theorem noStarL : ∀ {vs : List Expr}, vs.all plainE = true → (vs.any fun | .Starred .. => true | _ => false) = false
  | [], _ => rfl
  | v :: vs, h => by
    have h := (Bool.and_eq_true _ _).mp h
    rw [List.any_cons, noStarL h.2]
    cases v <;> first | rfl | exact Bool.noConfusion h.1

theorem bf {b : Bool} (h : (!b) = true) : b = false := (Bool.not_eq_true' b).mp h

theorem swE_ok (T : TopOk prog w base mg mb) (ok : EnvOk env names) {is : List Nat} {es vs : List Expr} {c : E} {u : S} {k k' : Nat} {p p' pos : Pos} (hn : tN names es = some is) (hv : SoundE prog w base 33 env names fnA (.Tuple vs k' p') c) (pl : Plain (.Tuple vs k' p')) (h : swE is es vs c = some u) :
    Sound1 prog w base 33 env names fnA (.Assign [.Tuple es k p] (.Tuple vs k' p') pos) u := by
  obtain ⟨xs, h1, h⟩ := bs h
  obtain ⟨g, h⟩ := gs h
  cases h
  obtain ⟨a, b, c, d⟩ := xsOn_ok (env := env) hn h1
  have g := (Bool.and_eq_true _ _).mp g
  have g1 := (Bool.and_eq_true _ _).mp g.1
  have g2 := (Bool.and_eq_true _ _).mp g1.1
  have g3 := (Bool.and_eq_true _ _).mp g2.1
  have g4 := (Bool.and_eq_true _ _).mp g3.1
  refine sound_asgsR ok a.reverse b hv (sole pl) ?_
  unfold swappedStores
  have hb : (env.blockKind != .function) = false := by
    unfold Env.blockKind; rw [ok.kind]; rfl
  have hx : ∀ ys : List Str, ys = xs → (ys.length != es.length || ys.eraseDups.length != ys.length) = false := by
    rintro _ rfl
    rw [bf g2.2, c]
    simp
  have n4 := bf g4.2
  simp only [g4.1, n4, hb, bf g1.2, bf g.2, Bool.not_true, Bool.or_false, Bool.false_eq_true, if_false]
  refine (if_neg (ne_true_of_eq_false (noStarL g3.2))).trans ((if_neg (ne_true_of_eq_false (hx _ (d ok)))).trans ?_)
  exact congrArg (fun l => (pure (some l) : Sem (Option (List Str)))) (d ok)

theorem swap_plain {es : List Expr} {k : Nat} {p : Pos} {v : Expr} (h : tupOf v = none) : swappedStores [.Tuple es k p] v env = pure none := by
  cases v <;> first | rfl | exact nomatch h
theorem swap_subs {a b c d v : Expr} {p q r : Pos} {k : Nat} : swappedStores [.Tuple [.Subscript a b p, .Subscript c d q] k r] v env = pure none := by
  cases z : tupOf v with
  | none => exact swap_plain z
  | some es =>
    obtain ⟨k', p', rfl⟩ := tupOf_eq z
    unfold swappedStores
    dsimp only
    split
    · rfl
    · split <;> rfl
theorem asgE_ok (T : TopOk prog w base mg mb) (ok : EnvOk env names) {t v : Expr} {u : S} {pos : Pos} (h : asgE names env t v = some u) : Sound1 prog w base 33 env names fnA (.Assign [t] v pos) u := by
  obtain ⟨c, h0, h⟩ := bs h
  obtain ⟨s0, p0⟩ := tE_ok T ok h0
  cases q1 : nameOf t with
  | some x =>
    rw [q1] at h
    obtain ⟨i, h1, rfl⟩ := ms h
    obtain ⟨p, rfl⟩ := nameOf_eq q1
    exact sound_asg ok (ixOf_get h1) (p0.swaps _ _ _) s0
  | none =>
    rw [q1] at h
    cases q2 : subOf t with
    | some q =>
      rw [q2] at h
      obtain ⟨a, h1, h⟩ := bs h
      obtain ⟨b, h2, rfl⟩ := ms h
      obtain ⟨p, rfl⟩ := subOf_eq q2
      exact sound_setSub ok (p0.swaps _ _ _) (tE_ok T ok h1).1 (tE_ok T ok h2).1 s0
    | none =>
      rw [q2] at h
      obtain ⟨es, h1, h'⟩ := bs h
      clear h
      obtain ⟨k, p, rfl⟩ := tupOf_eq h1
      have h := h'
      clear h'
      cases q3 : tN names es with
      | some is =>
        rw [q3] at h
        cases q4 : tupOf v with
        | some vs =>
          rw [q4] at h
          have hh : swE is es vs c = some u := h
          obtain ⟨k', p', rfl⟩ := tupOf_eq q4
          exact swE_ok T ok q3 s0 p0 hh
        | none =>
          rw [q4] at h
          cases h
          exact sound_asgs ok (tN_ok q3) s0 (sole p0) (swap_plain q4)
      | none =>
        rw [q3] at h
        obtain ⟨e, h2, h⟩ := bs h
        obtain ⟨p1, h3, h⟩ := bs h
        obtain ⟨p2, h4, h⟩ := bs h
        obtain ⟨a, h5, h⟩ := bs h
        obtain ⟨b, h6, h⟩ := bs h
        obtain ⟨a', h7, h⟩ := bs h
        obtain ⟨b', h8, rfl⟩ := ms h
        obtain ⟨z1, e1⟩ := subOf_eq h3
        obtain ⟨z2, e2⟩ := subOf_eq h4
        rw [twoL_eq h2, e1, e2]
        exact sound_setSub2 ok (sole p0) swap_subs (tE_ok T ok h5).1 (tE_ok T ok h6).1 (tE_ok T ok h7).1 (tE_ok T ok h8).1 s0

theorem augE_ok (T : TopOk prog w base mg mb) (ok : EnvOk env names) {t v : Expr} {op : BOp} {o : Operator} {c : E} {u : S} {pos : Pos} (ho : opA o = some op) (hv : tE names env v = some c) (h : augE names env t op c = some u) : Sound1 prog w base 33 env names fnA (.AugAssign t o v pos) u := by
  unfold augE at h
  cases q1 : nameOf t with
  | some x =>
    rw [q1] at h
    obtain ⟨i, h1, rfl⟩ := ms h
    obtain ⟨p, rfl⟩ := nameOf_eq q1
    exact sound_aug ok (ixOf_get h1) (opA_ok ho) (tE_ok T ok hv).1
  | none =>
    rw [q1] at h
    obtain ⟨q, h1, h⟩ := bs h
    obtain ⟨a, h2, h⟩ := bs h
    obtain ⟨b, h3, rfl⟩ := ms h
    obtain ⟨p, rfl⟩ := subOf_eq h1
    exact sound_augSub ok (opA_ok ho) (tE_ok T ok h3).2.aug (tE_ok T ok h2).1 (tE_ok T ok h3).1 (tE_ok T ok hv).1

theorem tgE_ok {t : Expr} {is : List Nat} (h : tgE names t = some is) : TgtFor names t is := by
  unfold tgE at h
  cases q1 : nameOf t with
  | some x =>
    rw [q1] at h
    obtain ⟨i, h1, rfl⟩ := ms h
    obtain ⟨p, rfl⟩ := nameOf_eq q1
    exact .one (ixOf_get h1)
  | none =>
    rw [q1] at h
    obtain ⟨es, h1, h'⟩ := bs h
    obtain ⟨js, h2, h''⟩ := bs h'
    obtain ⟨g, h3⟩ := gs h''
    cases h3
    clear h h' h''
    obtain ⟨k, p, rfl⟩ := tupOf_eq h1
    match is, g, tN_ok h2 with
    | [], g, _ => exact Bool.noConfusion g
    | [_], g, _ => exact Bool.noConfusion g
    | i :: j :: is, _, z => exact .more z

theorem forE_ok (T : TopOk prog w base mg mb) (ok : EnvOk env names) {t e : Expr} {b : List Stmt} {u v : S} {pos : Pos} (hb : SoundS prog w base 33 env names fnA b u) (h : forE' names env t e u = some v) : Sound1 prog w base 33 env names fnA (.For t e b [] pos) v := by
  unfold forE' at h
  cases q : tE names env e with
  | some c =>
    rw [q] at h
    obtain ⟨is, h1, rfl⟩ := ms h
    obtain ⟨s, p⟩ := tE_ok T ok q
    exact sound_forE ok (fun x => p.fold _ x) (tgE_ok h1) s hb
  | none =>
    rw [q] at h
    obtain ⟨q', h1, h⟩ := bs h
    obtain ⟨x, h2, h⟩ := bs h
    obtain ⟨g, h⟩ := gs h
    obtain ⟨l, h3, h⟩ := bs h
    obtain ⟨y, h4, h⟩ := bs h
    obtain ⟨i, h5, h⟩ := bs h
    obtain ⟨a, h6, h⟩ := bs h
    obtain ⟨b', h7, h⟩ := bs h
    obtain ⟨c, h8, rfl⟩ := ms h
    obtain ⟨z1, rfl⟩ := callOf_eq h1
    obtain ⟨z2, e2⟩ := nameOf_eq h2
    obtain ⟨z3, rfl⟩ := nameOf_eq h4
    have g := (Bool.and_eq_true _ _).mp g
    have g1 := (Bool.and_eq_true _ _).mp g.1
    obtain rfl := eqS_eq g1.1
    obtain ⟨hk, hd⟩ := glob g1.2
    obtain ⟨s1, p1⟩ := tE_ok T ok h6
    obtain ⟨s2, p2⟩ := tE_ok T ok h7
    obtain ⟨s3, p3⟩ := tE_ok T ok h8
    have tr := T.bls _ (.type "range") (.tail _ (.tail _ (.tail _ (.tail _ (.tail _ (.head _))))))
    rw [e2, List.isEmpty_iff.mp g.2, three_eq h3]
    exact sound_forR T.B ok hk hd tr.1 tr.2 (p1.star _ _) ((p2.star _ _).trans (congrArg _ (p3.star _ _))) (ixOf_get h5) s1 s2 s3 hb

theorem failE_ok (F : FailOk prog w base) (ok : EnvOk env names) {e : Expr} {u : S} {pos : Pos} (h : failE env e = some u) : Sound1 prog w base 33 env names fnA (.Raise (some e) none pos) u := by
  obtain ⟨q', h1, h⟩ := bs h
  obtain ⟨x, h2, h⟩ := bs h
  obtain ⟨g, h⟩ := gs h
  obtain ⟨l, h3, h⟩ := bs h
  obtain ⟨c, h4, h⟩ := bs h
  obtain ⟨m, h5, rfl⟩ := ms h
  obtain ⟨z1, rfl⟩ := callOf_eq h1
  obtain ⟨z2, e2⟩ := nameOf_eq h2
  obtain ⟨k, z3, rfl⟩ := cstOf_eq h4
  have g := (Bool.and_eq_true _ _).mp g
  have g1 := (Bool.and_eq_true _ _).mp g.1
  rw [e2, List.isEmpty_iff.mp g.2, one_eq h3, strOf_eq h5]
  exact F ok (eqS_eq g1.1) rfl (glob g1.2).1

theorem step1_ok (T : TopOk prog w base mg mb) (F : FailOk prog w base) (ok : EnvOk env names) {r : List Stmt → Option S} (hr : ∀ {l u}, r l = some u → SoundS prog w base 33 env names fnA l u) {s : Stmt} {u : S} (h : step1 names env r s = some u) : Sound1 prog w base 33 env names fnA s u := by
  cases s with
  | Expr e p =>
    obtain ⟨t, h1, rfl⟩ := ms h
    obtain ⟨s1, p1⟩ := tE_ok T ok h1
    exact sound_expr ok (p1.swaps _ _ _) s1
  | Return v p =>
    cases v with
    | none => cases h; exact sound_ret0
    | some e =>
      obtain ⟨t, h1, rfl⟩ := ms h
      exact sound_ret (tE_ok T ok h1).1
  | Break p => cases h; exact sound_brk
  | If c a b p =>
    obtain ⟨t, h1, h⟩ := bs h
    obtain ⟨u, h2, h⟩ := bs h
    obtain ⟨v, h3, rfl⟩ := ms h
    exact sound_if (tB_ok T ok h1) (hr h2) (hr h3)
  | While c b els p =>
    obtain ⟨g, h⟩ := gs h
    obtain rfl := List.isEmpty_iff.mp g
    obtain ⟨t, h1, h⟩ := bs h
    obtain ⟨u, h2, rfl⟩ := ms h
    exact sound_whl ok (tB_ok T ok h1) (hr h2)
  | AugAssign t o v p =>
    obtain ⟨op, h1, h⟩ := bs h
    obtain ⟨c, h2, h⟩ := bs h
    exact augE_ok T ok h1 h2 h
  | Assign ts v p =>
    obtain ⟨t, h1, h⟩ := bs h
    rw [one_eq h1]
    exact asgE_ok T ok h
  | For t e b els p =>
    obtain ⟨g, h⟩ := gs h
    obtain rfl := List.isEmpty_iff.mp g
    obtain ⟨u, h1, h⟩ := bs h
    exact forE_ok T ok (hr h1) h
  | Raise e c p =>
    obtain ⟨g, h⟩ := gs h
    obtain rfl := Option.isNone_iff_eq_none.mp g
    obtain ⟨e', rfl, h⟩ := bs h
    exact failE_ok F ok h
  | _ => exact nn h

theorem tSs_ok (T : TopOk prog w base mg mb) (F : FailOk prog w base) (ok : EnvOk env names) : ∀ {n : Nat} {l : List Stmt} {u : S}, tSs names env n l = some u → SoundS prog w base 33 env names fnA l u
  | 0, _, _, h => nn h
  | n + 1, [], _, h => by cases h; exact sound_skip
  | n + 1, [s], _, h => by
    obtain ⟨a, h1, h⟩ := bs h
    cases h
    exact sound_one (step1_ok T F ok (tSs_ok T F ok) h1)
  | n + 1, s :: s' :: l, _, h => by
    obtain ⟨a, h1, h⟩ := bs h
    obtain ⟨b, h2, rfl⟩ := ms h
    exact sound_seq (step1_ok T F ok (tSs_ok T F ok) h1) (tSs_ok T F ok h2)
end
end
section
open PySem PySem.Calls PySem.W
section
noncomputable def refOf : Value → Option Addr
  | .ref a => some a
  | _ => none
theorem refOf_eq {v : Value} {a : Addr} (h : refOf v = some a) : v = .ref a := by
  cases v <;> first | exact nn h | (cases h; rfl)
noncomputable def strVOf : Value → Option Str
  | .str q _ => some q
  | _ => none
theorem strVOf_eq {v : Value} {q : Str} (h : strVOf v = some q) : ∃ t, v = .str q t := by
  cases v <;> first | exact nn h | (cases h; exact ⟨_, rfl⟩)
noncomputable def fieldsOf : Data → Option (Array Value)
  | .fields vs => some vs
  | _ => none
theorem fieldsOf_eq {d : Data} {vs : Array Value} (h : fieldsOf d = some vs) : d = .fields vs := by
  cases d <;> first | exact nn h | (cases h; rfl)
noncomputable def codeRecIn (K : Frag) (fd : FuncData) : Option Str := (refOf fd.code).bind fun c => (K.lookup c).bind fun o => (fieldsOf o.data).bind fun vs => (vs[1]?).bind strVOf
theorem codeRec_of {base : Heap} {K : Frag} {fd : FuncData} (hK : K.In base) (h : codeRecIn K fd = some fd.qualname) : base.CodeRec fd.code fd.qualname := by
  obtain ⟨c, h1, h⟩ := bs h
  obtain ⟨o, h2, h⟩ := bs h
  obtain ⟨vs, h3, h⟩ := bs h
  obtain ⟨v, h4, h⟩ := bs h
  obtain ⟨t, rfl⟩ := strVOf_eq h
  exact ⟨c, o, vs, t, refOf_eq h1, hK c o h2, fieldsOf_eq h3, h4⟩
noncomputable def isFn (K : Frag) (a : Addr) : Bool := ((K.lookup a).bind fun o => fnOfD o.data).isSome
theorem isFn_ok {P : Params} {base : Heap} (hK : (kF P).In base) {a : Addr} (h : isFn (kF P) a = true) : ∃ o, base.get? a = some o ∧ o.data = .func (fdAt P a) := by
  obtain ⟨fd, e⟩ := Option.isSome_iff_exists.mp h
  obtain ⟨o, h1, h2⟩ := bs e
  refine ⟨o, hK a o h1, ?_⟩
  unfold fdAt
  rw [e]
  exact fnOfD_eq h2
noncomputable def isB (b : FuncBody) : Bool := match b with
  | .stmts _ => true
  | _ => false
theorem isB_ok {fd : FuncData} (h : isB fd.body = true) : fd.body = .stmts (bodyOf fd) := by
  unfold bodyOf
  cases q : fd.body <;> first | rfl | (rw [q] at h; cases h)
noncomputable def locals (sc : Scope) : List Str := (sc.names.filter fun x => match x.2 with | .local => true | _ => false).map (·.1)
noncomputable def scOk (sc : Scope) (names : List Str) : Bool := decide (sc.kind = .function) && (!sc.isGenerator && (!sc.isCoroutine && ((names.all fun x => decide (sc.names.lookup x = some .local)) && (decide names.Nodup && names.all fun x => !(x == ("__debug__" : Str))))))
structure ScOk (sc : Scope) (names : List Str) : Prop where
  kind : sc.kind = .function
  gen : sc.isGenerator = false
  cor : sc.isCoroutine = false
  loc : ∀ x ∈ names, sc.names.lookup x = some .local
  nodup : names.Nodup
  dbg : ∀ x ∈ names, (x == ("__debug__" : Str)) = false
theorem scOk_ok {sc : Scope} {names : List Str} (h : scOk sc names = true) : ScOk sc names := by
  obtain ⟨a, h⟩ := (Bool.and_eq_true _ _).mp h
  obtain ⟨b, h⟩ := (Bool.and_eq_true _ _).mp h
  obtain ⟨c, h⟩ := (Bool.and_eq_true _ _).mp h
  obtain ⟨d, h⟩ := (Bool.and_eq_true _ _).mp h
  obtain ⟨e, h⟩ := (Bool.and_eq_true _ _).mp h
  exact ⟨of_decide_eq_true a, bf b, bf c, fun x m => of_decide_eq_true (List.all_eq_true.mp d x m), of_decide_eq_true e, fun x m => bf (List.all_eq_true.mp h x m)⟩
noncomputable def cellsOk (sc : Scope) : Bool := sc.names.all fun x => decide (x.2 ≠ .cell)
theorem cells_of {sc : Scope} (h : cellsOk sc = true) : ∀ x ∈ sc.names, x.2 ≠ .cell := fun x m => of_decide_eq_true (List.all_eq_true.mp h x m)
theorem envOk_of {env : Env} {names : List Str} (hf : env.frame = some env.locals) (hg : env.globals = mainGlobals) (hb : env.builtins = builtinsNs) (h : ScOk env.scope names) : EnvOk env names :=
  ⟨hf, h.kind, h.gen, h.cor, fun i x e => h.loc x (List.mem_of_getElem? e), h.nodup, fun i x e => h.dbg x (List.mem_of_getElem? e), hg, hb⟩
noncomputable def dfOk (K : Frag) (fd : FuncData) (names : List Str) (k : Nat) : Bool := scOk fd.scope names && (cellsOk fd.scope && (decide (codeRecIn K fd = some fd.qualname) && (isB fd.body && (decide (fd.globals = mainGlobals) && (decide (fd.builtins = builtinsNs) && decide (k ≤ names.length))))))
end
section
variable {prog : Program} {w : World} {base : Heap} {mg mb : Str → Option Value}
theorem p_gen (T : TopOk prog w base mg mb) {a : Nat} {names : List Str} {u : S} {k nn : Nat} {dx : List D} {ex : List Value} (hi : isFn (kF w.params) a = true) (hd : dfOk (kF w.params) (fdAt w.params a) names (k + dx.length) = true) (hn : names.length = nn)
    (hs : ∀ L, EnvOk (callEnv (fdAt w.params a) L a) names → SoundS prog w base 33 (callEnv (fdAt w.params a) L a) names fnA (bodyOf (fdAt w.params a)) u)
    (hb : ∀ S vs, vs.length = k → peek (kF w.params) S (bindArgs (fdAt w.params a) ⟨vs, []⟩) = some ((names.take (vs ++ ex).length).zip (vs ++ ex)))
    (hex : ∀ h μ, VRs h μ dx ex) {n : Nat} {ds : List D} {cells : List Cell} {P : D → List Cell → Prop} {X : XP} (hl : ds.length = k) (h : wpS (CallOK prog w base 33 fnA n) u (init nn (ds ++ dx) cells) (fun fl σ => P fl.val σ.cells) X) : CallOK prog w base 33 fnA (n + 1) a ds cells P X := by
  subst hn
  obtain ⟨a1, hd⟩ := (Bool.and_eq_true _ _).mp hd
  obtain ⟨a0, hd⟩ := (Bool.and_eq_true _ _).mp hd
  obtain ⟨a2, hd⟩ := (Bool.and_eq_true _ _).mp hd
  obtain ⟨a3, hd⟩ := (Bool.and_eq_true _ _).mp hd
  obtain ⟨a4, hd⟩ := (Bool.and_eq_true _ _).mp hd
  obtain ⟨a5, a6⟩ := (Bool.and_eq_true _ _).mp hd
  have sc := scOk_ok a1
  have ok : ∀ L, EnvOk (callEnv (fdAt w.params a) L a) names := fun L => envOk_of rfl (of_decide_eq_true a4) (of_decide_eq_true a5) sc
  exact call_ok T.B rfl ⟨isFn_ok T.K hi, codeRec_of T.K (of_decide_eq_true a2), ok, cells_of a0, sc.loc, sc.cor, sc.gen, sc.kind, by rw [List.length_append, hl]; exact of_decide_eq_true a6⟩ (isB_ok a3) hex
    (fun s vs hs hv => kp_binds (fun b o z => hs b o (T.K b o z)) (fun S => hb S vs (hv.trans hl))) (fun L => hs L (ok L)) h

theorem p_of (T : TopOk prog w base mg mb) (F : FailOk prog w base) {a : Nat} {u : S} {k nn : Nat} (hi : isFn (kF w.params) a = true) (hd : dfOk (kF w.params) (fdAt w.params a) (locals (fdAt w.params a).scope) k = true) (hn : (locals (fdAt w.params a).scope).length = nn)
    (hs : ∀ L, tSs (locals (fdAt w.params a).scope) (callEnv (fdAt w.params a) L a) 60 (bodyOf (fdAt w.params a)) = some u)
    (hb : ∀ S vs, vs.length = k → peek (kF w.params) S (bindArgs (fdAt w.params a) ⟨vs, []⟩) = some (((locals (fdAt w.params a).scope).take vs.length).zip vs))
    {n : Nat} {ds : List D} {cells : List Cell} {P : D → List Cell → Prop} {X : XP} (hl : ds.length = k) (h : wpS (CallOK prog w base 33 fnA n) u (init nn ds cells) (fun fl σ => P fl.val σ.cells) X) : CallOK prog w base 33 fnA (n + 1) a ds cells P X :=
  p_gen T (dx := []) (ex := []) hi hd hn (fun L ok => tSs_ok T F ok (hs L)) (fun S vs e => by rw [List.append_nil]; exact hb S vs e) (fun _ _ => rfl) hl (by rw [List.append_nil]; exact h)

theorem all0 {F : List Value → Prop} (h : F []) (vs : List Value) (e : vs.length = 0) : F vs := by
  rw [List.length_eq_zero_iff.mp e]; exact h
theorem all1 {F : List Value → Prop} (h : ∀ a, F [a]) (vs : List Value) (e : vs.length = 1) : F vs := by
  obtain ⟨a, rfl⟩ := List.length_eq_one_iff.mp e; exact h a
theorem allC {F : List Value → Prop} {n : Nat} (h : ∀ a vs, vs.length = n → F (a :: vs)) (vs : List Value) (e : vs.length = n + 1) : F vs := by
  cases vs with
  | nil => exact nomatch e
  | cons a vs => exact h a vs (Nat.succ.inj e)
theorem all2 {F : List Value → Prop} (h : ∀ a b, F [a, b]) : ∀ vs, vs.length = 2 → F vs := allC fun a => all1 (F := fun vs => F (a :: vs)) (h a)
theorem all3 {F : List Value → Prop} (h : ∀ a b c, F [a, b, c]) : ∀ vs, vs.length = 3 → F vs := allC fun a => all2 (F := fun vs => F (a :: vs)) (h a)
theorem all4 {F : List Value → Prop} (h : ∀ a b c d, F [a, b, c, d]) : ∀ vs, vs.length = 4 → F vs := allC fun a => all3 (F := fun vs => F (a :: vs)) (h a)
end
end
section
open PySem PySem.Calls PySem.W PyProof.Rows

section
variable {prog : Program} {w : World} {base : Heap} {mg mb : Str → Option Value}

noncomputable def bmE : List Value := [.type "Exception", .type "BaseException", .type "object"]
theorem raised_obj (hK : (kF w.params).In base) : ∃ nm q bs sn sub ab col dd k0 k1 k2 k3 k5, base.get? 33 = some (excClassObj nm q 33 32 bs bmE true sn sub ab col dd k0 k1 k2 k3 k5 "Exception.__new__") :=
  ⟨_, _, _, _, _, _, _, _, _, _, _, _, _, hK 33 _ rfl⟩
theorem raised_ns (hK : (kF w.params).In base) : base.Ns 32 (base.nsMap 32) := by
  refine Heap.Ns.of_isNs ?_
  unfold Heap.isNs
  rw [hK 32 _ rfl]
  kernel_rfl
theorem raised_look (hK : (kF w.params).In base) : base.nsMap 32 "__init__" = some (.ref 30) ∧ base.nsMap 32 "__setattr__" = none ∧ base.nsMap 32 "code" = none ∧ base.nsMap 32 "value" = none ∧ base.nsMap 32 "errorcode" = none ∧ base.nsMap 32 "level" = none ∧
    base.nsMap 32 "ret" = none ∧ base.nsMap 32 "info" = none ∧ base.nsMap 32 "is_noted" = none ∧ base.nsMap 32 "line" = none ∧ base.nsMap 32 "extra" = none := by
  unfold Heap.nsMap
  rw [hK 32 _ rfl]
  refine ⟨?_, ?_, ?_, ?_, ?_, ?_, ?_, ?_, ?_, ?_, ?_⟩ <;> kernel_rfl

noncomputable abbrev excObj (t0 : Addr) : Obj := { cls := .ref 33, data := .fields #[.ref t0, .none, .none, .none, .bool false, .none] }
theorem base_init {A : Around} {R : Result → Shared → Prop} {s : Shared} {e t0 : Addr} {v : Value} (hK : (kF w.params).In s.heap) (he : s.heap.get? e = some (excObj t0))
    (h : ∀ h' t1, h'.get? e = some (excObj t1) → (∀ b o, b ≠ e → s.heap.get? b = some o → h'.get? b = some o) → R (.ok (.ret .none)) { s with heap := h' }) :
    codeAny (model prog w) A (.call (.builtin "Exception.__init__") ⟨[.ref e, v], []⟩) R s := by
  obtain ⟨nm, q, bs, sn, sub, ab, col, dd, k0, k1, k2, k3, k5, hC⟩ := raised_obj hK
  obtain ⟨hp, g, d, t, os⟩ := s
  refine codeAny_call_builtin F.excBase_Exception.init.plain F.excBase_Exception.initEntry (wpAny_check_init_subU F.excBase_Exception .base hC he rfl ?_)
  wp_walk
  have he2 := Heap.get?_push_of_some { cls := .type "tuple", data := .seq #[v] } he
  refine h _ hp.objs.size ?_ fun b o hb ho => ?_
  · exact (Heap.get?_update_self _ he2 rfl).trans rfl
  · exact (Heap.get?_update_other _ _ (Ne.symm hb)).trans (Heap.get?_push_of_some _ ho)

end

section
open PySem.Builtin PySem.Builtin.ObjectAttr
variable {prog : Program} {w : World} {A : Around} {E : Value → Shared → Prop} {h : Heap} {g : Array GenState} {d : Drawn} {t : Nat} {os : OsState}
variable {nm q : Str} {C N x : Addr} {bs bm : List Value} {sn : List Str} {sub : List Value} {ab : Bool} {col : Option Bool} {dd : Option Addr} {k0 k1 k2 k3 k5 : Option Value} {B newId sa owner : String}
  {mN : Str → Option Value} {name : Str} {v : Value}
theorem entry_first {o : Obj} {tk : Tok} {Q : Fin → Shared → Prop} (SF : StoreFacts B bm sa owner)
    (hC : h.get? C = some (excClassObj nm q C N bs bm true sn sub ab col dd k0 k1 k2 k3 k5 newId)) (hn : h.Ns N mN) (hna : mN name = none) (hB : typeLookup (.type B) name = pure none)
    (hx : h.get? x = some o) (hc : o.cls = .ref C) (hnc : ∀ c, o.data ≠ .cls c) (hdn : o.dict = none)
    (hq : ∀ h' tk', h'.get? x = some { o with dict := some h.objs.size } → h'.Ns1 h.objs.size (fun y => if y = name then some v else none) → (∀ b ob, b ≠ x → h.get? b = some ob → h'.get? b = some ob) → Q (.done (.ret .none)) ⟨h', g, d, tk', os⟩) :
    wpAny (model prog w) A (Builtin.«object.__setattr__» ⟨[.ref x, .str name tk, v], []⟩) Q E ⟨h, g, d, t, os⟩ := by
  have hpass := SF.passes (.ref x)
  unfold Builtin.«object.__setattr__»
  repeat (first | rw [refuse_eq] | (rw [refuseLoop_ref, hpass]) | (with_reducible refine wpAny_loadPart_at hx ?_; rw [hc]) | with_reducible refine wpAny_mroOf_exc hC ?_ | (with_reducible refine wpAny_typeLookup_exc hC hn SF.mro hB ?_; rw [hna]) | wp_step)
  rw [hdn, if_neg (by simp [typeHasDict])]
  split
  · rename_i hcd
    cases hcd
  split
  · rename_i c hcd
    exact absurd hcd (hnc c)
  have hx₁ : (h.push { cls := .type "dict", data := .dict #[] }).get? x = some o := Heap.get?_push_of_some _ hx
  have hxs : x ≠ h.objs.size := Nat.ne_of_lt (Heap.lt_size hx)
  refine wpAny_bind (wpAny_alloc' (wpAny_bind (wpAny_update' hx₁ (wpAny_pure ?_))))
  have hgd : ((h.push { cls := .type "dict", data := .dict #[] }).update x fun o => { o with dict := some h.objs.size }).get? h.objs.size = some { cls := .type "dict", data := .dict #[] } :=
    (Heap.get?_update_ne _ _ _ _ hxs.symm).trans (Heap.get?_push_at rfl rfl)
  have hnd : ((h.push { cls := .type "dict", data := .dict #[] }).update x fun o => { o with dict := some h.objs.size }).Ns h.objs.size (fun _ => none) :=
    ⟨_, #[], _, hgd, rfl, fun e he => absurd he (by simp), fun _ => rfl⟩
  show wpAny _ _ (storeInDict h.objs.size (.str name tk) name v) _ _ _
  unfold storeInDict newKeyGuard
  refine wpAny_bind (wpAny_pure (wpAny_bind (wpAny_nsSet1 (Heap.Ns1.of_empty hnd) fun h' hn' hs => ?_)))
  obtain ⟨oD, esD, epD, hoD, hdD, hcD⟩ := hn'.count (Within.cons name v Within.nil)
  refine wpAny_bind (wpAny_lookBehind hoD (by rw [hdD]; exact pastItsLine_dict (Nat.le_trans hcD (by rw [List.length_cons, List.length_nil, sizeLine_eq]; walk_at "om"))) ?_)
  wp_walk
  refine hq h' _ ?_ ?_ (fun b ob hbx hb => ?_)
  · refine (hs.2 x hxs).trans (Heap.get?_update_self _ hx₁ ?_)
    have hfr := (Heap.get?_some_iff.mp hx).2
    obtain ⟨oc, od, odt, osl⟩ := o
    cases odt <;> first | rfl | exact hfr
  · exact hn'
  · exact (hs.2 b (Nat.ne_of_lt (Heap.lt_size hb))).trans ((Heap.get?_update_ne _ _ _ _ hbx).trans (Heap.get?_push_of_some _ hb))
theorem attr_first {o : Obj} {Q : Unit → Shared → Prop} (SF : StoreFacts B bm sa owner)
    (hC : h.get? C = some (excClassObj nm q C N bs bm true sn sub ab col dd k0 k1 k2 k3 k5 newId)) (hn : h.Ns N mN) (hns : mN "__setattr__" = none) (hna : mN name = none) (hB : typeLookup (.type B) name = pure none)
    (hx : h.get? x = some o) (hc : o.cls = .ref C) (hnc : ∀ c, o.data ≠ .cls c) (hdn : o.dict = none)
    (hq : ∀ h' tk', h'.get? x = some { o with dict := some h.objs.size } → h'.Ns1 h.objs.size (fun y => if y = name then some v else none) → (∀ b ob, b ≠ x → h.get? b = some ob → h'.get? b = some ob) → Q () ⟨h', g, d, tk', os⟩) :
    wpAny (model prog w) A (setAttr (.ref x) name v) Q E ⟨h, g, d, t, os⟩ := by
  have f3 := SF.slot.bind (.ref x)
  unfold setAttr callSpecial? specialOf
  repeat (any_goals (first | assumption | (with_reducible refine wpAny_loadPart_at hx ?_; rw [hc]) | (with_reducible refine wpAny_typeLookup_exc hC hn SF.mro SF.slot.lookup ?_; rw [hns]) | wp_step))
  refine codeAny_call_builtin SF.slot.plain SF.entry (wpAny_check_sa SF hC hx hc (entry_first SF hC hn hna hB hx hc hnc hdn (fun h' tk' I' hk hsame => ?_)))
  repeat (any_goals (first | assumption | wp_step))
  exact hq h' tk' I' hk hsame
theorem entry_more {o : Obj} {dx : Addr} {mA : Str → Option Value} {ns : List Str} {tk : Tok} {Q : Fin → Shared → Prop} (SF : StoreFacts B bm sa owner)
    (hC : h.get? C = some (excClassObj nm q C N bs bm true sn sub ab col dd k0 k1 k2 k3 k5 newId)) (hn : h.Ns N mN) (hna : mN name = none) (hB : typeLookup (.type B) name = pure none)
    (hx : h.get? x = some o) (hc : o.cls = .ref C) (hnc : ∀ c, o.data ≠ .cls c) (hdx : o.dict = some dx) (hne : dx ≠ x) (hns : h.Ns1 dx mA) (hw : Within mA ns) (hsz : ns.length ≤ 50)
    (hq : ∀ h' tk', h'.get? x = some o → h'.Ns1 dx (fun y => if y = name then some v else mA y) → (∀ b ob, b ≠ dx → h.get? b = some ob → h'.get? b = some ob) → Q (.done (.ret .none)) ⟨h', g, d, tk', os⟩) :
    wpAny (model prog w) A (Builtin.«object.__setattr__» ⟨[.ref x, .str name tk, v], []⟩) Q E ⟨h, g, d, t, os⟩ := by
  have hpass := SF.passes (.ref x)
  unfold Builtin.«object.__setattr__»
  repeat (first | rw [refuse_eq] | (rw [refuseLoop_ref, hpass]) | (with_reducible refine wpAny_loadPart_at hx ?_; rw [hc]) | with_reducible refine wpAny_mroOf_exc hC ?_ | (with_reducible refine wpAny_typeLookup_exc hC hn SF.mro hB ?_; rw [hna]) | wp_step)
  rw [hdx]
  refine wpAny_pure ?_
  show wpAny _ _ (storeInDict dx (.str name tk) name v) _ _ _
  unfold storeInDict newKeyGuard
  refine wpAny_bind (wpAny_pure (wpAny_bind (wpAny_nsSet1 hns fun h' hn' hs => ?_)))
  obtain ⟨oD, esD, epD, hoD, hdD, hcD⟩ := hn'.count (Within.cons name v hw)
  refine wpAny_bind (wpAny_lookBehind hoD (by rw [hdD]; exact pastItsLine_dict (Nat.le_trans hcD (by rw [List.length_cons, sizeLine_eq]; walk_at "om"))) ?_)
  wp_walk
  exact hq h' _ ((hs.2 x hne.symm).trans hx) hn' (fun b ob hbd hb => (hs.2 b hbd).trans hb)
theorem attr_more {o : Obj} {dx : Addr} {mA : Str → Option Value} {ns : List Str} {Q : Unit → Shared → Prop} (SF : StoreFacts B bm sa owner)
    (hC : h.get? C = some (excClassObj nm q C N bs bm true sn sub ab col dd k0 k1 k2 k3 k5 newId)) (hn : h.Ns N mN) (hns : mN "__setattr__" = none) (hna : mN name = none) (hB : typeLookup (.type B) name = pure none)
    (hx : h.get? x = some o) (hc : o.cls = .ref C) (hnc : ∀ c, o.data ≠ .cls c) (hdx : o.dict = some dx) (hne : dx ≠ x) (hnm : h.Ns1 dx mA) (hw : Within mA ns) (hsz : ns.length ≤ 50)
    (hq : ∀ h' tk', h'.get? x = some o → h'.Ns1 dx (fun y => if y = name then some v else mA y) → (∀ b ob, b ≠ dx → h.get? b = some ob → h'.get? b = some ob) → Q () ⟨h', g, d, tk', os⟩) :
    wpAny (model prog w) A (setAttr (.ref x) name v) Q E ⟨h, g, d, t, os⟩ := by
  have f3 := SF.slot.bind (.ref x)
  unfold setAttr callSpecial? specialOf
  repeat (any_goals (first | assumption | (with_reducible refine wpAny_loadPart_at hx ?_; rw [hc]) | (with_reducible refine wpAny_typeLookup_exc hC hn SF.mro SF.slot.lookup ?_; rw [hns]) | wp_step))
  refine codeAny_call_builtin SF.slot.plain SF.entry (wpAny_check_sa SF hC hx hc (entry_more SF hC hn hna hB hx hc hnc hdx hne hnm hw hsz (fun h' tk' I' hk hsame => ?_)))
  repeat (any_goals (first | assumption | wp_step))
  exact hq h' tk' I' hk hsame
end
end
section
open PySem PySem.Calls PySem.W PyProof.Rows

section
variable {prog : Program} {w : World} {base : Heap} {mg mb : Str → Option Value}

structure Ob (w : World) (h0 h : Heap) (e dx L t1 : Addr) (m mA : Str → Option Value) (ns : List Str) : Prop where
  he : h.get? e = some { excObj t1 with dict := some dx }
  hm : h.Ns1 dx mA
  hl : h.Ns L m
  kp : ∀ b o, b ≠ e → h0.get? b = some o → h.get? b = some o
  fresh : h0.get? dx = none
  lne : L ≠ dx ∧ L ≠ e
  ne : dx ≠ e
  hw : Within mA ns
  K : (kF w.params).In h
  K0 : (kF w.params).In h0

theorem Ob.grow {h0 h h1 : Heap} {e dx L t1 : Addr} {m mA : Str → Option Value} {ns : List Str} (O : Ob w h0 h e dx L t1 m mA ns) (k : ∀ b o, h.get? b = some o → h1.get? b = some o) : Ob w h0 h1 e dx L t1 m mA ns :=
  ⟨k _ _ O.he, O.hm.at fun o => k _ o, let ⟨o, es, ep, e, r⟩ := O.hl; ⟨o, es, ep, k _ _ e, r⟩, fun b o n q => k _ _ (O.kp b o n q), O.fresh, O.lne, O.ne, O.hw, fun b o q => k _ _ (O.K b o q), O.K0⟩

theorem set_more {A : Around} {E : Value → Shared → Prop} {Q : Flow → Shared → Prop} {h0 h : Heap} {g : Array GenState} {d : Drawn} {t : Nat} {os : OsState} {e dx L t1 : Addr} {m mA : Str → Option Value} {ns : List Str} {env : Env} {name : Str} {np ap pos : Pos} {value : Expr} {P : Value → Prop}
    (O : Ob w h0 h e dx L t1 m mA ns) (he33 : e ≠ 33 ∧ e ≠ 32) (hnm : (h.nsMap 32) name = none) (hB : typeLookup (.type "Exception") name = pure none) (hsz : ns.length ≤ 50)
    (hself : ∀ h1 t', h1.Ns L m → ∀ Q' : Value → Shared → Prop, Q' (.ref e) ⟨h1, g, d, t', os⟩ → wpAny (model prog w) A (eval (.Name "self" np) env) Q' E ⟨h1, g, d, t', os⟩)
    (hval : ∀ Q' : Value → Shared → Prop, (∀ v h1 t', (∀ b o, h.get? b = some o → h1.get? b = some o) → P v → Q' v ⟨h1, g, d, t', os⟩) → wpAny (model prog w) A (eval value env) Q' E ⟨h, g, d, t, os⟩)
    (hs : swapsWith value (some (.Attribute (.Name "self" np) name ap)) pos.line env = pure false)
    (k : ∀ v h2 t2, P v → Ob w h0 h2 e dx L t1 m (fun y => if y = name then some v else mA y) (name :: ns) → Q .next ⟨h2, g, d, t2, os⟩) :
    wpAny (model prog w) A (exec (.Assign [.Attribute (.Name "self" np) name ap] value pos) env) Q E ⟨h, g, d, t, os⟩ := by
  refine plainObj_wpAny_Assign_Attribute (hval _ fun v h1 t' k1 hv => hself h1 t' (O.grow k1).hl _ ?_) hs
  have O1 := O.grow k1
  obtain ⟨nm, q, bs, sn, sub, ab, col, dd, k0, k1', k2, k3, k5, hC⟩ := raised_obj O1.K
  have hN := raised_ns O1.K
  have hnm1 : (h1.nsMap 32) name = none := by
    have : h1.nsMap 32 = h.nsMap 32 := by
      unfold Heap.nsMap
      rw [O.K 32 _ rfl, O1.K 32 _ rfl]
    rw [this]; exact hnm
  refine attr_more F.store_Exception hC hN (raised_look O1.K).2.1 hnm1 hB O1.he rfl (fun c q => by cases q) rfl O.ne O1.hm O.hw hsz fun h2 t2 e2 n2 k2' => k v h2 t2 hv ?_
  have kk : ∀ b o, (h0.get? b = some o → b ≠ dx) := fun b o q z => by rw [z, O.fresh] at q; cases q
  refine ⟨e2, n2, ?_, fun b o n q => k2' b o (kk b o q) (O1.kp b o n q), O.fresh, O.lne, O.ne, Within.cons name v O.hw, fun b o q => ?_, O.K0⟩
  · obtain ⟨o, es, ep, e', r⟩ := O1.hl
    exact ⟨o, es, ep, k2' _ _ O.lne.1 e', r⟩
  · exact k2' b o (kk b o (O.K0 b o q)) (O1.K b o q)
theorem set_first {A : Around} {E : Value → Shared → Prop} {Q : Flow → Shared → Prop} {h0 h : Heap} {g : Array GenState} {d : Drawn} {t : Nat} {os : OsState} {e L t1 : Addr} {m : Str → Option Value} {env : Env} {name : Str} {np ap pos : Pos} {value : Expr} {P : Value → Prop}
    (he : h.get? e = some (excObj t1)) (hl : h.Ns L m) (kp : ∀ b o, b ≠ e → h0.get? b = some o → h.get? b = some o) (hLe : L ≠ e) (hK : (kF w.params).In h) (hK0 : (kF w.params).In h0) (hKe : ∀ o, (kF w.params).lookup e = some o → False)
    (hnm : (h.nsMap 32) name = none) (hB : typeLookup (.type "Exception") name = pure none)
    (hself : ∀ h1 t', h1.Ns L m → ∀ Q' : Value → Shared → Prop, Q' (.ref e) ⟨h1, g, d, t', os⟩ → wpAny (model prog w) A (eval (.Name "self" np) env) Q' E ⟨h1, g, d, t', os⟩)
    (hval : ∀ Q' : Value → Shared → Prop, (∀ v h1 t', (∀ b o, h.get? b = some o → h1.get? b = some o) → P v → Q' v ⟨h1, g, d, t', os⟩) → wpAny (model prog w) A (eval value env) Q' E ⟨h, g, d, t, os⟩)
    (hs : swapsWith value (some (.Attribute (.Name "self" np) name ap)) pos.line env = pure false)
    (k : ∀ v h2 t2 dx, P v → Ob w h0 h2 e dx L t1 m (fun y => if y = name then some v else none) [name] → Q .next ⟨h2, g, d, t2, os⟩) :
    wpAny (model prog w) A (exec (.Assign [.Attribute (.Name "self" np) name ap] value pos) env) Q E ⟨h, g, d, t, os⟩ := by
  have hl1 : ∀ h1 : Heap, (∀ b o, h.get? b = some o → h1.get? b = some o) → h1.Ns L m := fun h1 k1 => let ⟨o, es, ep, e, r⟩ := hl; ⟨o, es, ep, k1 _ _ e, r⟩
  refine plainObj_wpAny_Assign_Attribute (hval _ fun v h1 t' k1 hv => hself h1 t' (hl1 h1 k1) _ ?_) hs
  have K1 : (kF w.params).In h1 := fun b o q => k1 _ _ (hK b o q)
  obtain ⟨nm, q, bs, sn, sub, ab, col, dd, k0, k1', k2, k3, k5, hC⟩ := raised_obj K1
  have hN := raised_ns K1
  have hnm1 : (h1.nsMap 32) name = none := by
    have : h1.nsMap 32 = h.nsMap 32 := by
      unfold Heap.nsMap
      rw [hK 32 _ rfl, K1 32 _ rfl]
    rw [this]; exact hnm
  refine attr_first F.store_Exception hC hN (raised_look K1).2.1 hnm1 hB (k1 _ _ he) rfl (fun c q => by cases q) rfl fun h2 t2 e2 n2 k2' => k v h2 t2 h1.objs.size hv ?_
  have e1 : e < h1.objs.size := Heap.lt_size (k1 _ _ he)
  obtain ⟨oL, esL, epL, eL, rL⟩ := hl1 h1 k1
  have L1 : L < h1.objs.size := Heap.lt_size eL
  have fr : h0.get? h1.objs.size = none := by
    cases q : h0.get? h1.objs.size with
    | none => rfl
    | some o => exact absurd (Heap.lt_size (k1 _ _ (kp _ _ (Nat.ne_of_lt e1).symm q))) (Nat.lt_irrefl _)
  refine ⟨e2, n2, ⟨oL, esL, epL, k2' _ _ hLe eL, rL⟩, fun b o n q => k2' b o n (k1 _ _ (kp b o n q)), fr, ⟨Nat.ne_of_lt L1, hLe⟩, (Nat.ne_of_lt e1).symm, Within.cons name v Within.nil, fun b o q => ?_, hK0⟩
  by_cases z : b = e
  · subst z
    exact (hKe o q).elim
  · exact k2' b o z (K1 b o q)
end
end
section
open PySem PySem.Calls PySem.W PyProof.Rows

section
variable {prog : Program} {w : World} {base : Heap} {mg mb : Str → Option Value} {env : Env} {names : List Str}

theorem nm_ok {A : Around} {Q : Value → Shared → Prop} {E : Value → Shared → Prop} {s : Shared} {m : Str → Option Value} {i : Nat} {x : Str} {v : Value} {np : Pos} (ok : EnvOk env names) (hi : names[i]? = some x) (hl : s.heap.Ns env.locals m) (hm : m x = some v) (k : Q v s) :
    wpAny (model prog w) A (eval (.Name x np) env) Q E s := wpAny_Name (wpAny_loadName_local ok.kind (ok.loc i x hi) hl hm k) (ok.dbg i x hi)

theorem init_first {A : Around} {E : Value → Shared → Prop} {Q : Flow → Shared → Prop} {s : Shared} {e t0 : Addr} {m : Str → Option Value} {v : Value} {p0 p1 p2 p3 p4 p5 : Pos} (ok : EnvOk env names) (B : BaseOk prog base mg mb) (hB : base.StaysIn s.heap)
    (hpos : (p1.endLine == p4.line) = true) (kE : env.kindOf "Exception" = some .globalImplicit) (nE : mg "Exception" = none) (bE : mb "Exception" = some (.type "Exception")) {i j : Nat} (hi : names[i]? = some (Str.ofString "self")) (hj : names[j]? = some (Str.ofString "value"))
    (hl : s.heap.Ns env.locals m) (ms : m "self" = some (.ref e)) (mv : m "value" = some v) {hb : Heap} (kb : ∀ b o, hb.get? b = some o → s.heap.get? b = some o) (ab : hb.objs.size ≤ env.locals) (hKb : (kF w.params).In hb) (he : s.heap.get? e = some (excObj t0))
    (k : ∀ h' t1 tk, h'.get? e = some (excObj t1) → (∀ b o, b ≠ e → s.heap.get? b = some o → h'.get? b = some o) → Q .next { s with heap := h', toks := tk }) :
    wpAny (model prog w) A (exec (.Expr (.Call (.Attribute (.Name "Exception" p0) "__init__" p1) [.Name "self" p2, .Name "value" p3] [] p4) p5) env) Q E s := by
  have hin : interactive env = false := by
    unfold interactive; rw [ok.kind]; rfl
  refine wpAny_Expr_any ?_ hin rfl
  refine MethodCall_ (Name_function_global ok.kind kE (loadGlobal_builtin (by rw [ok.globals]; exact B.globals.keeps hB) nE (by rw [ok.builtins]; exact B.builtins.keeps hB) bE ?_) (by decide)) (pl := do return (← importBound (.Name "Exception" p0) env).getD true) ?he
  case he =>
    show (do
      let ov ← eval (.Name "Exception" p0) env
      standAt p1.atName
      methodCall (.Name "Exception" p0) "__init__" p1 p4 env ov 2 (backTo p4 (starEach [.Name "self" p2, .Name "value" p3] env)) (backToKw p4 (keywordEach [] env))) = _
    unfold methodCall methodCallPos
    rw [hpos]
    rfl
  have hK : (kF w.params).In s.heap := fun b o q => kb b o (hKb b o q)
  have Fr0 : Fr hb env.locals s.heap m := ⟨hl, kb, ab⟩
  have F0 : findCls (kF w.params) (.type "Exception") (.type "type") "__init__" = some (.val (.builtin "Exception.__init__")) := by kernel_rfl
  refine method_type Fr0 hKb (by rfl) (by decide +kernel) F0 (by decide +kernel) ?_
  refine PyProof.Rows.callWith_builtin1 (PyProof.Rows.spliced_more (nm_ok ok hi hl ms ?_) rfl) rfl rfl
  refine PyProof.Rows.spliced_more (nm_ok ok hj hl mv ?_) rfl
  refine PyProof.Rows.spliced_none ?_
  refine wpAny_call (base_init (s := { s with toks := s.toks + 1 }) hK he fun h' t1 e' k' => ?_)
  exact k h' t1 _ e' k'
end
end
section
open PySem PySem.Calls PySem.W PyProof.Rows

section
variable {prog : Program} {w : World} {base : Heap} {mg mb : Str → Option Value} {env : Env} {names : List Str}
noncomputable def v_init : List Str := [Str.ofString "self", Str.ofString "code", Str.ofString "value", Str.ofString "errorcode", Str.ofString "level", Str.ofString "ret"]
noncomputable def initL (p0 p1 p2 p3 p4 p5 a0 b0 c0 v0 a1 b1 c1 v1 a2 b2 c2 v2 a3 b3 c3 v3 a4 b4 c4 v4 a5 b5 c5 v5 a6 b6 c6 v6 a7 b7 c7 v7 a8 b8 c8 v8 : Pos) : List Stmt := [.Expr (.Call (.Attribute (.Name "Exception" p0) "__init__" p1) [.Name "self" p2, .Name "value" p3] [] p4) p5,
    .Assign [.Attribute (.Name "self" a0) "code" b0] (.Name "code" v0) c0,
    .Assign [.Attribute (.Name "self" a1) "value" b1] (.Name "value" v1) c1,
    .Assign [.Attribute (.Name "self" a2) "errorcode" b2] (.Name "errorcode" v2) c2,
    .Assign [.Attribute (.Name "self" a3) "level" b3] (.Name "level" v3) c3,
    .Assign [.Attribute (.Name "self" a4) "ret" b4] (.Name "ret" v4) c4,
    .Assign [.Attribute (.Name "self" a5) "info" b5] (.Constant (.str "") 0 v5) c5,
    .Assign [.Attribute (.Name "self" a6) "is_noted" b6] (.Constant (.bool false) 0 v6) c6,
    .Assign [.Attribute (.Name "self" a7) "line" b7] (.Constant (.int 0) 0 v7) c7,
    .Assign [.Attribute (.Name "self" a8) "extra" b8] (.List [] v8) c8]
theorem init_run {A : Around} {E : Value → Shared → Prop} {R : Flow → Shared → Prop} {s : Shared} {e t0 : Addr} {m : Str → Option Value} {vc v ve vl vr : Value} {p0 p1 p2 p3 p4 p5 a0 b0 c0 v0 a1 b1 c1 v1 a2 b2 c2 v2 a3 b3 c3 v3 a4 b4 c4 v4 a5 b5 c5 v5 a6 b6 c6 v6 a7 b7 c7 v7 a8 b8 c8 v8 : Pos} (ok : EnvOk env v_init) (B : BaseOk prog base mg mb) (hB : base.StaysIn s.heap)
    (hpos : (p1.endLine == p4.line) = true) (kE : env.kindOf "Exception" = some .globalImplicit) (nE : mg "Exception" = none) (bE : mb "Exception" = some (.type "Exception"))
    (hl : s.heap.Ns env.locals m) (m0 : m "self" = some (.ref e)) (m1 : m "code" = some vc) (m2 : m "value" = some v) (m3 : m "errorcode" = some ve) (m4 : m "level" = some vl) (m5 : m "ret" = some vr)
    {hb : Heap} (kb : ∀ b o, hb.get? b = some o → s.heap.get? b = some o) (ab : hb.objs.size ≤ env.locals) (hKb : (kF w.params).In hb) (he : s.heap.get? e = some (excObj t0)) (hLe : env.locals ≠ e) (hKe : ∀ o, (kF w.params).lookup e = some o → False)
    (k : ∀ h' dx t1 tk mA, h'.get? e = some { excObj t1 with dict := some dx } → h'.Ns dx mA → mA "value" = some v → s.heap.get? dx = none → (∀ b o, b ≠ e → s.heap.get? b = some o → h'.get? b = some o) → R .next { s with heap := h', toks := tk }) :
    wpAny (model prog w) A (execs (initL p0 p1 p2 p3 p4 p5 a0 b0 c0 v0 a1 b1 c1 v1 a2 b2 c2 v2 a3 b3 c3 v3 a4 b4 c4 v4 a5 b5 c5 v5 a6 b6 c6 v6 a7 b7 c7 v7 a8 b8 c8 v8) env) R E s := by
  unfold initL
  obtain ⟨hp, g, d, t, os⟩ := s
  have hK : (kF w.params).In hp := fun b o q => kb b o (hKb b o q)
  have s0 : v_init[0]? = some (Str.ofString "self") := rfl
  have s2 : v_init[2]? = some (Str.ofString "value") := rfl
  refine wpAny_execs_cons (init_first ok B hB hpos kE nE bE s0 s2 hl m0 m2 kb ab hKb he fun h1 t1 tk1 he1 kp1 => ?_)
  have hK1 : (kF w.params).In h1 := fun b o q => kp1 b o (fun z => hKe o (z ▸ q)) (hK b o q)
  have hl1 : h1.Ns env.locals m := let ⟨o, es, ep, q, r⟩ := hl; ⟨o, es, ep, kp1 _ _ hLe q, r⟩
  have self : ∀ {np : Pos} (h2 : Heap) (t' : Nat), h2.Ns env.locals m → ∀ Q' : Value → Shared → Prop, Q' (.ref e) ⟨h2, g, d, t', os⟩ → wpAny (model prog w) A (eval (.Name "self" np) env) Q' E ⟨h2, g, d, t', os⟩ := fun h2 t' l2 Q' q => nm_ok ok s0 l2 m0 q
  have name : ∀ {i : Nat} {x : Str} {u : Value} {np : Pos} (h2 : Heap) (t' : Nat), v_init[i]? = some x → m x = some u → h2.Ns env.locals m → ∀ Q' : Value → Shared → Prop, (∀ v' h3 t'', (∀ b o, h2.get? b = some o → h3.get? b = some o) → v' = u → Q' v' ⟨h3, g, d, t'', os⟩) → wpAny (model prog w) A (eval (.Name x np) env) Q' E ⟨h2, g, d, t', os⟩ := fun h2 t' hi hm l2 Q' q => nm_ok ok hi l2 hm (q _ _ _ (fun _ _ z => z) rfl)
  have L0 := raised_look hK1
  refine wpAny_execs_cons (set_first (P := fun u => u = vc) he1 hl1 kp1 hLe hK1 hK hKe L0.2.2.1 (by kernel_rfl) self (name _ _ (i := 1) rfl m1 hl1) rfl fun u1 h2 t2 dx q1 O2 => ?_)
  have ne33 : e ≠ 33 := fun z => by subst z; exact hKe _ rfl
  have ne32 : e ≠ 32 := fun z => by subst z; exact hKe _ rfl
  refine wpAny_execs_cons (set_more (P := fun u => u = v) O2 ⟨ne33, ne32⟩ (raised_look O2.K).2.2.2.1 (by kernel_rfl) (by decide) self (name _ _ (i := 2) rfl m2 O2.hl) rfl fun u2 h3 t3 q2 O3 => ?_)
  refine wpAny_execs_cons (set_more (P := fun u => u = ve) O3 ⟨ne33, ne32⟩ (raised_look O3.K).2.2.2.2.1 (by kernel_rfl) (by decide) self (name _ _ (i := 3) rfl m3 O3.hl) rfl fun u3 h4 t4 q3 O4 => ?_)
  refine wpAny_execs_cons (set_more (P := fun u => u = vl) O4 ⟨ne33, ne32⟩ (raised_look O4.K).2.2.2.2.2.1 (by kernel_rfl) (by decide) self (name _ _ (i := 4) rfl m4 O4.hl) rfl fun u4 h5 t5 q4 O5 => ?_)
  refine wpAny_execs_cons (set_more (P := fun u => u = vr) O5 ⟨ne33, ne32⟩ (raised_look O5.K).2.2.2.2.2.2.1 (by kernel_rfl) (by decide) self (name _ _ (i := 5) rfl m5 O5.hl) rfl fun u5 h6 t6 q5 O6 => ?_)
  refine wpAny_execs_cons (set_more (P := fun _ => True) O6 ⟨ne33, ne32⟩ (raised_look O6.K).2.2.2.2.2.2.2.1 (by kernel_rfl) (by decide) self (fun Q' q => ?_) rfl fun u6 h7 t7 q6 O7 => ?_)
  · (repeat (first | exact q _ _ _ (fun _ _ z => z) trivial | exact q _ _ _ (fun _ _ z => Heap.get?_push_of_some _ z) trivial | wp_step))
  refine wpAny_execs_cons (set_more (P := fun _ => True) O7 ⟨ne33, ne32⟩ (raised_look O7.K).2.2.2.2.2.2.2.2.1 (by kernel_rfl) (by decide) self (fun Q' q => ?_) rfl fun u7 h8 t8 q7 O8 => ?_)
  · (repeat (first | exact q _ _ _ (fun _ _ z => z) trivial | exact q _ _ _ (fun _ _ z => Heap.get?_push_of_some _ z) trivial | wp_step))
  refine wpAny_execs_cons (set_more (P := fun _ => True) O8 ⟨ne33, ne32⟩ (raised_look O8.K).2.2.2.2.2.2.2.2.2.1 (by kernel_rfl) (by decide) self (fun Q' q => ?_) rfl fun u8 h9 t9 q8 O9 => ?_)
  · (repeat (first | exact q _ _ _ (fun _ _ z => z) trivial | exact q _ _ _ (fun _ _ z => Heap.get?_push_of_some _ z) trivial | wp_step))
  refine wpAny_execs_cons (set_more (P := fun _ => True) O9 ⟨ne33, ne32⟩ (raised_look O9.K).2.2.2.2.2.2.2.2.2.2 (by kernel_rfl) (by decide) self (fun Q' q => ?_) rfl fun u9 h10 t10 q9 O10 => ?_)
  · (repeat (first | exact q _ _ _ (fun _ _ z => z) trivial | exact q _ _ _ (fun _ _ z => Heap.get?_push_of_some _ z) trivial | wp_step))
  refine wpAny_execs_nil (k _ dx t1 _ _ O10.he O10.hm.ns ?_ O10.fresh O10.kp)
  subst q2
  rfl
end
end
section
open PySem PySem.Calls PySem.W PyProof.Rows

section
variable {prog : Program} {w : World} {base : Heap} {mg mb : Str → Option Value}
theorem sc_init : ScOk (fdAt w.params 30).scope v_init := scOk_ok (by kernel_rfl)
theorem e_init (L : Addr) : EnvOk (callEnv (fdAt w.params 30) L 30) v_init := envOk_of rfl rfl rfl (sc_init (w := w))
theorem init_binds (P : Params) (e vc v ve : Value) : ∃ a b : Value, ∀ x, peek (kF P) x (bindArgs (fdAt P 30) ⟨[e, vc, v, ve], []⟩) = some (v_init.zip [e, vc, v, ve, a, b]) := ⟨_, _, fun _ => rfl⟩
theorem init_call (B : BaseOk prog base mg mb) (KB : (kF w.params).In base) (nE : mg "Exception" = none) (bE : mb "Exception" = some (.type "Exception")) {A : Around} {R : Result → Shared → Prop} {s : Shared} {e t0 : Addr} {vc v ve : Value} (hA : A.depth < 900) (hst : base.StaysIn s.heap) (he : s.heap.get? e = some (excObj t0)) (hbe : base.get? e = none)
    (k : ∀ h' dx t1 tk mA, h'.get? e = some { excObj t1 with dict := some dx } → h'.Ns dx mA → mA "value" = some v → s.heap.get? dx = none → (∀ b o, b ≠ e → s.heap.get? b = some o → h'.get? b = some o) → R (.ok (.ret .none)) { s with heap := h', toks := tk }) :
    codeAny (model prog w) A (.call (.ref 30) ⟨[.ref e, vc, v, ve], []⟩) R s := by
  have hc : base.CodeRec (fdAt w.params 30).code (fdAt w.params 30).qualname := codeRec_of KB (by kernel_rfl)
  have ho : ∃ o, base.get? 30 = some o ∧ o.data = .func (fdAt w.params 30) := isFn_ok KB (by kernel_rfl)
  obtain ⟨o, ho, hd'⟩ := ho
  obtain ⟨i0, i1, hbd⟩ := init_binds w.params (.ref e) vc v ve
  refine codeAny_call_def (body := bodyOf (fdAt w.params 30)) (binds := v_init.zip [.ref e, vc, v, ve, i0, i1]) (by unfold recursionLimit; walk_at "om") (hst _ _ ho) hd' (B.nolimit.keeps hst) ?_ rfl ?_ (cells_of (by kernel_rfl)) ?_ (fun h₀ hns kp => ?_) (by kernel_rfl) (by kernel_rfl) (by kernel_rfl)
  · obtain ⟨c, o, vs, t, e, ho, r⟩ := hc
    exact ⟨c, o, vs, t, e, hst _ _ ho, r⟩
  · exact kp_binds (K := kF w.params) (fun b o z => hst b o (KB b o z)) (fun _ => hbd _)
  · intro x hx
    exact (sc_init (w := w)).loc _ (List.of_mem_zip hx).1
  · have ok := e_init (w := w) s.heap.objs.size
    have hse := Heap.lt_size he
    refine init_run (hb := s.heap) ok B (fun b o q => kp b o (hst b o q)) (by kernel_rfl) (by kernel_rfl) nE bE hns rfl rfl rfl rfl rfl rfl kp (Nat.le_refl _) (fun b o q => hst b o (KB b o q)) (kp _ _ he) (Nat.ne_of_lt hse).symm (fun o q => by rw [KB e o q] at hbe; cases hbe) fun h' dx t1 tk mA e1 n1 m1 f1 k1 => ?_
    refine k h' dx t1 tk mA e1 n1 m1 ?_ fun b o n q => k1 b o n (kp b o q)
    cases q : s.heap.get? dx with
    | none => rfl
    | some o => have := kp dx o q; rw [f1] at this; cases this
theorem class_call (B : BaseOk prog base mg mb) (KB : (kF w.params).In base) (nE : mg "Exception" = none) (bE : mb "Exception" = some (.type "Exception")) {A : Around} {Q : Value → Shared → Prop} {E : Value → Shared → Prop} {s : Shared} {vc v ve : Value} (hA : A.depth < 898) (hst : base.StaysIn s.heap)
    (k : ∀ h' e dx t1 tk mA, h'.get? e = some { excObj t1 with dict := some dx } → h'.Ns dx mA → mA "value" = some v → s.heap.get? e = none → s.heap.get? dx = none → (∀ b o, s.heap.get? b = some o → h'.get? b = some o) → Q (.ref e) { s with heap := h', toks := tk }) :
    wpAny (model prog w) A (call (.ref 33) [vc, v, ve]) Q E s := by
  have hK : (kF w.params).In s.heap := fun b o q => hst b o (KB b o q)
  obtain ⟨nm, q, bs, sn, sub, ab, col, dd, k0, k1, k2, k3, k5, hC⟩ := raised_obj hK
  have hN := raised_ns hK
  have ho : ∃ o, s.heap.get? 30 = some o ∧ o.cls = .type "function" := ⟨_, hK 30 _ rfl, rfl⟩
  obtain ⟨oI, ho, hoc⟩ := ho
  obtain ⟨hp, g, d, t, os⟩ := s
  refine wpAny_call_exc_init F.excBase_Exception hC hN (raised_look hK).1 ho hoc fun h' e hm => ?_
  obtain ⟨kp, fe, t0, he, ft, _⟩ := hm
  have hst' : base.StaysIn h' := fun b o q => kp b o (hst b o q)
  have fbe : base.get? e = none := base_none hst fe
  refine wpAny_call (init_call (s := ⟨h', g, d, t, os⟩) B KB nE bE ?_ hst' he fbe fun h'' dx t1 tk mA e1 n1 m1 f1 k1 => ?_)
  · show A.depth + 1 + 0 < 900
    walk_at "om"
  · refine ⟨rfl, k h'' e dx t1 tk mA e1 n1 m1 fe ?_ fun b o q => k1 b o (fun z => by rw [z] at q; rw [fe] at q; cases q) (kp b o q)⟩
    cases q : hp.get? dx with
    | none => rfl
    | some o => have := kp dx o q; rw [f1] at this; cases this
end
end
section
open PySem PySem.Calls PySem.W PyProof.Rows

section
variable {prog : Program} {w : World} {base : Heap} {mg mb : Str → Option Value}
noncomputable def v_error : List Str := [Str.ofString "text", Str.ofString "errorcode"]
theorem sc_error : ScOk (fdAt w.params 45).scope v_error := scOk_ok (by kernel_rfl)
theorem e_error (L : Addr) : EnvOk (callEnv (fdAt w.params 45) L 45) v_error := envOk_of rfl rfl rfl (sc_error (w := w))
theorem err_binds (P : Params) (v : Value) : ∃ a : Value, ∀ x, peek (kF P) x (bindArgs (fdAt P 45) ⟨[v], []⟩) = some (v_error.zip [v, a]) := ⟨_, fun _ => rfl⟩
theorem err_call (B : BaseOk prog base mg mb) (KB : (kF w.params).In base) (nE : mg "Exception" = none) (bE : mb "Exception" = some (.type "Exception")) (gR : mg "Raised" = some (.ref 33)) {A : Around} {R : Result → Shared → Prop} {s : Shared} {v : Value} (hA : A.depth < 896) (hst : base.StaysIn s.heap)
    (k : ∀ h' e dx t1 tk mA, h'.get? e = some { excObj t1 with dict := some dx } → h'.Ns dx mA → mA "value" = some v → s.heap.get? e = none → s.heap.get? dx = none → (∀ b o, s.heap.get? b = some o → h'.get? b = some o) → R (.ok (.ret (.ref e))) { s with heap := h', toks := tk }) :
    codeAny (model prog w) A (.call (.ref 45) ⟨[v], []⟩) R s := by
  have hc : base.CodeRec (fdAt w.params 45).code (fdAt w.params 45).qualname := codeRec_of KB (by kernel_rfl)
  have ho : ∃ o, base.get? 45 = some o ∧ o.data = .func (fdAt w.params 45) := isFn_ok KB (by kernel_rfl)
  obtain ⟨o, ho, hd'⟩ := ho
  obtain ⟨i0, hbd⟩ := err_binds w.params v
  refine codeAny_call_def (body := bodyOf (fdAt w.params 45)) (binds := v_error.zip [v, i0]) (by unfold recursionLimit; walk_at "om") (hst _ _ ho) hd' (B.nolimit.keeps hst) ?_ rfl ?_ (cells_of (by kernel_rfl)) ?_ (fun h₀ hns kp => ?_) (by kernel_rfl) (by kernel_rfl) (by kernel_rfl)
  · obtain ⟨c, o, vs, t, e, ho, r⟩ := hc
    exact ⟨c, o, vs, t, e, hst _ _ ho, r⟩
  · exact kp_binds (K := kF w.params) (fun b o z => hst b o (KB b o z)) (fun _ => hbd _)
  · intro x hx
    exact (sc_error (w := w)).loc _ (List.of_mem_zip hx).1
  · have ok := e_error (w := w) s.heap.objs.size
    have hst' : base.StaysIn h₀ := fun b o q => kp b o (hst b o q)
    refine wpAny_execs_cons (wpAny_Return_some (wpAny_Call_NameR (Name_function_global ok.kind (by kernel_rfl) (loadGlobal_global (by rw [ok.globals]; exact B.globals.keeps hst') gR ?_) (by decide))))
    refine callWith_K (h₀ := base) KB (by kernel_rfl) (PyProof.Rows.spliced_more ?_ rfl)
    have ns : ∀ tk, ({ s with heap := h₀, toks := tk } : Shared).heap.Ns (callEnv (fdAt w.params 45) s.heap.objs.size 45).locals (fun x => (v_error.zip [v, i0]).reverse.lookup x) := fun _ => hns
    wp_step
    wp_step
    wp_step
    refine PyProof.Rows.spliced_more (nm_ok (i := 0) (x := Str.ofString "text") (v := v) ok rfl (ns _) rfl ?_) rfl
    refine PyProof.Rows.spliced_more (nm_ok (i := 1) (x := Str.ofString "errorcode") (v := i0) ok rfl (ns _) rfl ?_) rfl
    refine PyProof.Rows.spliced_none ⟨fun b o q => hst' b o (KB b o q), ?_⟩
    refine class_call B KB nE bE ?_ hst' fun h' e dx t1 tk mA e1 n1 m1 f1 f2 k1 => ?_
    · show A.depth + 1 < 898
      walk_at "om"
    · have back : ∀ b, h₀.get? b = none → s.heap.get? b = none := fun b f => by
        cases q : s.heap.get? b with
        | none => rfl
        | some o => have := kp b o q; rw [f] at this; cases this
      exact k h' e dx t1 tk mA e1 n1 m1 (back _ f1) (back _ f2) fun b o q => k1 b o (kp b o q)
end
end
section
open PySem PySem.Calls PySem.W PyProof.Rows

section
variable {M : Model} {A : Around} {E : Value → Shared → Prop} {env : Env}
variable {nm q : Str} {C N : Addr} {bs bm : List Value} {hdct : Bool} {sn : List Str} {sub : List Value} {ab : Bool} {col : Option Bool} {dd : Option Addr} {k0 k1 k2 k3 k5 : Option Value} {newId : String}

theorem raise_own {s : Shared} {x : Sem Value} {Q : Flow → Shared → Prop} (hbase : bm.contains (.type "BaseException") = true) (hh : A.handled = none)
    (h : wpAny M A x (fun v s₁ => ∃ e t d, v = .ref e ∧ s₁.heap.get? C = some (excClassObj nm q C N bs bm hdct sn sub ab col dd k0 k1 k2 k3 k5 newId) ∧
      s₁.heap.get? e = some { cls := .ref C, dict := some d, data := .fields #[.ref t, .none, .none, .none, .bool false, .none] } ∧ E (.ref e) s₁) E s) :
    wpAny M A (raiseStmt env (some x) none) Q E s := by
  have hcB : (Value.ref C :: bm).contains (.type "BaseException") = true := by rw [List.contains_cons, hbase, Bool.or_true]
  unfold raiseStmt
  refine wpAny_bind (wpAny_mono h (fun v s₁ h₁ => ?_) fun _ _ x => x)
  obtain ⟨e, t, d, rfl, hC, he, hE⟩ := h₁
  obtain ⟨hp, g, d, tk, os⟩ := s₁
  repeat (first | with_reducible refine wpAny_loadPart_at he ?_ | with_reducible refine wpAny_loadPart_at hC ?_ | (with_reducible refine wpAny_isSubtype_exc hC ?_; rw [hcB]) | wp_step)
  exact wpAny_raiseNew_none hh hE
end

section
variable {prog : Program} {w : World} {base : Heap} {mg mb : Str → Option Value}
theorem fail_ok (B : BaseOk prog base mg mb) (KB : (kF w.params).In base) (nE : mg "Exception" = none) (bE : mb "Exception" = some (.type "Exception")) (gR : mg "Raised" = some (.ref 33)) (gE : mg "error" = some (.ref 45)) : FailOk prog w base := by
  intro env names msg pos x t p1 p2 p3 k0 ok hx ht hk outer n A σ μ s P X hA R h
  subst hx ht
  obtain ⟨nm, q, bs, sn, sub, ab, col, dd, k0, k1, k2, k3, k5, hC⟩ := raised_obj KB
  rw [arm_exec_Raise]
  refine wpAny_bind (wpAny_standAt (raise_own (C := 33) (bm := bmE) (nm := nm) (q := q) (N := 32) (bs := bs) (hdct := true) (sn := sn) (sub := sub) (ab := ab) (col := col) (dd := dd) (k0 := k0) (k1 := k1) (k2 := k2) (k3 := k3) (k5 := k5) (newId := "Exception.__new__") (by decide) hA.handled ?_))
  refine wpAny_bind (wpAny_mono (wpAny_Call_NameR (global_ok B ok R hk gE (by decide) (callWith_K (h₀ := base) KB (by kernel_rfl) (PyProof.Rows.spliced_more (wpAny_Constant_str (PyProof.Rows.spliced_none ⟨fun b o q => R.inv.stays _ _ (KB b o q), wpAny_call (err_call B KB nE bE gR ?_ R.inv.stays fun h' e dx t1 tk mA e1 n1 m1 f1 f2 k1 => ?_)⟩)) rfl)))) (fun v s₃ h₃ => wpAny_bind (wpAny_standAt (wpAny_pure h₃))) fun _ _ x => x)
  · have := hA.depth
    walk_at "om"
  · refine ⟨e, t1, dx, rfl, k1 _ _ (R.inv.stays _ _ hC), e1, ⟨e, dx, none, msg, σ.cells, μ, rfl, h, R.inv.grow k1, Gro.refl _ _, Ext.of_keeps k1, ⟨_, _, e1, (by show 1 < 6; walk_at "om"), rfl⟩, (fun _ _ q => by cases q), ⟨mA, _, n1, m1⟩, f1, fun m => ?_, (fun T m => by cases m)⟩⟩
    obtain ⟨_, o, _, _, e', _⟩ := R.inv.dicts dx m
    have f2' : s.heap.get? dx = none := f2
    rw [f2'] at e'; cases e'
end
end
section
open PySem PySem.Calls PySem.W PyProof.Rows

section
open PySem.Builtin PySem.Builtin.ObjectAttr
variable {prog : Program} {w : World} {A : Around} {E : Value → Shared → Prop} {h : Heap} {g : Array GenState} {d : Drawn} {t : Nat} {os : OsState}
variable {nm q : Str} {C N x dx : Addr} {bs bm : List Value} {sn : List Str} {sub : List Value} {ab : Bool} {col : Option Bool} {dd : Option Addr} {k0 k1 k2 k3 k5 : Option Value} {B newId : String}
  {mN mA : Str → Option Value} {name : Str} {v : Value} {o : Obj}

theorem own_entry {tk : Tok} {Q : Fin → Shared → Prop} (FB : ExcAttrBase B bm)
    (hC : h.get? C = some (excClassObj nm q C N bs bm true sn sub ab col dd k0 k1 k2 k3 k5 newId)) (hn : h.Ns N mN) (hna : mN name = none) (hB : typeLookup (.type B) name = pure none)
    (hx : h.get? x = some o) (hc : o.cls = .ref C) (hnc : ∀ c, o.data ≠ .cls c) (hdx : o.dict = some dx) (hns : h.Ns dx mA) (hv : mA name = some v) (hq : Q (.done (.ret v)) ⟨h, g, d, t, os⟩) :
    wpAny (model prog w) A (Builtin.«object.__getattribute__» ⟨[.ref x, .str name tk], []⟩) Q E ⟨h, g, d, t, os⟩ := by
  unfold Builtin.«object.__getattribute__»
  repeat (first | (with_reducible refine wpAny_loadPart_at hx ?_; rw [hc]) | (with_reducible refine wpAny_typeLookup_exc hC hn FB.mro hB ?_; rw [hna]) | wp_step)
  split
  · rename_i c hcd
    exact absurd hcd (hnc c)
  unfold instanceDict
  repeat (first | (with_reducible refine wpAny_loadPart_at hx ?_; rw [hc]) | with_reducible refine wpAny_loadPart_at hC ?_ | wp_step)
  rw [hdx]
  repeat (first | (with_reducible refine wpAny_nsGet hns ?_; rw [hv]) | wp_step)
  exact hq

theorem own_attr {expr : Bool} {Q : Value → Shared → Prop} (FB : ExcAttrBase B bm)
    (hC : h.get? C = some (excClassObj nm q C N bs bm true sn sub ab col dd k0 k1 k2 k3 k5 newId)) (hn : h.Ns N mN) (hna : mN name = none) (hB : typeLookup (.type B) name = pure none)
    (hga : mN "__getattribute__" = none) (hgt : mN "__getattr__" = none)
    (hx : h.get? x = some o) (hc : o.cls = .ref C) (hnc : ∀ c, o.data ≠ .cls c) (hdx : o.dict = some dx) (hns : h.Ns dx mA) (hv : mA name = some v) (hh : handedOut v = pure v) (hq : Q v ⟨h, g, d, t + 1, os⟩) :
    wpAny (model prog w) A (getAttr (.ref x) name expr) Q E ⟨h, g, d, t, os⟩ := by
  have f3 := FB.ga.bind (.ref x)
  have hx0 : (expr && onTheHeap (Value.builtin "BaseException.__getattribute__")) = false := by cases expr <;> rfl
  have hx2 : (Value.builtin "BaseException.__getattribute__" == Value.builtin "object.__getattribute__") = false := by decide +kernel
  have hx1 : (onTheHeap (Value.ref C) && Value.builtin "BaseException.__getattribute__" == Value.builtin "object.__getattribute__") = false := by rw [hx2]; rfl
  unfold getAttr getAttrBy
  repeat (any_goals (first | assumption | (with_reducible refine wpAny_loadPart_at hx ?_; rw [hc]) | (with_reducible refine wpAny_typeLookup_exc hC hn FB.mro FB.ga.lookup ?_; rw [hga]) | (with_reducible refine wpAny_typeLookup_exc hC hn FB.mro FB.noGetattr ?_; rw [hgt]) | wp_step))
  refine codeAny_call_builtin FB.ga.plain F.entry_bexc_ga (wpAny_check_ga_own FB hC .base hx hc (own_entry FB hC hn hna hB hx hc hnc hdx hns hv ?_))
  repeat (any_goals (first | assumption | wp_step))
end

section
variable {M : Model} {A : Around} {E : Value → Shared → Prop} {s : Shared} {env : Env}
theorem name_goes {n : Str} {pos : Pos} {m : Str → Option Value} {Q : Unit → Shared → Prop} (hl : env.kindOf n = some .local) (hn : s.heap.Ns env.locals m)
    (hp : (env.scope.kind == .class || (env.scope.kind == .module && env.locals != env.globals)) = false)
    (h : ∀ h' u, h'.Ns env.locals (fun x => if x = n then u else m x) → Heap.SameBut env.locals s.heap h' → Q () { s with heap := h', toks := s.toks + 1 }) :
    wpAny M A (do bindName env n .none; unbindBehindTheSuite env n pos) Q E s := by
  refine wpAny_bind (wpAny_bindName (wpAny_storeName_local hl hn (fun h₁ hn₁ hs₁ => ?_) hp))
  unfold unbindBehindTheSuite
  refine wpAny_onRaise ?_
  refine wpAny_unbindName_local hl hn₁ (by rw [if_pos rfl]) hp fun h₂ u hn₂ hs₂ => h h₂ u ?_ (hs₁.trans hs₂)
  have : (fun x => if x = n then u else if x = n then some Value.none else m x) = fun x => if x = n then u else m x := by
    funext x; split <;> rfl
  rw [← this]; exact hn₂
end
end
section
open PySem PySem.Calls PySem.W PyProof.Rows

section
variable {prog : Program} {w : World} {base : Heap} {C : Addr} {env : Env} {outer : List Env} {names : List Str} {fn : Nat → Option Addr}

theorem Rel.forget (ok : EnvOk env names) {cells : List Cell} {μ : List Addr} {h h' : Heap} {m m' : Str → Option Value} (I : Inv prog w base (env :: outer) μ cells h) (hm : h.Ns env.locals m)
    (hn : h'.Ns env.locals m') (sb : ∀ b, b ≠ env.locals → h'.get? b = h.get? b) : Inv prog w base (env :: outer) μ cells h' := by
  have hL := locals_mem (outer := outer) ok
  have tu : Tups h h' := fun a vs n e => (sb a (fun q => by subst q; exact ns_notTup hm e)).trans e
  refine ⟨fun b o e => (sb b (fun q => ?_)).trans (I.stays b o e), funFrames_of_data' I.frames hn sb, I.len, I.nodup, I.fresh, I.apart, fun a ma => ?_, fun j a c e1 e2 => ?_⟩
  · rw [q, (I.frames.mem hL).1] at e; cases e
  · by_cases q : a = env.locals
    · exact ⟨_, q ▸ hn⟩
    · obtain ⟨f, o, es, ep, e, r⟩ := I.dicts a ma
      exact ⟨f, o, es, ep, (sb a q).trans e, r⟩
  · have ma := List.mem_of_getElem? e1
    exact (I.cells j a c e1 e2).mono tu (List.prefix_refl _) fun o e => (sb a (fun q => I.apart a ma (q ▸ hL))).trans e

theorem caught_ok {M : Model} {A : Around} {E : Value → Shared → Prop} {s : Shared} {L e d : Addr} {tb : Tb} {Q : Unit → Shared → Prop}
    (hfr : A.frames = some (env :: outer)) (hl : s.heap.FunFrames base (env :: outer)) (hf : env.frame = some L)
    (hx : ExcAt s.heap e C d tb) (htb : ∀ T fl, tb = some (T, fl) → fl = .none ∨ fl = rawInt L)
    (h : ∀ h' T, ExcAt h' e C d (some (T, .none)) → (s.heap.get? T = none ∨ T ∈ tb.at) → Rest (FA (env :: outer)) (e :: tb.at) s.heap h' → Q () { s with heap := h' }) :
    wpAny M A (noteFrame (.ref e) env) (fun _ s₂ => wpAny M A (setFlight (.ref e) none) Q E s₂) E s := by
  refine note_ok hfr hl hf hx htb fun h1 T a b c => ?_
  refine flight_ok (fs := FA (env :: outer)) a fun h2 a' c' => h h2 T a' b ?_
  rcases b with b | b
  · refine ⟨fun x o q n1 n2 => c'.keep x o (c.keep x o q n1 n2) n1 fun m => ?_, fun x o q n1 n2 => ?_, fun x o q => ?_⟩
    · rw [List.mem_singleton.mp m, b] at q; cases q
    · obtain ⟨sl, q1⟩ := c.data x o q n1 n2
      obtain ⟨sl', q2⟩ := c'.data x _ q1 n1 fun m => by
        rw [List.mem_singleton.mp m, b] at q; cases q
      exact ⟨sl', q2⟩
    · obtain ⟨o1, q1⟩ := c.live x o q
      exact c'.live x o1 q1
  · exact c.trans (c'.mono fun x m => by rw [List.mem_singleton.mp m]; exact .tail _ b)

theorem starts_is (msg pre : List Nat) : Txt.startswith ⟨msg.toArray⟩ ⟨pre.toArray⟩ = pre.isPrefixOf msg := by
  unfold Txt.startswith
  rw [StrLaws.subAt_eq]
  rw [Bool.eq_iff_iff]
  simp only [Bool.and_eq_true, decide_eq_true_eq, beq_iff_eq, List.drop_zero, List.isPrefixOf_iff_prefix]
  constructor
  · rintro ⟨-, h⟩
    have h' : msg.take pre.length = pre := h
    rw [← h']; exact List.take_prefix _ _
  · rintro ⟨r, rfl⟩
    refine ⟨?_, ?_⟩
    · show 0 + pre.toArray.size ≤ (pre ++ r).toArray.size
      simp
    · show (pre ++ r).take pre.length = pre
      simp
end

section
variable {prog : Program} {w : World} {base : Heap} {mg mb : Str → Option Value} {env : Env} {names : List Str} {fn : Nat → Option Addr}

theorem raised_look2 {h : Heap} (hK : (kF w.params).In h) : h.nsMap 32 "__getattribute__" = none ∧ h.nsMap 32 "__getattr__" = none := by
  unfold Heap.nsMap
  rw [hK 32 _ rfl]
  refine ⟨?_, ?_⟩ <;> kernel_rfl

theorem raised_test {A : Around} {Q : Bool → Shared → Prop} {E : Value → Shared → Prop} {h : Heap} {g : Array GenState} {dr : Drawn} {tk : Nat} {os : OsState} {e d : Addr} {tb : Tb} (K : (kF w.params).In h) (a : ExcAt h e 33 d tb) (hq : Q true ⟨h, g, dr, tk, os⟩) : wpAny (model prog w) A (excMatches (.ref e) (.ref 33)) Q E ⟨h, g, dr, tk, os⟩ := by
  obtain ⟨_, _, _, _, _, _, _, _, _, _, _, _, _, hC⟩ := raised_obj K
  obtain ⟨vs, sl, he, _⟩ := a
  exact wpAny_excMatches_sub_self hC he rfl (by decide) hq
theorem value_attr {A : Around} {Q : Value → Shared → Prop} {E : Value → Shared → Prop} {h : Heap} {g : Array GenState} {dr : Drawn} {tk : Nat} {os : OsState} {e d : Addr} {tb : Tb} {msg : List Nat} {x : Bool} (K : (kF w.params).In h) (a : ExcAt h e 33 d tb) (V : ValAt prog w h d msg) (hq : ∀ t, Q (.str ⟨msg.toArray⟩ t) ⟨h, g, dr, tk + 1, os⟩) :
    wpAny (model prog w) A (getAttr (.ref e) "value" x) Q E ⟨h, g, dr, tk, os⟩ := by
  obtain ⟨_, _, _, _, _, _, _, _, _, _, _, _, _, hC⟩ := raised_obj K
  obtain ⟨vs, sl, he, _⟩ := a
  obtain ⟨f, t, hn, hv⟩ := V
  have L := raised_look K
  exact own_attr F.attrBase_Exception hC (raised_ns K) L.2.2.2.1 (by kernel_rfl) (raised_look2 K).1 (raised_look2 K).2 he rfl (fun c z => by cases z) rfl hn hv rfl (hq t)
theorem ExcAt.same {h h' : Heap} {e C d T : Addr} {fl : Value} (a : ExcAt h e C d (some (T, fl))) (k : ∀ b o, (b = e ∨ b = T) → h.get? b = some o → h'.get? b = some o) : ExcAt h' e C d (some (T, fl)) := by
  obtain ⟨vs, sl, he, hz, h1, h2, oT, ts, h3, h4⟩ := a
  exact ⟨vs, sl, k _ _ (.inl rfl) he, hz, h1, h2, oT, ts, k _ _ (.inr rfl) h3, h4⟩
theorem handler_ok (B : BaseOk prog base mg mb) (KB : (kF w.params).In base) (gR : mg "Raised" = some (.ref 33)) (ok : EnvOk env names) {outer : List Env} {x : Str} {pre : List Nat} {k0 : Nat} {p2 p3 p4 p5 p6 p7 p8 p9 p10 : Pos} (hk : env.kindOf "Raised" = some .globalImplicit) (hl : env.kindOf x = some .local) (hxd : (x == ("__debug__" : Str)) = false) (hline : (p6.endLine == p8.line) = true)
    {A : Around} {Q : Flow → Shared → Prop} {E : Value → Shared → Prop} {hp : Heap} {gens : Array GenState} {dr : Drawn} {tk : Nat} {os : OsState} {μ : List Addr} {cells : List Cell} {e d T : Addr} {msg : List Nat} (I : Inv prog w base (env :: outer) μ cells hp) (a : ExcAt hp e 33 d (some (T, .none))) (V : ValAt prog w hp d msg)
    (hT : base.get? T = none) (hd : d ∉ FA (env :: outer)) (he : e ≠ env.locals)
    (k : ∀ h3 h6 tk m, Rest (FA (env :: outer)) [T] hp h3 → (∀ b, b ≠ env.locals → h6.get? b = h3.get? b) → h6.Ns env.locals m → Inv prog w base (env :: outer) μ cells h6 → Q (.ret (.bool (!pre.isPrefixOf msg))) ⟨h6, gens, dr, tk, os⟩) :
    wpAny (model prog w) A (handleBy (.ref e) env [.ExceptHandler (some (.Name "Raised" p2)) (some x) [.Return (some (.UnaryOp .Not (.Call (.Attribute (.Attribute (.Name x p4) "value" p5) "startswith" p6) [.Constant (.str ⟨pre.toArray⟩) k0 p7] [] p8) p9)) p10] p3]) Q E ⟨hp, gens, dr, tk, os⟩ := by
  have hL := locals_mem (outer := outer) ok
  have hp' : (env.scope.kind == .class || (env.scope.kind == .module && env.locals != env.globals)) = false := by rw [ok.kind]; rfl
  refine wpAny_handleBy_cons (codeAny_handlers_test (Name_function_global ok.kind hk (loadGlobal_global (by rw [ok.globals]; exact B.globals.keeps I.stays) gR (raised_test (fun b o z => I.stays _ _ (KB b o z)) a (codeAny_handlers_suite_as ?_))) (by decide))) (by intro q; cases q)
  refine flight_ok (fs := FA (env :: outer)) a fun h3 a3 c3' => ?_
  obtain ⟨I3, tu3⟩ := I.rest c3' (fun b m => exc_rec a b (.tail _ m)) fun b m => by rw [List.mem_singleton.mp m]; exact hT
  have V3 := val_rest c3' (fun b m => exc_rec a b (.tail _ m)) hd V
  obtain ⟨m, hm⟩ := I3.dicts env.locals hL
  clear a V I tu3
  refine wpAny_storeName_local hl hm (fun h4 hn4 sb4 => ?_) hp'
  have I4 := Rel.forget ok I3 hm hn4 sb4.2
  have a4 := a3.same (h' := h4) fun b o m q => (sb4.2 b (fun z => by
    rcases m with rfl | rfl
    · exact he z
    · obtain ⟨vs, sl, _, _, _, _, oT, ts, e3, e4, _⟩ := a3
      obtain ⟨o', es, ep, e5, e6, _⟩ := hm
      rw [z, e5] at e3; cases e3; rw [e6] at e4; cases e4)).trans q
  have V4 : ValAt prog w h4 d msg := by
    obtain ⟨f, tv, ⟨oV, esV, epV, eV, rV⟩, hv⟩ := V3
    exact ⟨f, tv, ⟨oV, esV, epV, (sb4.2 d (fun z => hd (z ▸ hL))).trans eV, rV⟩, hv⟩
  refine wpAny_execs_cons (wpAny_Return_some (wpAny_UnaryOp (Call_method1 rfl rfl hline (Attribute_name (wpAny_Name (wpAny_loadName_local ok.kind hl hn4 (by rw [if_pos rfl]) (value_attr (fun b o z => I4.stays _ _ (KB b o z)) a4 V4 fun tv =>
    SB.startswith (wpAny_Constant_str ⟨_, _, rfl, not_of (wpAny_truthy_bool ?_)⟩))) hxd)))))
  refine name_goes hl hn4 hp' fun h6 u hn6 sb6 => ?_
  rw [starts_is]
  exact k h3 h6 _ _ c3' (fun b n => (sb6.2 b n).trans (sb4.2 b n)) hn6 (Rel.forget ok I4 hn4 hn6 sb6.2)

theorem try_ext {outer : List Env} (ok : EnvOk env names) {μ : List Addr} {h0 h1 : Hp} {h3 h6 : Heap} {T : Addr} {m : Str → Option Value} (x : Ext (FA (env :: outer)) ([env.locals] ++ μ) h0 h1) (hT : h0.1.get? T = none) (c : Rest (FA (env :: outer)) [T] h1.1 h3) (sb : ∀ b, b ≠ env.locals → h6.get? b = h3.get? b) (hn : h6.Ns env.locals m) :
    Ext (FA (env :: outer)) ([env.locals] ++ μ) h0 (hW h1 h6) := by
  have notT : ∀ b o, h0.1.get? b = some o → b ∉ [T] := fun b o z m => by rw [List.mem_singleton.mp m, hT] at z; cases z
  have nL : ∀ b, b ∉ [env.locals] ++ μ → b ≠ env.locals := fun b n z => n (by rw [z]; exact .head _)
  refine ⟨fun b o z n1 n2 => (sb b (nL b n2)).trans (c.keep b o (x.keep b o z n1 n2) n1 (notT b o z)), fun b o z n1 n2 => ?_, fun b o z => ?_, x.same⟩
  · obtain ⟨sl1, z1⟩ := x.data b o z n1 n2
    obtain ⟨sl2, z2⟩ := c.data b _ z1 n1 (notT b o z)
    exact ⟨sl2, (sb b (nL b n2)).trans z2⟩
  · by_cases zb : b = env.locals
    · obtain ⟨o', _, _, e', _⟩ := hn
      exact ⟨o', zb ▸ e'⟩
    · obtain ⟨o1, z1⟩ := x.live b o z
      obtain ⟨o2, z2⟩ := c.live b o1 z1
      exact ⟨o2, (sb b zb).trans z2⟩

theorem sound_try (B : BaseOk prog base mg mb) (KB : (kF w.params).In base) (gR : mg "Raised" = some (.ref 33)) (ok : EnvOk env names) {e : Expr} {t : E} {x y : Str} {pre : List Nat} {k0 : Nat} {p1 p2 p3 p4 p5 p6 p7 p8 p9 p10 p11 : Pos}
    (hk : env.kindOf "Raised" = some .globalImplicit) (hl : env.kindOf x = some .local) (hxd : (x == ("__debug__" : Str)) = false) (hy : y = ⟨pre.toArray⟩) (hline : (p6.endLine == p8.line) = true)
    (hs : swapsWith e none p1.line env = pure false) (h1 : SoundE prog w base 33 env names fn e t) :
    Sound1 prog w base 33 env names fn (.Try [.Expr e p1] [.ExceptHandler (some (.Name "Raised" p2)) (some x) [.Return (some (.UnaryOp .Not (.Call (.Attribute (.Attribute (.Name x p4) "value" p5) "startswith" p6) [.Constant (.str y) k0 p7] [] p8) p9)) p10] p3] [] [] p11) (.tryE t pre) := by
  subst hy
  intro outer n A σ μ s P X hA R h
  refine wpAny_Try_except (wpAny_mono (sound_one (sound_expr ok hs h1) outer n A σ μ s P (fun msg c => P (.ret (.bool (!pre.isPrefixOf msg))) { loc := [], cells := c }) hA R h) (fun f s1 p1 => ?_) fun ev s1 y => ?_)
  · obtain ⟨fl, σ1, μ1, k1, R1, r1, g1, x1⟩ := p1
    cases fl with
    | next => cases r1; exact wpAny_execs_nil ⟨.next, σ1, μ1, k1, R1, rfl, g1, x1⟩
    | brk => cases r1; exact ⟨.brk, σ1, μ1, k1, R1, rfl, g1, x1⟩
    | ret d => obtain ⟨v, rfl, r⟩ := r1; exact ⟨.ret d, σ1, μ1, k1, R1, ⟨v, rfl, r⟩, g1, x1⟩
  · obtain ⟨e, d, tb, msg, cells', μ', rfl, h2, h3, h4, h5, h6, h7, h8, h9, h10, h11⟩ := y
    refine caught_ok (base := base) hA.frames h3.frames ok.frame h6 h7 fun h' T a b c => ?_
    have hS : ∀ b ∈ e :: tb.at, s.heap.get? b = none := fun b m => by
      rcases List.mem_cons.mp m with rfl | m
      · exact h9
      · exact h11 b m
    have hT0 : s.heap.get? T = none := by
      rcases b with b | b
      · exact none_of_live h5 b
      · exact h11 T b
    have hb := R.inv.stays
    have y2 : Ext (FA (env :: outer)) ([env.locals] ++ μ) (hOf s) (hW (hOf s1) h') := by
      obtain ⟨_, _, _, _, _, _, _, _, _, _, q, _⟩ := ErrF.rest (X := fun msg c => P (.ret (.bool (!pre.isPrefixOf msg))) { loc := [], cells := c }) (own := fun _ => False) h2 h3 h4 h5 h8 h9 h10 hb c (exc_rec h6) hS a (fun T' fl q => by cases q; exact .inl rfl) (fun T' m => by obtain rfl := List.mem_singleton.mp m; exact hT0)
      exact q
    obtain ⟨I2, tu2⟩ := h3.rest c (exc_rec h6) fun b m => base_none hb (hS b m)
    have hL := locals_mem (outer := outer) ok
    obtain ⟨mL, oL, _, _, eL, _⟩ := R.inv.dicts env.locals hL
    obtain ⟨hp, gens, dr, tk, os⟩ := s1
    refine handler_ok B KB gR ok hk hl hxd hline I2 a (val_rest c (exc_rec h6) h10 h8) (base_none hb hT0) h10 (fun z => by rw [z, eL] at h9; cases h9) fun h3' h6' tk' m c3 sb hn I6 => ?_
    exact ⟨.ret (.bool (!pre.isPrefixOf msg)), { loc := [], cells := cells' }, μ', h2, ⟨I6, _, hn, fun i x d e1 e2 => nomatch e2⟩, ⟨_, rfl, rfl⟩, h4, try_ext ok y2 hT0 c3 sb hn⟩
end
end
section
noncomputable def b_digit_1 : S := (.ret (.cst (.int (-1))))
noncomputable def b_digit_2 : S := (.seq (.ite (.cmp2 .le .le (.cst (.int 65)) (.loc 1) (.cst (.int 90))) (.ret (.bin .sub (.loc 1) (.cst (.int 55)))) .skip) b_digit_1)
noncomputable def b_digit_3 : S := (.seq (.ite (.cmp2 .le .le (.cst (.int 97)) (.loc 1) (.cst (.int 122))) (.ret (.bin .sub (.loc 1) (.cst (.int 87)))) .skip) b_digit_2)
noncomputable def b_digit_4 : S := (.seq (.asg 1 (.ord (.loc 0)))
  (.seq (.ite (.cmp2 .le .le (.cst (.int 48)) (.loc 1) (.cst (.int 57))) (.ret (.bin .sub (.loc 1) (.cst (.int 48)))) .skip) b_digit_3))
noncomputable def b_digit : S := (.seq (.ite (.cmp .ne (.len (.loc 0)) (.cst (.int 1))) (.ret (.cst (.int (-1)))) .skip) b_digit_4)
noncomputable def b_hex_sign_1 : S := (.seq (.asg 4 (.bin .add (.bin .mul (.loc 4) (.cst (.int 16))) (.loc 5)))
  (.aug 3 .add (.cst (.int 1))))
noncomputable def b_hex_sign_2 : S := (.seq (.asg 5 (.call 52 (.cons (.sub (.loc 0) (.loc 3)) .nil)))
  (.seq (.ite (.or (.cmp .lt (.loc 5) (.cst (.int 0))) (.cmp .gt (.loc 5) (.cst (.int 15)))) .brk .skip) b_hex_sign_1))
noncomputable def b_hex_sign_3 : S := (.ret (.tup (.cons (.chr (.loc 4)) (.cons (.loc 3) .nil))))
noncomputable def b_hex_sign_4 : S := (.seq (.ite (.cmp .eq (.loc 3) (.bin .add (.loc 1) (.cst (.int 1)))) (.ret (.tup (.cons (.sub (.loc 0) (.loc 1)) (.cons (.loc 3) .nil)))) .skip) b_hex_sign_3)
noncomputable def b_hex_sign_5 : S := (.seq (.asg 3 (.bin .add (.loc 1) (.cst (.int 1))))
  (.seq (.asg 4 (.cst (.int 0)))
  (.seq (.whl (.and (.cmp .lt (.loc 3) (.loc 2)) (.and (.cmp .lt (.loc 3) (.len (.loc 0))) (.cmp .le (.loc 4) (.cst (.int 69631))))) b_hex_sign_2) b_hex_sign_4)))
noncomputable def b_hex_sign : S := (.seq (.asg 2 (.bin .add (.loc 1) (.cst (.int 3))))
  (.seq (.ite (.cmp .eq (.sub (.loc 0) (.loc 1)) (.cst (.str [117]))) (.asg 2 (.bin .add (.loc 1) (.cst (.int 5)))) (.ite (.cmp .eq (.sub (.loc 0) (.loc 1)) (.cst (.str [85]))) (.asg 2 (.bin .add (.loc 1) (.cst (.int 9)))) .skip)) b_hex_sign_5))
noncomputable def b_octal_sign_1 : S := (.seq (.asg 3 (.bin .add (.bin .mul (.loc 3) (.cst (.int 8))) (.loc 4)))
  (.aug 2 .add (.cst (.int 1))))
noncomputable def b_octal_sign_2 : S := (.seq (.asg 4 (.call 52 (.cons (.sub (.loc 0) (.loc 2)) .nil)))
  (.seq (.ite (.or (.cmp .lt (.loc 4) (.cst (.int 0))) (.cmp .gt (.loc 4) (.cst (.int 7)))) .brk .skip) b_octal_sign_1))
noncomputable def b_octal_sign_3 : S := (.ret (.tup (.cons (.chr (.loc 3)) (.cons (.loc 2) .nil))))
noncomputable def b_octal_sign : S := (.seq (.asg 2 (.loc 1))
  (.seq (.asg 3 (.cst (.int 0)))
  (.seq (.whl (.and (.cmp .lt (.loc 2) (.bin .add (.loc 1) (.cst (.int 3)))) (.and (.cmp .lt (.loc 2) (.len (.loc 0))) (.cmp .lt (.loc 3) (.cst (.int 32))))) b_octal_sign_2) b_octal_sign_3)))
noncomputable def b_backslash_1 : S := (.aug 4 .add (.cst (.int 1)))
noncomputable def b_backslash_2 : S := (.ret (.tup (.cons (.cst (.str [32])) (.cons (.loc 4) .nil))))
noncomputable def b_backslash_3 : S := (.ret (.tup (.cons (.loc 2) (.cons (.bin .add (.loc 1) (.cst (.int 2))) .nil))))
noncomputable def b_backslash_4 : S := (.seq (.ite (.cmp .inn (.loc 2) (.tup (.cons (.cst (.str [48])) (.cons (.cst (.str [49])) (.cons (.cst (.str [50])) (.cons (.cst (.str [51])) (.cons (.cst (.str [52])) (.cons (.cst (.str [53])) (.cons (.cst (.str [54])) (.cons (.cst (.str [55])) .nil)))))))))) (.ret (.call 66 (.cons (.loc 0) (.cons (.bin .add (.loc 1) (.cst (.int 1))) .nil)))) .skip) b_backslash_3)
noncomputable def b_backslash_5 : S := (.seq (.ite (.cmp .inn (.loc 2) (.tup (.cons (.cst (.str [120])) (.cons (.cst (.str [117])) (.cons (.cst (.str [85])) .nil))))) (.ret (.call 59 (.cons (.loc 0) (.cons (.bin .add (.loc 1) (.cst (.int 1))) .nil)))) .skip) b_backslash_4)
noncomputable def b_backslash_6 : S := (.seq (.ite (.cmp .eq (.loc 2) (.cst (.str [10]))) (.seq (.asg 4 (.bin .add (.loc 1) (.cst (.int 2))))
  (.seq (.whl (.cmp .inn (.slice (.loc 0) (.loc 4) (.bin .add (.loc 4) (.cst (.int 1)))) (.tup (.cons (.cst (.str [32])) (.cons (.cst (.str [9])) .nil)))) b_backslash_1) b_backslash_2)) .skip) b_backslash_5)
noncomputable def b_backslash_7 : S := (.seq (.asg 3 (.find (.cst (.str [97, 98, 102, 110, 114, 116, 118])) (.loc 2)))
  (.seq (.ite (.cmp .ge (.loc 3) (.cst (.int 0))) (.ret (.tup (.cons (.sub (.cst (.str [7, 8, 12, 10, 13, 9, 11])) (.loc 3)) (.cons (.bin .add (.loc 1) (.cst (.int 2))) .nil)))) .skip) b_backslash_6))
noncomputable def b_backslash : S := (.seq (.asg 2 (.slice (.loc 0) (.bin .add (.loc 1) (.cst (.int 1))) (.bin .add (.loc 1) (.cst (.int 2)))))
  (.seq (.ite (.cmp .eq (.loc 2) (.cst (.str []))) (.ret (.tup (.cons (.cst (.str [92])) (.cons (.bin .add (.loc 1) (.cst (.int 1))) .nil)))) .skip) b_backslash_7))
noncomputable def b_is_gap : S := (.ret (.cmp .inn (.loc 0) (.tup (.cons (.cst (.str [32])) (.cons (.cst (.str [9])) (.cons (.cst (.str [11])) (.cons (.cst (.str [12])) (.cons (.cst (.str [13])) .nil))))))))
noncomputable def b_skip_gaps_1 : S := (.ite (.call 80 (.cons (.sub (.loc 0) (.loc 1)) .nil)) (.aug 1 .add (.cst (.int 1))) (.ite (.cmp .eq (.slice (.loc 0) (.loc 1) (.bin .add (.loc 1) (.cst (.int 2)))) (.cst (.str [92, 10]))) (.aug 1 .add (.cst (.int 2))) (.ret (.loc 1))))
noncomputable def b_skip_gaps_2 : S := (.ret (.loc 1))
noncomputable def b_skip_gaps : S := (.seq (.whl (.cmp .lt (.loc 1) (.len (.loc 0))) b_skip_gaps_1) b_skip_gaps_2)
noncomputable def b_comment_behind_1 : S := (.ite (.cmp .eq (.sub (.loc 0) (.loc 1)) (.cst (.str [92]))) (.aug 1 .add (.cst (.int 2))) (.ite (.cmp .eq (.sub (.loc 0) (.loc 1)) (.cst (.str [10]))) (.ret (.bin .add (.loc 1) (.cst (.int 1)))) (.aug 1 .add (.cst (.int 1)))))
noncomputable def b_comment_behind_2 : S := (.ret (.loc 2))
noncomputable def b_comment_behind : S := (.seq (.asg 2 (.len (.loc 0)))
  (.seq (.whl (.cmp .lt (.loc 1) (.loc 2)) b_comment_behind_1) b_comment_behind_2))
noncomputable def b_skip_to_command_1 : S := (.asg 1 (.call 87 (.cons (.loc 0) (.cons (.loc 1) .nil))))
noncomputable def b_skip_to_command_2 : S := (.seq (.ite (.cmp .eq (.sub (.loc 0) (.loc 1)) (.cst (.str [35]))) (.asg 1 (.call 94 (.cons (.loc 0) (.cons (.loc 1) .nil)))) (.aug 1 .add (.cst (.int 1)))) b_skip_to_command_1)
noncomputable def b_skip_to_command_3 : S := (.ret (.loc 1))
noncomputable def b_skip_to_command : S := (.seq (.asg 1 (.call 87 (.cons (.loc 0) (.cons (.loc 1) .nil))))
  (.seq (.whl (.cmp .inn (.slice (.loc 0) (.loc 1) (.bin .add (.loc 1) (.cst (.int 1)))) (.tup (.cons (.cst (.str [10])) (.cons (.cst (.str [59])) (.cons (.cst (.str [35])) .nil))))) b_skip_to_command_2) b_skip_to_command_3))
noncomputable def b_read_name_1 : S := (.aug 1 .add (.cst (.int 1)))
noncomputable def b_read_name_2 : S := (.ite (.or (.cmp .eq (.sub (.loc 0) (.loc 1)) (.cst (.str [95]))) (.cmp .ge (.call 52 (.cons (.sub (.loc 0) (.loc 1)) .nil)) (.cst (.int 0)))) (.aug 1 .add (.cst (.int 1))) (.ite (.cmp .eq (.slice (.loc 0) (.loc 1) (.bin .add (.loc 1) (.cst (.int 2)))) (.cst (.str [58, 58]))) (.seq (.aug 1 .add (.cst (.int 2)))
  (.whl (.cmp .eq (.slice (.loc 0) (.loc 1) (.bin .add (.loc 1) (.cst (.int 1)))) (.cst (.str [58]))) b_read_name_1)) (.ret (.loc 1))))
noncomputable def b_read_name_3 : S := (.ret (.loc 1))
noncomputable def b_read_name : S := (.seq (.whl (.cmp .lt (.loc 1) (.len (.loc 0))) b_read_name_2) b_read_name_3)
noncomputable def b_variable_1 : S := (.ret (.tup (.cons (.tup (.cons (.cst (.str [118, 97, 114])) (.cons (.slice (.loc 0) (.bin .add (.loc 2) (.cst (.int 1))) (.loc 3)) (.cons (.cst .none) .nil)))) (.cons (.bin .add (.loc 3) (.cst (.int 1))) .nil))))
noncomputable def b_variable_2 : S := (.ret (.tup (.cons (.tup (.cons (.cst (.str [118, 97, 114])) (.cons (.slice (.loc 0) (.loc 2) (.loc 4)) (.cons (.loc 5) .nil)))) (.cons (.bin .add (.loc 3) (.cst (.int 1))) .nil))))
noncomputable def b_variable_3 : S := (.ret (.tup (.cons (.tup (.cons (.cst (.str [118, 97, 114])) (.cons (.slice (.loc 0) (.loc 2) (.loc 4)) (.cons (.cst .none) .nil)))) (.cons (.loc 4) .nil))))
noncomputable def b_variable_4 : S := (.seq (.ite (.cmp .eq (.loc 4) (.loc 2)) (.ret (.tup (.cons (.tup (.cons (.cst (.str [116, 101, 120, 116])) (.cons (.cst (.str [36])) .nil))) (.cons (.loc 2) .nil)))) .skip) b_variable_3)
noncomputable def b_variable_5 : S := (.seq (.asg 4 (.call 108 (.cons (.loc 0) (.cons (.loc 2) .nil))))
  (.seq (.ite (.cmp .eq (.slice (.loc 0) (.loc 4) (.bin .add (.loc 4) (.cst (.int 1)))) (.cst (.str [40]))) (.seq (.asgs [5, 3] (.call 136 (.cons (.loc 0) (.cons (.bin .add (.loc 4) (.cst (.int 1))) (.cons (.tup (.cons (.cst (.str [41])) .nil)) .nil)))))
  (.seq (.ite (.cmp .ge (.loc 3) (.len (.loc 0))) (.fail [109, 105, 115, 115, 105, 110, 103, 32, 41]) .skip) b_variable_2)) .skip) b_variable_4))
noncomputable def b_variable : S := (.seq (.asg 2 (.bin .add (.loc 1) (.cst (.int 1))))
  (.seq (.ite (.cmp .eq (.slice (.loc 0) (.loc 2) (.bin .add (.loc 2) (.cst (.int 1)))) (.cst (.str [123]))) (.seq (.asg 3 (.find2 (.loc 0) (.cst (.str [125])) (.loc 2)))
  (.seq (.ite (.cmp .lt (.loc 3) (.cst (.int 0))) (.fail [109, 105, 115, 115, 105, 110, 103, 32, 99, 108, 111, 115, 101, 45, 98, 114, 97, 99, 101, 32, 102, 111, 114, 32, 118, 97, 114, 105, 97, 98, 108, 101, 32, 110, 97, 109, 101]) .skip) b_variable_1)) .skip) b_variable_5))
noncomputable def b_brackets_1 : S := (.seq (.asg 4 (.call 165 (.cons (.loc 0) (.cons (.loc 3) (.cons (.cst (.bool true)) .nil)))))
  (.asg 3 (.call 101 (.cons (.loc 0) (.cons (.sub (.loc 4) (.cst (.int 3))) .nil)))))
noncomputable def b_brackets_2 : S := (.ret (.tup (.cons (.slice (.loc 0) (.loc 2) (.loc 3)) (.cons (.bin .add (.loc 3) (.cst (.int 1))) .nil))))
noncomputable def b_brackets_3 : S := (.seq (.ite (.cmp .ge (.loc 3) (.len (.loc 0))) (.fail [109, 105, 115, 115, 105, 110, 103, 32, 99, 108, 111, 115, 101, 45, 98, 114, 97, 99, 107, 101, 116]) .skip) b_brackets_2)
noncomputable def b_brackets : S := (.seq (.asg 2 (.bin .add (.loc 1) (.cst (.int 1))))
  (.seq (.asg 3 (.call 101 (.cons (.loc 0) (.cons (.loc 2) .nil))))
  (.seq (.whl (.and (.cmp .lt (.loc 3) (.len (.loc 0))) (.cmp .ne (.sub (.loc 0) (.loc 3)) (.cst (.str [93])))) b_brackets_1) b_brackets_3)))
noncomputable def b_braces_1 : S := (.aug 4 .add (.cst (.int 1)))
noncomputable def b_braces_2 : S := (.ite (.cmp .eq (.sub (.loc 0) (.loc 4)) (.cst (.str [123]))) (.seq (.aug 6 .add (.cst (.int 1)))
  (.aug 4 .add (.cst (.int 1)))) (.ite (.cmp .eq (.sub (.loc 0) (.loc 4)) (.cst (.str [125]))) (.seq (.aug 6 .sub (.cst (.int 1)))
  (.seq (.aug 4 .add (.cst (.int 1)))
  (.ite (.cmp .eq (.loc 6) (.cst (.int 0))) (.ret (.tup (.cons (.bin .add (.loc 5) (.slice (.loc 0) (.loc 3) (.bin .sub (.loc 4) (.cst (.int 1))))) (.cons (.loc 4) .nil)))) .skip))) (.ite (.cmp .eq (.slice (.loc 0) (.loc 4) (.bin .add (.loc 4) (.cst (.int 2)))) (.cst (.str [92, 10]))) (.seq (.asgs [7, 8] (.call 73 (.cons (.loc 0) (.cons (.loc 4) .nil))))
  (.seq (.aug 5 .add (.bin .add (.slice (.loc 0) (.loc 3) (.loc 4)) (.loc 7)))
  (.seq (.asg 4 (.loc 8))
  (.asg 3 (.loc 8))))) (.ite (.cmp .eq (.sub (.loc 0) (.loc 4)) (.cst (.str [92]))) (.aug 4 .add (.cst (.int 2))) (.whl (.and (.cmp .lt (.loc 4) (.loc 2)) (.cmp .notIn (.sub (.loc 0) (.loc 4)) (.cst (.str [123, 125, 92])))) b_braces_1)))))
noncomputable def b_braces_3 : S := (.fail [109, 105, 115, 115, 105, 110, 103, 32, 99, 108, 111, 115, 101, 45, 98, 114, 97, 99, 101])
noncomputable def b_braces : S := (.seq (.asg 2 (.len (.loc 0)))
  (.seq (.asg 3 (.bin .add (.loc 1) (.cst (.int 1))))
  (.seq (.asg 4 (.loc 3))
  (.seq (.asg 5 (.cst (.str [])))
  (.seq (.asg 6 (.cst (.int 1)))
  (.seq (.whl (.cmp .lt (.loc 4) (.loc 2)) b_braces_2) b_braces_3))))))
noncomputable def b_parts_until_1 : S := (.seq (.asgs [8, 1] (.call 73 (.cons (.loc 0) (.cons (.loc 1) .nil))))
  (.asg 6 (.tup (.cons (.cst (.str [116, 101, 120, 116])) (.cons (.loc 8) .nil)))))
noncomputable def b_parts_until_2 : S := (.aug 1 .add (.cst (.int 1)))
noncomputable def b_parts_until_3 : S := (.asg 6 (.tup (.cons (.cst (.str [116, 101, 120, 116])) (.cons (.slice (.loc 0) (.loc 9) (.loc 1)) .nil))))
noncomputable def b_parts_until_4 : S := (.expr (.append (.loc 3) (.loc 6)))
noncomputable def b_parts_until_5 : S := (.ite (.cmp .eq (.sub (.loc 6) (.cst (.int 0))) (.cst (.str [116, 101, 120, 116]))) (.aug 4 .add (.sub (.loc 6) (.cst (.int 1)))) (.seq (.ite (.cmp .ne (.loc 4) (.cst (.str []))) (.seq (.expr (.append (.loc 3) (.tup (.cons (.cst (.str [116, 101, 120, 116])) (.cons (.loc 4) .nil)))))
  (.asg 4 (.cst (.str [])))) .skip) b_parts_until_4))
noncomputable def b_parts_until_6 : S := (.seq (.ite (.cmp .eq (.sub (.loc 0) (.loc 1)) (.cst (.str [36]))) (.asgs [6, 1] (.call 115 (.cons (.loc 0) (.cons (.loc 1) .nil)))) (.ite (.cmp .eq (.sub (.loc 0) (.loc 1)) (.cst (.str [91]))) (.seq (.asgs [7, 1] (.call 122 (.cons (.loc 0) (.cons (.loc 1) .nil))))
  (.asg 6 (.tup (.cons (.cst (.str [99, 109, 100])) (.cons (.loc 7) .nil))))) (.ite (.cmp .eq (.sub (.loc 0) (.loc 1)) (.cst (.str [92]))) (.seq (.ite (.and (.cmp .inn (.cst (.str [32])) (.loc 2)) (.cmp .eq (.slice (.loc 0) (.bin .add (.loc 1) (.cst (.int 1))) (.bin .add (.loc 1) (.cst (.int 2)))) (.cst (.str [10])))) .brk .skip) b_parts_until_1) (.seq (.asg 9 (.loc 1))
  (.seq (.whl (.and (.cmp .lt (.loc 1) (.loc 5)) (.and (.cmp .notIn (.sub (.loc 0) (.loc 1)) (.cst (.str [36, 91, 92]))) (.cmp .notIn (.sub (.loc 0) (.loc 1)) (.loc 2)))) b_parts_until_2) b_parts_until_3))))) b_parts_until_5)
noncomputable def b_parts_until_7 : S := (.ret (.tup (.cons (.tupleOf (.loc 3)) (.cons (.loc 1) .nil))))
noncomputable def b_parts_until_8 : S := (.seq (.ite (.cmp .ne (.loc 4) (.cst (.str []))) (.expr (.append (.loc 3) (.tup (.cons (.cst (.str [116, 101, 120, 116])) (.cons (.loc 4) .nil))))) .skip) b_parts_until_7)
noncomputable def b_parts_until : S := (.seq (.asg 3 (.list .nil))
  (.seq (.asg 4 (.cst (.str [])))
  (.seq (.asg 5 (.len (.loc 0)))
  (.seq (.whl (.and (.cmp .lt (.loc 1) (.loc 5)) (.cmp .notIn (.sub (.loc 0) (.loc 1)) (.loc 2))) b_parts_until_6) b_parts_until_8))))
noncomputable def b_bare_stops_1 : S := (.ret (.tup (.cons (.cst (.str [32])) (.cons (.cst (.str [9])) (.cons (.cst (.str [11])) (.cons (.cst (.str [12])) (.cons (.cst (.str [13])) (.cons (.cst (.str [10])) (.cons (.cst (.str [59])) .nil)))))))))
noncomputable def b_bare_stops : S := (.seq (.ite (.loc 0) (.ret (.tup (.cons (.cst (.str [32])) (.cons (.cst (.str [9])) (.cons (.cst (.str [11])) (.cons (.cst (.str [12])) (.cons (.cst (.str [13])) (.cons (.cst (.str [10])) (.cons (.cst (.str [59])) (.cons (.cst (.str [93])) .nil)))))))))) .skip) b_bare_stops_1)
noncomputable def b_is_expanded_1 : S := (.ret (.cmp .eq (.call 87 (.cons (.loc 0) (.cons (.loc 2) .nil))) (.loc 2)))
noncomputable def b_is_expanded_2 : S := (.seq (.asg 2 (.bin .add (.loc 1) (.cst (.int 3))))
  (.seq (.ite (.cmp .inn (.slice (.loc 0) (.loc 2) (.bin .add (.loc 2) (.cst (.int 1)))) (.tup (.cons (.cst (.str [])) (.cons (.cst (.str [10])) (.cons (.cst (.str [59])) .nil))))) (.ret (.cst (.bool false))) .skip) b_is_expanded_1))
noncomputable def b_is_expanded : S := (.seq (.ite (.cmp .ne (.slice (.loc 0) (.loc 1) (.bin .add (.loc 1) (.cst (.int 3)))) (.cst (.str [123, 42, 125]))) (.ret (.cst (.bool false))) .skip) b_is_expanded_2)
noncomputable def b_word_1 : S := (.ret (.tup (.cons (.tup (.cons (.loc 3) (.cons (.tup (.cons (.tup (.cons (.cst (.str [116, 101, 120, 116])) (.cons (.loc 5) .nil))) .nil)) .nil))) (.cons (.loc 6) .nil))))
noncomputable def b_word_2 : S := (.ret (.tup (.cons (.tup (.cons (.loc 3) (.cons (.loc 7) .nil))) (.cons (.bin .add (.loc 8) (.cst (.int 1))) .nil))))
noncomputable def b_word_3 : S := (.seq (.asgs [7, 6] (.call 136 (.cons (.loc 0) (.cons (.loc 1) (.cons (.call 143 (.cons (.loc 2) .nil)) .nil)))))
  (.ret (.tup (.cons (.tup (.cons (.loc 3) (.cons (.loc 7) .nil))) (.cons (.loc 6) .nil)))))
noncomputable def b_word_4 : S := (.seq (.ite (.cmp .eq (.loc 4) (.cst (.str [34]))) (.seq (.asgs [7, 8] (.call 136 (.cons (.loc 0) (.cons (.bin .add (.loc 1) (.cst (.int 1))) (.cons (.tup (.cons (.cst (.str [34])) .nil)) .nil)))))
  (.seq (.ite (.cmp .ge (.loc 8) (.len (.loc 0))) (.fail [109, 105, 115, 115, 105, 110, 103, 32, 34]) .skip) b_word_2)) .skip) b_word_3)
noncomputable def b_word_5 : S := (.seq (.asg 4 (.slice (.loc 0) (.loc 1) (.bin .add (.loc 1) (.cst (.int 1)))))
  (.seq (.ite (.cmp .eq (.loc 4) (.cst (.str [123]))) (.seq (.asgs [5, 6] (.call 129 (.cons (.loc 0) (.cons (.loc 1) .nil))))
  (.seq (.ite (.cmp .eq (.loc 5) (.cst (.str []))) (.ret (.tup (.cons (.tup (.cons (.loc 3) (.cons (.tup .nil) .nil))) (.cons (.loc 6) .nil)))) .skip) b_word_1)) .skip) b_word_4))
noncomputable def b_word : S := (.seq (.asg 3 (.call 150 (.cons (.loc 0) (.cons (.loc 1) .nil))))
  (.seq (.ite (.loc 3) (.aug 1 .add (.cst (.int 3))) .skip) b_word_5))
noncomputable def b_command_at_1 : S := (.fail [101, 120, 116, 114, 97, 32, 99, 104, 97, 114, 97, 99, 116, 101, 114, 115, 32, 97, 102, 116, 101, 114, 32, 99, 108, 111, 115, 101, 45, 98, 114, 97, 99, 101])
noncomputable def b_command_at_2 : S := (.ite (.cmp .eq (.loc 6) (.loc 8)) (.seq (.ite (.cmp .eq (.sub (.loc 0) (.bin .sub (.loc 8) (.cst (.int 1)))) (.cst (.str [34]))) (.fail [101, 120, 116, 114, 97, 32, 99, 104, 97, 114, 97, 99, 116, 101, 114, 115, 32, 97, 102, 116, 101, 114, 32, 99, 108, 111, 115, 101, 45, 113, 117, 111, 116, 101]) .skip) b_command_at_1) .skip)
noncomputable def b_command_at_3 : S := (.seq (.ite (.and (.loc 2) (.cmp .eq (.sub (.loc 0) (.loc 6)) (.cst (.str [93])))) (.ret (.tup (.cons (.tupleOf (.loc 5)) (.cons (.loc 3) (.cons (.loc 8) (.cons (.loc 6) .nil)))))) .skip) b_command_at_2)
noncomputable def b_command_at_4 : S := (.seq (.ite (.cmp .inn (.sub (.loc 0) (.loc 6)) (.tup (.cons (.cst (.str [10])) (.cons (.cst (.str [59])) .nil)))) (.ret (.tup (.cons (.tupleOf (.loc 5)) (.cons (.loc 3) (.cons (.loc 8) (.cons (.bin .add (.loc 6) (.cst (.int 1))) .nil)))))) .skip) b_command_at_3)
noncomputable def b_command_at_5 : S := (.seq (.asgs [7, 8] (.call 157 (.cons (.loc 0) (.cons (.loc 6) (.cons (.loc 2) .nil)))))
  (.seq (.expr (.append (.loc 5) (.loc 7)))
  (.seq (.asg 6 (.call 87 (.cons (.loc 0) (.cons (.loc 8) .nil))))
  (.seq (.ite (.cmp .ge (.loc 6) (.loc 4)) (.ret (.tup (.cons (.tupleOf (.loc 5)) (.cons (.loc 3) (.cons (.loc 8) (.cons (.loc 4) .nil)))))) .skip) b_command_at_4))))
noncomputable def b_command_at_6 : S := (.seq (.asg 5 (.list .nil))
  (.seq (.asg 6 (.loc 3))
  (.whl (.cst (.bool true)) b_command_at_5)))
noncomputable def b_command_at : S := (.seq (.asg 3 (.call 101 (.cons (.loc 0) (.cons (.loc 1) .nil))))
  (.seq (.asg 4 (.len (.loc 0)))
  (.seq (.ite (.or (.cmp .ge (.loc 3) (.loc 4)) (.and (.loc 2) (.cmp .eq (.sub (.loc 0) (.loc 3)) (.cst (.str [93]))))) (.ret (.cst .none)) .skip) b_command_at_6)))
noncomputable def b_commands_of_1 : S := (.seq (.expr (.append (.loc 1) (.loc 2)))
  (.asg 2 (.call 165 (.cons (.loc 0) (.cons (.sub (.loc 2) (.cst (.int 3))) .nil)))))
noncomputable def b_commands_of_2 : S := (.ret (.loc 1))
noncomputable def b_commands_of : S := (.seq (.asg 1 (.list .nil))
  (.seq (.asg 2 (.call 165 (.cons (.loc 0) (.cons (.cst (.int 0)) .nil))))
  (.seq (.whl (.cmp .isNot (.loc 2) (.cst .none)) b_commands_of_1) b_commands_of_2)))
noncomputable def b_law_pieces : S := (.ret (.list (.cons (.cst (.str [])) (.cons (.cst (.str [123])) (.cons (.cst (.str [125])) (.cons (.cst (.str [91])) (.cons (.cst (.str [93])) (.cons (.cst (.str [34])) (.cons (.cst (.str [36])) (.cons (.cst (.str [59])) (.cons (.cst (.str [92])) (.cons (.cst (.str [35])) (.cons (.cst (.str [40])) (.cons (.cst (.str [41])) (.cons (.cst (.str [32])) (.cons (.cst (.str [10])) (.cons (.cst (.str [97])) (.cons (.cst (.str [58])) (.cons (.cst (.str [42])) (.cons (.cst (.str [9])) (.cons (.cst (.str [57])) (.cons (.cst (.str [95])) (.cons (.cst (.str [233])) (.cons (.cst (.str [123, 42, 125])) (.cons (.cst (.str [36, 123])) (.cons (.cst (.str [36, 97])) (.cons (.cst (.str [36, 97, 40])) (.cons (.cst (.str [92, 10])) (.cons (.cst (.str [58, 58])) (.cons (.cst (.str [125, 32])) (.cons (.cst (.str [34, 32])) (.cons (.cst (.str [97, 32])) (.cons (.cst (.str [12])) (.cons (.cst (.str [90])) (.cons (.cst (.str [91, 97])) (.cons (.cst (.str [123, 97, 125])) (.cons (.cst (.str [59, 32])) (.cons (.cst (.str [92, 125])) (.cons (.cst (.str [36, 40])) (.cons (.cst (.str [13])) (.cons (.cst (.str [11])) (.cons (.cst (.str [35, 97])) .nil))))))))))))))))))))))))))))))))))))))))))
noncomputable def b_law_right_script : S := (.ret (.cst (.str [97, 32, 123, 98, 92, 125, 91, 123, 125, 125, 32, 34, 36, 101, 40, 92, 41, 91, 59, 35, 93, 10, 123, 93, 125, 32, 103, 93, 41, 34, 32, 123, 42, 125, 36, 123, 34, 125, 92, 10, 35, 59, 35, 92])))
noncomputable def b_law_rows : S := (.ret (.cst (.str [97, 92, 92, 10, 92, 10, 92, 92, 92, 10, 123, 98, 125, 99, 34, 91, 92, 10])))
noncomputable def b_law_changed_1 : S := (.seq (.asgsR [4, 5] (.tup (.cons (.sub (.loc 2) (.bin .mod (.loc 3) (.cst (.int 40)))) (.cons (.bin .mod (.bin .fdiv (.loc 3) (.cst (.int 40))) (.bin .add (.len (.loc 0)) (.cst (.int 1)))) .nil))))
  (.asg 0 (.bin .add (.bin .add (.slice (.loc 0) (.cst .none) (.loc 5)) (.loc 4)) (.slice (.loc 0) (.bin .add (.loc 5) (.ite (.cmp .eq (.loc 4) (.cst (.str []))) (.cst (.int 1)) (.cst (.int 0)))) (.cst .none)))))
noncomputable def b_law_changed_2 : S := (.ret (.loc 0))
noncomputable def b_law_changed : S := (.seq (.asg 2 (.call 186 .nil))
  (.seq (.forE [3] (.loc 1) b_law_changed_1) b_law_changed_2))
noncomputable def b_law_is_name : S := (.ret (.cmp .inn (.loc 0) (.cst (.str [97, 98, 99, 100, 101, 102, 103, 104, 105, 106, 107, 108, 109, 110, 111, 112, 113, 114, 115, 116, 117, 118, 119, 120, 121, 122, 65, 66, 67, 68, 69, 70, 71, 72, 73, 74, 75, 76, 77, 78, 79, 80, 81, 82, 83, 84, 85, 86, 87, 88, 89, 90, 48, 49, 50, 51, 52, 53, 54, 55, 56, 57, 95]))))
noncomputable def b_law_open : S := (.expr (.append (.sub (.loc 0) (.cst (.str [115, 116, 97, 99, 107]))) (.list (.cons (.loc 1) (.cons (.loc 2) (.cons (.cst (.str [])) (.cons (.loc 3) .nil)))))))
noncomputable def b_law_in_script : S := (.seq (.asg 2 (.sub (.sub (.loc 0) (.cst (.str [115, 116, 97, 99, 107]))) (.cst (.int (-1)))))
  (.seq (.asg 3 (.sub (.loc 2) (.cst (.int 1))))
  (.ite (.cmp .eq (.loc 3) (.cst (.str [99, 111, 109, 109, 101, 110, 116]))) (.ite (.cmp .eq (.loc 1) (.cst (.str [10]))) (.setSub (.loc 2) (.cst (.int 1)) (.cst (.str [97, 104, 101, 97, 100]))) .skip) (.ite (.cmp .inn (.loc 1) (.cst (.str [32, 9, 11, 12, 13]))) (.ite (.cmp .ne (.loc 3) (.cst (.str [97, 104, 101, 97, 100]))) (.setSub (.loc 2) (.cst (.int 1)) (.cst (.str [103, 97, 112]))) .skip) (.ite (.cmp .inn (.loc 1) (.cst (.str [10, 59]))) (.setSub (.loc 2) (.cst (.int 1)) (.cst (.str [97, 104, 101, 97, 100]))) (.ite (.and (.cmp .eq (.loc 1) (.cst (.str [93]))) (.cmp .gt (.len (.sub (.loc 0) (.cst (.str [115, 116, 97, 99, 107])))) (.cst (.int 1)))) (.expr (.pop (.sub (.loc 0) (.cst (.str [115, 116, 97, 99, 107]))))) (.ite (.and (.cmp .eq (.loc 3) (.cst (.str [97, 104, 101, 97, 100]))) (.cmp .eq (.loc 1) (.cst (.str [35])))) (.setSub (.loc 2) (.cst (.int 1)) (.cst (.str [99, 111, 109, 109, 101, 110, 116]))) (.ite (.cmp .eq (.loc 3) (.cst (.str [98, 101, 104, 105, 110, 100]))) (.setSub (.loc 0) (.cst (.str [105, 115, 95, 102, 97, 117, 108, 116])) (.cst (.bool true))) (.ite (.cmp .eq (.loc 1) (.cst (.str [34]))) (.expr (.call 221 (.cons (.loc 0) (.cons (.cst (.str [113, 117, 111, 116, 101])) (.cons (.cst (.int (-1))) (.cons (.cst (.bool false)) .nil)))))) (.ite (.cmp .eq (.loc 1) (.cst (.str [123]))) (.expr (.call 221 (.cons (.loc 0) (.cons (.cst (.str [98, 114, 97, 99, 101])) (.cons (.cst (.int 1)) (.cons (.cmp .eq (.loc 3) (.cst (.str [115, 116, 97, 114]))) .nil)))))) (.seq (.expr (.call 221 (.cons (.loc 0) (.cons (.cst (.str [98, 97, 114, 101])) (.cons (.cst (.int (-1))) (.cons (.cst (.bool false)) .nil))))))
  (.expr (.call 242 (.cons (.loc 0) (.cons (.loc 1) .nil)))))))))))))))
noncomputable def b_law_goes_on_1 : S := (.ret (.cst (.bool true)))
noncomputable def b_law_goes_on : S := (.seq (.ite (.and (.cmp .eq (.loc 2) (.cst (.str [123]))) (.cmp .eq (.loc 3) (.cst (.int 0)))) (.expr (.call 221 (.cons (.loc 0) (.cons (.cst (.str [110, 97, 109, 101])) (.cons (.cst (.int 0)) (.cons (.cst (.bool false)) .nil)))))) (.ite (.and (.cmp .eq (.loc 2) (.cst (.str [40]))) (.cmp .ne (.loc 3) (.cst (.int 2)))) (.expr (.call 221 (.cons (.loc 0) (.cons (.cst (.str [105, 110, 100, 101, 120])) (.cons (.cst (.int (-1))) (.cons (.cst (.bool false)) .nil)))))) (.ite (.cmp .eq (.loc 2) (.cst (.str [58]))) (.setSub (.loc 1) (.cst (.int 1)) (.ite (.cmp .ge (.loc 3) (.cst (.int 2))) (.cst (.int 3)) (.cst (.int 2)))) (.ite (.and (.cmp .ne (.loc 3) (.cst (.int 2))) (.call 214 (.cons (.loc 2) .nil))) (.setSub (.loc 1) (.cst (.int 1)) (.cst (.int 1))) (.ret (.cst (.bool false))))))) b_law_goes_on_1)
noncomputable def b_law_in_parts_1 : S := (.ite (.and (.cmp .eq (.loc 4) (.cst (.str [98, 97, 114, 101]))) (.or (.cmp .inn (.loc 1) (.cst (.str [32, 9, 11, 12, 13, 10, 59]))) (.and (.cmp .eq (.loc 1) (.cst (.str [93]))) (.cmp .gt (.len (.loc 2)) (.cst (.int 2)))))) (.seq (.expr (.pop (.loc 2)))
  (.seq (.setSub (.sub (.loc 2) (.cst (.int (-1)))) (.cst (.int 1)) (.cst (.str [103, 97, 112])))
  (.expr (.call 228 (.cons (.loc 0) (.cons (.loc 1) .nil)))))) (.ite (.and (.cmp .eq (.loc 4) (.cst (.str [113, 117, 111, 116, 101]))) (.cmp .eq (.loc 1) (.cst (.str [34])))) (.seq (.expr (.pop (.loc 2)))
  (.setSub (.sub (.loc 2) (.cst (.int (-1)))) (.cst (.int 1)) (.cst (.str [98, 101, 104, 105, 110, 100])))) (.ite (.and (.cmp .eq (.loc 4) (.cst (.str [105, 110, 100, 101, 120]))) (.cmp .eq (.loc 1) (.cst (.str [41])))) (.expr (.pop (.loc 2))) (.ite (.cmp .eq (.loc 1) (.cst (.str [36]))) (.setSub (.loc 3) (.cst (.int 1)) (.cst (.int 0))) (.ite (.cmp .eq (.loc 1) (.cst (.str [91]))) (.expr (.call 221 (.cons (.loc 0) (.cons (.cst (.str [115, 99, 114, 105, 112, 116])) (.cons (.cst (.str [97, 104, 101, 97, 100])) (.cons (.cst (.bool false)) .nil)))))) .skip)))))
noncomputable def b_law_in_parts : S := (.seq (.asg 2 (.sub (.loc 0) (.cst (.str [115, 116, 97, 99, 107]))))
  (.seq (.asg 3 (.sub (.loc 2) (.cst (.int (-1)))))
  (.seq (.asgsR [4, 5] (.tup (.cons (.sub (.loc 3) (.cst (.int 0))) (.cons (.sub (.loc 3) (.cst (.int 1))) .nil))))
  (.seq (.setSub (.loc 3) (.cst (.int 1)) (.cst (.int (-1))))
  (.seq (.ite (.and (.cmp .ge (.loc 5) (.cst (.int 0))) (.call 235 (.cons (.loc 0) (.cons (.loc 3) (.cons (.loc 1) (.cons (.loc 5) .nil)))))) (.ret (.cst .none)) .skip) b_law_in_parts_1)))))
noncomputable def b_law_in_braces_1 : S := (.setSub (.loc 2) (.cst (.int 2)) (.bin .add (.sub (.loc 2) (.cst (.int 2))) (.loc 1)))
noncomputable def b_law_in_braces : S := (.seq (.asg 2 (.sub (.sub (.loc 0) (.cst (.str [115, 116, 97, 99, 107]))) (.cst (.int (-1)))))
  (.seq (.augSub (.loc 2) (.cst (.int 1)) .add (.ite (.cmp .eq (.loc 1) (.cst (.str [123]))) (.cst (.int 1)) (.ite (.cmp .eq (.loc 1) (.cst (.str [125]))) (.cst (.int (-1))) (.cst (.int 0)))))
  (.seq (.ite (.cmp .eq (.sub (.loc 2) (.cst (.int 1))) (.cst (.int 0))) (.seq (.expr (.pop (.sub (.loc 0) (.cst (.str [115, 116, 97, 99, 107])))))
  (.setSub (.sub (.sub (.loc 0) (.cst (.str [115, 116, 97, 99, 107]))) (.cst (.int (-1)))) (.cst (.int 1)) (.ite (.and (.cmp .eq (.sub (.loc 2) (.cst (.int 2))) (.cst (.str [42]))) (.not (.sub (.loc 2) (.cst (.int 3))))) (.cst (.str [115, 116, 97, 114])) (.cst (.str [98, 101, 104, 105, 110, 100]))))) .skip) b_law_in_braces_1)))
noncomputable def b_law_bent : S := (.seq (.asg 2 (.sub (.sub (.loc 0) (.cst (.str [115, 116, 97, 99, 107]))) (.cst (.int (-1)))))
  (.ite (.and (.cmp .eq (.sub (.loc 2) (.cst (.int 0))) (.cst (.str [115, 99, 114, 105, 112, 116]))) (.cmp .ne (.sub (.loc 2) (.cst (.int 1))) (.cst (.str [99, 111, 109, 109, 101, 110, 116])))) (.ite (.cmp .eq (.loc 1) (.cst (.str [10]))) (.setSub (.loc 2) (.cst (.int 1)) (.ite (.cmp .eq (.sub (.loc 2) (.cst (.int 1))) (.cst (.str [97, 104, 101, 97, 100]))) (.cst (.str [97, 104, 101, 97, 100])) (.cst (.str [103, 97, 112])))) (.ite (.cmp .eq (.sub (.loc 2) (.cst (.int 1))) (.cst (.str [98, 101, 104, 105, 110, 100]))) (.setSub (.loc 0) (.cst (.str [105, 115, 95, 102, 97, 117, 108, 116])) (.cst (.bool true))) (.expr (.call 221 (.cons (.loc 0) (.cons (.cst (.str [98, 97, 114, 101])) (.cons (.cst (.int (-1))) (.cons (.cst (.bool false)) .nil)))))))) (.ite (.and (.cmp .eq (.sub (.loc 2) (.cst (.int 0))) (.cst (.str [98, 97, 114, 101]))) (.cmp .eq (.loc 1) (.cst (.str [10])))) (.seq (.expr (.pop (.sub (.loc 0) (.cst (.str [115, 116, 97, 99, 107])))))
  (.setSub (.sub (.sub (.loc 0) (.cst (.str [115, 116, 97, 99, 107]))) (.cst (.int (-1)))) (.cst (.int 1)) (.cst (.str [103, 97, 112])))) .skip)))
noncomputable def b_law_take_1 : S := (.ite (.and (.cmp .eq (.loc 2) (.cst (.str [98, 114, 97, 99, 101]))) (.or (.loc 3) (.sub (.loc 0) (.cst (.str [105, 115, 95, 104, 101, 108, 100]))))) (.setSub (.sub (.sub (.loc 0) (.cst (.str [115, 116, 97, 99, 107]))) (.cst (.int (-1)))) (.cst (.int 2)) (.cst (.str [110, 111, 32, 115, 116, 97, 114]))) .skip)
noncomputable def b_law_take : S := (.seq (.asgsR [2, 3] (.tup (.cons (.sub (.sub (.sub (.loc 0) (.cst (.str [115, 116, 97, 99, 107]))) (.cst (.int (-1)))) (.cst (.int 0))) (.cons (.sub (.loc 0) (.cst (.str [105, 115, 95, 104, 101, 108, 100]))) .nil))))
  (.seq (.setSub2 (.loc 0) (.cst (.str [105, 115, 95, 104, 101, 108, 100])) (.loc 0) (.cst (.str [105, 115, 95, 99, 111, 110, 116, 105, 110, 117, 101, 100])) (.tup (.cons (.cst (.bool false)) (.cons (.and (.loc 3) (.cmp .eq (.loc 1) (.cst (.str [10])))) .nil))))
  (.seq (.ite (.cmp .eq (.loc 2) (.cst (.str [110, 97, 109, 101]))) (.ite (.cmp .eq (.loc 1) (.cst (.str [125]))) (.expr (.pop (.sub (.loc 0) (.cst (.str [115, 116, 97, 99, 107]))))) .skip) (.ite (.loc 3) (.expr (.call 256 (.cons (.loc 0) (.cons (.loc 1) .nil)))) (.ite (.cmp .eq (.loc 1) (.cst (.str [92]))) (.seq (.setSub (.loc 0) (.cst (.str [105, 115, 95, 104, 101, 108, 100])) (.cst (.bool true)))
  (.ite (.cmp .inn (.loc 2) (.tup (.cons (.cst (.str [98, 97, 114, 101])) (.cons (.cst (.str [113, 117, 111, 116, 101])) (.cons (.cst (.str [105, 110, 100, 101, 120])) .nil))))) (.setSub (.sub (.sub (.loc 0) (.cst (.str [115, 116, 97, 99, 107]))) (.cst (.int (-1)))) (.cst (.int 1)) (.cst (.int (-1)))) .skip)) (.ite (.cmp .eq (.loc 2) (.cst (.str [115, 99, 114, 105, 112, 116]))) (.expr (.call 228 (.cons (.loc 0) (.cons (.loc 1) .nil)))) (.ite (.cmp .eq (.loc 2) (.cst (.str [98, 114, 97, 99, 101]))) (.expr (.call 249 (.cons (.loc 0) (.cons (.loc 1) .nil)))) (.expr (.call 242 (.cons (.loc 0) (.cons (.loc 1) .nil))))))))) b_law_take_1)))
noncomputable def b_law_is_faulty : S := (.seq (.asg 1 (.sub (.sub (.loc 0) (.cst (.str [115, 116, 97, 99, 107]))) (.cst (.int (-1)))))
  (.ret (.or (.sub (.loc 0) (.cst (.str [105, 115, 95, 102, 97, 117, 108, 116]))) (.and (.sub (.loc 0) (.cst (.str [105, 115, 95, 104, 101, 108, 100]))) (.and (.cmp .eq (.sub (.loc 1) (.cst (.int 0))) (.cst (.str [115, 99, 114, 105, 112, 116]))) (.cmp .eq (.sub (.loc 1) (.cst (.int 1))) (.cst (.str [98, 101, 104, 105, 110, 100]))))))))
noncomputable def b_law_is_right_1 : S := (.ret (.not (.sub (.loc 0) (.cst (.str [105, 115, 95, 99, 111, 110, 116, 105, 110, 117, 101, 100])))))
noncomputable def b_law_is_right_2 : S := (.seq (.ite (.or (.cmp .gt (.len (.loc 1)) (.cst (.int 2))) (.and (.cmp .eq (.len (.loc 1)) (.cst (.int 2))) (.cmp .ne (.sub (.sub (.loc 1) (.cst (.int 1))) (.cst (.int 0))) (.cst (.str [98, 97, 114, 101]))))) (.ret (.cst (.bool false))) .skip) b_law_is_right_1)
noncomputable def b_law_is_right : S := (.seq (.asg 1 (.sub (.loc 0) (.cst (.str [115, 116, 97, 99, 107]))))
  (.seq (.ite (.call 270 (.cons (.loc 0) .nil)) (.ret (.cst (.bool true))) .skip) b_law_is_right_2))
noncomputable def b_law_begin : S := (.ret (.dict ([115, 116, 97, 99, 107] :: ([105, 115, 95, 104, 101, 108, 100] :: ([105, 115, 95, 99, 111, 110, 116, 105, 110, 117, 101, 100] :: ([105, 115, 95, 102, 97, 117, 108, 116] :: [])))) (.cons (.list (.cons (.list (.cons (.cst (.str [115, 99, 114, 105, 112, 116])) (.cons (.cst (.str [97, 104, 101, 97, 100])) (.cons (.cst (.str [])) (.cons (.cst (.bool false)) .nil))))) .nil)) (.cons (.cst (.bool false)) (.cons (.cst (.bool false)) (.cons (.cst (.bool false)) .nil))))))
noncomputable def b_law_walk_1 : S := (.expr (.append (.loc 2) (.call 277 (.cons (.loc 1) .nil))))
noncomputable def b_law_walk_2 : S := (.seq (.ite (.not (.sub (.loc 1) (.cst (.str [105, 115, 95, 102, 97, 117, 108, 116])))) (.expr (.call 263 (.cons (.loc 1) (.cons (.loc 3) .nil)))) .skip) b_law_walk_1)
noncomputable def b_law_walk_3 : S := (.ret (.tup (.cons (.loc 2) (.cons (.loc 1) .nil))))
noncomputable def b_law_walk : S := (.seq (.asg 1 (.call 284 .nil))
  (.seq (.asg 2 (.list (.cons (.cst (.bool true)) .nil)))
  (.seq (.forE [3] (.loc 0) b_law_walk_2) b_law_walk_3)))
noncomputable def b_law_closings_1 : S := (.seq (.asgsR [4, 5] (.tup (.cons (.sub (.sub (.loc 1) (.loc 3)) (.cst (.int 0))) (.cons (.sub (.sub (.loc 1) (.loc 3)) (.cst (.int 1))) .nil))))
  (.ite (.cmp .eq (.loc 4) (.cst (.str [98, 114, 97, 99, 101]))) (.asg 2 (.bin .add (.loc 2) (.bin .mul (.cst (.str [125])) (.loc 5)))) (.ite (.cmp .eq (.loc 4) (.cst (.str [113, 117, 111, 116, 101]))) (.asg 2 (.bin .add (.loc 2) (.cst (.str [34])))) (.ite (.cmp .eq (.loc 4) (.cst (.str [105, 110, 100, 101, 120]))) (.asg 2 (.bin .add (.loc 2) (.cst (.str [41])))) (.ite (.cmp .eq (.loc 4) (.cst (.str [110, 97, 109, 101]))) (.asg 2 (.bin .add (.loc 2) (.cst (.str [125])))) (.ite (.cmp .eq (.loc 4) (.cst (.str [115, 99, 114, 105, 112, 116]))) (.asg 2 (.bin .add (.loc 2) (.ite (.cmp .eq (.loc 5) (.cst (.str [99, 111, 109, 109, 101, 110, 116]))) (.cst (.str [10, 93])) (.cst (.str [93]))))) .skip))))))
noncomputable def b_law_closings_2 : S := (.ret (.loc 2))
noncomputable def b_law_closings : S := (.seq (.asgsR [1, 2] (.tup (.cons (.sub (.loc 0) (.cst (.str [115, 116, 97, 99, 107]))) (.cons (.cst (.str [])) .nil))))
  (.seq (.forR 3 (.bin .sub (.len (.loc 1)) (.cst (.int 1))) (.cst (.int 0)) (.cst (.int (-1))) b_law_closings_1) b_law_closings_2))
noncomputable def b_law_closed_right_1 : S := (.ret (.and (.call 179 (.cons (.bin .add (.loc 0) (.loc 3)) .nil)) (.not (.call 179 (.cons (.bin .add (.loc 0) (.slice (.loc 3) (.cst .none) (.cst (.int (-1))))) .nil)))))
noncomputable def b_law_closed_right_2 : S := (.seq (.asg 3 (.call 298 (.cons (.loc 2) .nil)))
  (.seq (.ite (.cmp .eq (.loc 3) (.cst (.str []))) (.ret (.call 179 (.cons (.bin .add (.loc 0) (.cst (.str [32]))) .nil))) .skip) b_law_closed_right_1))
noncomputable def b_law_closed_right_3 : S := (.seq (.ite (.sub (.loc 2) (.cst (.str [105, 115, 95, 104, 101, 108, 100]))) (.seq (.asg 0 (.bin .add (.loc 0) (.cst (.str [46]))))
  (.expr (.call 263 (.cons (.loc 2) (.cons (.cst (.str [46])) .nil))))) .skip) b_law_closed_right_2)
noncomputable def b_law_closed_right : S := (.seq (.asgs [1, 2] (.call 291 (.cons (.loc 0) .nil)))
  (.seq (.ite (.call 270 (.cons (.loc 2) .nil)) (.ret (.call 179 (.cons (.loc 0) .nil))) .skip) b_law_closed_right_3))
noncomputable def b_is_complete_1 : S := (.aug 3 .sub (.cst (.int 1)))
noncomputable def b_is_complete_2 : S := (.ret (.cmp .eq (.bin .mod (.bin .sub (.loc 2) (.loc 3)) (.cst (.int 2))) (.cst (.int 0))))
noncomputable def b_is_complete_3 : S := (.seq (.asg 2 (.bin .sub (.len (.loc 0)) (.cst (.int 1))))
  (.seq (.asg 3 (.loc 2))
  (.seq (.whl (.and (.cmp .gt (.loc 3) (.cst (.int 0))) (.cmp .eq (.sub (.loc 0) (.bin .sub (.loc 3) (.cst (.int 1)))) (.cst (.str [92])))) b_is_complete_1) b_is_complete_2)))
noncomputable def b_is_complete : S := (.seq (.tryE (.call 172 (.cons (.loc 0) .nil)) [109, 105, 115, 115, 105, 110, 103])
  (.seq (.ite (.cmp .ne (.slice (.loc 0) (.cst (.int (-1))) (.cst .none)) (.cst (.str [10]))) (.ret (.cst (.bool true))) .skip) b_is_complete_3))
end
section
structure Prg (K : Nat → Call) : Prop where
  f52 : ∀ {n ds cells P X}, ds.length = 1 → wpS (K n) b_digit (init 2 ds cells) (fun fl σ => P fl.val σ.cells) X → K (n + 1) 52 ds cells P X
  f59 : ∀ {n ds cells P X}, ds.length = 2 → wpS (K n) b_hex_sign (init 6 ds cells) (fun fl σ => P fl.val σ.cells) X → K (n + 1) 59 ds cells P X
  f66 : ∀ {n ds cells P X}, ds.length = 2 → wpS (K n) b_octal_sign (init 5 ds cells) (fun fl σ => P fl.val σ.cells) X → K (n + 1) 66 ds cells P X
  f73 : ∀ {n ds cells P X}, ds.length = 2 → wpS (K n) b_backslash (init 5 ds cells) (fun fl σ => P fl.val σ.cells) X → K (n + 1) 73 ds cells P X
  f80 : ∀ {n ds cells P X}, ds.length = 1 → wpS (K n) b_is_gap (init 1 ds cells) (fun fl σ => P fl.val σ.cells) X → K (n + 1) 80 ds cells P X
  f87 : ∀ {n ds cells P X}, ds.length = 2 → wpS (K n) b_skip_gaps (init 2 ds cells) (fun fl σ => P fl.val σ.cells) X → K (n + 1) 87 ds cells P X
  f94 : ∀ {n ds cells P X}, ds.length = 2 → wpS (K n) b_comment_behind (init 3 ds cells) (fun fl σ => P fl.val σ.cells) X → K (n + 1) 94 ds cells P X
  f101 : ∀ {n ds cells P X}, ds.length = 2 → wpS (K n) b_skip_to_command (init 2 ds cells) (fun fl σ => P fl.val σ.cells) X → K (n + 1) 101 ds cells P X
  f108 : ∀ {n ds cells P X}, ds.length = 2 → wpS (K n) b_read_name (init 2 ds cells) (fun fl σ => P fl.val σ.cells) X → K (n + 1) 108 ds cells P X
  f115 : ∀ {n ds cells P X}, ds.length = 2 → wpS (K n) b_variable (init 6 ds cells) (fun fl σ => P fl.val σ.cells) X → K (n + 1) 115 ds cells P X
  f122 : ∀ {n ds cells P X}, ds.length = 2 → wpS (K n) b_brackets (init 5 ds cells) (fun fl σ => P fl.val σ.cells) X → K (n + 1) 122 ds cells P X
  f129 : ∀ {n ds cells P X}, ds.length = 2 → wpS (K n) b_braces (init 9 ds cells) (fun fl σ => P fl.val σ.cells) X → K (n + 1) 129 ds cells P X
  f136 : ∀ {n ds cells P X}, ds.length = 3 → wpS (K n) b_parts_until (init 10 ds cells) (fun fl σ => P fl.val σ.cells) X → K (n + 1) 136 ds cells P X
  f143 : ∀ {n ds cells P X}, ds.length = 1 → wpS (K n) b_bare_stops (init 1 ds cells) (fun fl σ => P fl.val σ.cells) X → K (n + 1) 143 ds cells P X
  f150 : ∀ {n ds cells P X}, ds.length = 2 → wpS (K n) b_is_expanded (init 3 ds cells) (fun fl σ => P fl.val σ.cells) X → K (n + 1) 150 ds cells P X
  f157 : ∀ {n ds cells P X}, ds.length = 3 → wpS (K n) b_word (init 9 ds cells) (fun fl σ => P fl.val σ.cells) X → K (n + 1) 157 ds cells P X
  f165 : ∀ {n ds cells P X}, ds.length = 3 → wpS (K n) b_command_at (init 9 ds cells) (fun fl σ => P fl.val σ.cells) X → K (n + 1) 165 ds cells P X
  f172 : ∀ {n ds cells P X}, ds.length = 1 → wpS (K n) b_commands_of (init 3 ds cells) (fun fl σ => P fl.val σ.cells) X → K (n + 1) 172 ds cells P X
  f186 : ∀ {n ds cells P X}, ds.length = 0 → wpS (K n) b_law_pieces (init 0 ds cells) (fun fl σ => P fl.val σ.cells) X → K (n + 1) 186 ds cells P X
  f193 : ∀ {n ds cells P X}, ds.length = 0 → wpS (K n) b_law_right_script (init 0 ds cells) (fun fl σ => P fl.val σ.cells) X → K (n + 1) 193 ds cells P X
  f200 : ∀ {n ds cells P X}, ds.length = 0 → wpS (K n) b_law_rows (init 0 ds cells) (fun fl σ => P fl.val σ.cells) X → K (n + 1) 200 ds cells P X
  f207 : ∀ {n ds cells P X}, ds.length = 2 → wpS (K n) b_law_changed (init 6 ds cells) (fun fl σ => P fl.val σ.cells) X → K (n + 1) 207 ds cells P X
  f214 : ∀ {n ds cells P X}, ds.length = 1 → wpS (K n) b_law_is_name (init 1 ds cells) (fun fl σ => P fl.val σ.cells) X → K (n + 1) 214 ds cells P X
  f221 : ∀ {n ds cells P X}, ds.length = 4 → wpS (K n) b_law_open (init 4 ds cells) (fun fl σ => P fl.val σ.cells) X → K (n + 1) 221 ds cells P X
  f228 : ∀ {n ds cells P X}, ds.length = 2 → wpS (K n) b_law_in_script (init 4 ds cells) (fun fl σ => P fl.val σ.cells) X → K (n + 1) 228 ds cells P X
  f235 : ∀ {n ds cells P X}, ds.length = 4 → wpS (K n) b_law_goes_on (init 4 ds cells) (fun fl σ => P fl.val σ.cells) X → K (n + 1) 235 ds cells P X
  f242 : ∀ {n ds cells P X}, ds.length = 2 → wpS (K n) b_law_in_parts (init 6 ds cells) (fun fl σ => P fl.val σ.cells) X → K (n + 1) 242 ds cells P X
  f249 : ∀ {n ds cells P X}, ds.length = 2 → wpS (K n) b_law_in_braces (init 3 ds cells) (fun fl σ => P fl.val σ.cells) X → K (n + 1) 249 ds cells P X
  f256 : ∀ {n ds cells P X}, ds.length = 2 → wpS (K n) b_law_bent (init 3 ds cells) (fun fl σ => P fl.val σ.cells) X → K (n + 1) 256 ds cells P X
  f263 : ∀ {n ds cells P X}, ds.length = 2 → wpS (K n) b_law_take (init 4 ds cells) (fun fl σ => P fl.val σ.cells) X → K (n + 1) 263 ds cells P X
  f270 : ∀ {n ds cells P X}, ds.length = 1 → wpS (K n) b_law_is_faulty (init 2 ds cells) (fun fl σ => P fl.val σ.cells) X → K (n + 1) 270 ds cells P X
  f277 : ∀ {n ds cells P X}, ds.length = 1 → wpS (K n) b_law_is_right (init 2 ds cells) (fun fl σ => P fl.val σ.cells) X → K (n + 1) 277 ds cells P X
  f284 : ∀ {n ds cells P X}, ds.length = 0 → wpS (K n) b_law_begin (init 0 ds cells) (fun fl σ => P fl.val σ.cells) X → K (n + 1) 284 ds cells P X
  f291 : ∀ {n ds cells P X}, ds.length = 1 → wpS (K n) b_law_walk (init 4 ds cells) (fun fl σ => P fl.val σ.cells) X → K (n + 1) 291 ds cells P X
  f298 : ∀ {n ds cells P X}, ds.length = 1 → wpS (K n) b_law_closings (init 6 ds cells) (fun fl σ => P fl.val σ.cells) X → K (n + 1) 298 ds cells P X
  f305 : ∀ {n ds cells P X}, ds.length = 1 → wpS (K n) b_law_closed_right (init 4 ds cells) (fun fl σ => P fl.val σ.cells) X → K (n + 1) 305 ds cells P X
  f165d : ∀ {n ds cells P X}, ds.length = 2 → wpS (K n) b_command_at (init 9 (ds ++ [.bool false]) cells) (fun fl σ => P fl.val σ.cells) X → K (n + 1) 165 ds cells P X
  f179 : ∀ {n ds cells P X}, ds.length = 1 → wpS (K n) b_is_complete (init 4 ds cells) (fun fl σ => P fl.val σ.cells) X → K (n + 1) 179 ds cells P X
end
section
noncomputable def b_law_1 : S := (.ite (.cmp .ne (.call 179 (.cons (.slice (.loc 4) (.cst .none) (.loc 9)) .nil)) (.sub (.loc 7) (.loc 9))) (.ret (.cst (.bool false))) .skip)
noncomputable def b_law_2 : S := (.seq (.asgs [7, 8] (.call 291 (.cons (.loc 4) .nil)))
  (.forR 9 (.loc 5) (.bin .add (.len (.loc 4)) (.cst (.int 1))) (.loc 6) b_law_1))
noncomputable def b_law_3 : S := (.ret (.and (.call 305 (.cons (.loc 1) .nil)) (.call 305 (.cons (.loc 3) .nil))))
noncomputable def b_law : S := (.seq (.asg 2 (.call 207 (.cons (.call 193 .nil) (.cons (.slice (.loc 0) (.cst .none) (.cst (.int 3))) .nil))))
  (.seq (.asg 3 (.slice (.loc 2) (.cst .none) (.bin .mod (.bin .add (.cst (.int 24)) (.sum (.loc 0))) (.bin .add (.len (.loc 2)) (.cst (.int 1))))))
  (.seq (.forE [4, 5, 6] (.list (.cons (.tup (.cons (.loc 1) (.cons (.cst (.int 0)) (.cons (.cst (.int 1)) .nil)))) (.cons (.tup (.cons (.call 200 .nil) (.cons (.cst (.int 0)) (.cons (.cst (.int 1)) .nil)))) (.cons (.tup (.cons (.loc 2) (.cons (.bin .mod (.len (.loc 0)) (.cst (.int 2))) (.cons (.cst (.int 2)) .nil)))) .nil)))) b_law_2)
  b_law_3)))
end
section
open PySem PySem.Calls PySem.W PyProof.Rows
section
variable {prog : Program} {w : World} {base : Heap} {mg mb : Str → Option Value}
theorem fail_all (T : TopOk prog w base mg mb) : FailOk prog w base := fail_ok T.B T.K T.nE T.bE T.gR (T.tbl _ _ (.head _)).1
theorem one_local {env : Env} {names : List Str} {x : Str} (ok : EnvOk env names) (h : (ixOf x names).isSome = true) : env.kindOf x = some .local ∧ (x == ("__debug__" : Str)) = false := by
  obtain ⟨i, e⟩ := Option.isSome_iff_exists.mp h
  exact ⟨ok.loc _ _ (ixOf_get e), ok.dbg _ _ (ixOf_get e)⟩
theorem s_is_complete (T : TopOk prog w base mg mb) (L : Addr) (ok : EnvOk (callEnv (fdAt w.params 179) L 179) (locals (fdAt w.params 179).scope)) : SoundS prog w base 33 (callEnv (fdAt w.params 179) L 179) (locals (fdAt w.params 179).scope) fnA (bodyOf (fdAt w.params 179)) b_is_complete := by
  have hl := one_local (x := Str.ofString "raised") ok (by kernel_rfl)
  exact sound_seq (sound_try (pre := [109, 105, 115, 115, 105, 110, 103]) T.B T.K T.gR ok (by kernel_rfl) hl.1 hl.2 (by kernel_rfl) rfl rfl (tE_ok T ok (by kernel_rfl)).1) (tSs_ok T (fail_all T) ok (n := 60) (by kernel_rfl))
theorem prg_ok (T : TopOk prog w base mg mb) : Prg (CallOK prog w base 33 fnA) := {
  f52 := p_of T (fail_all T) (by kernel_rfl) (by kernel_rfl) (by kernel_rfl) (fun L => by kernel_rfl) (fun S => all1 (fun x0 => by kernel_rfl))
  f59 := p_of T (fail_all T) (by kernel_rfl) (by kernel_rfl) (by kernel_rfl) (fun L => by kernel_rfl) (fun S => all2 (fun x0 => fun x1 => by kernel_rfl))
  f66 := p_of T (fail_all T) (by kernel_rfl) (by kernel_rfl) (by kernel_rfl) (fun L => by kernel_rfl) (fun S => all2 (fun x0 => fun x1 => by kernel_rfl))
  f73 := p_of T (fail_all T) (by kernel_rfl) (by kernel_rfl) (by kernel_rfl) (fun L => by kernel_rfl) (fun S => all2 (fun x0 => fun x1 => by kernel_rfl))
  f80 := p_of T (fail_all T) (by kernel_rfl) (by kernel_rfl) (by kernel_rfl) (fun L => by kernel_rfl) (fun S => all1 (fun x0 => by kernel_rfl))
  f87 := p_of T (fail_all T) (by kernel_rfl) (by kernel_rfl) (by kernel_rfl) (fun L => by kernel_rfl) (fun S => all2 (fun x0 => fun x1 => by kernel_rfl))
  f94 := p_of T (fail_all T) (by kernel_rfl) (by kernel_rfl) (by kernel_rfl) (fun L => by kernel_rfl) (fun S => all2 (fun x0 => fun x1 => by kernel_rfl))
  f101 := p_of T (fail_all T) (by kernel_rfl) (by kernel_rfl) (by kernel_rfl) (fun L => by kernel_rfl) (fun S => all2 (fun x0 => fun x1 => by kernel_rfl))
  f108 := p_of T (fail_all T) (by kernel_rfl) (by kernel_rfl) (by kernel_rfl) (fun L => by kernel_rfl) (fun S => all2 (fun x0 => fun x1 => by kernel_rfl))
  f115 := p_of T (fail_all T) (by kernel_rfl) (by kernel_rfl) (by kernel_rfl) (fun L => by kernel_rfl) (fun S => all2 (fun x0 => fun x1 => by kernel_rfl))
  f122 := p_of T (fail_all T) (by kernel_rfl) (by kernel_rfl) (by kernel_rfl) (fun L => by kernel_rfl) (fun S => all2 (fun x0 => fun x1 => by kernel_rfl))
  f129 := p_of T (fail_all T) (by kernel_rfl) (by kernel_rfl) (by kernel_rfl) (fun L => by kernel_rfl) (fun S => all2 (fun x0 => fun x1 => by kernel_rfl))
  f136 := p_of T (fail_all T) (by kernel_rfl) (by kernel_rfl) (by kernel_rfl) (fun L => by kernel_rfl) (fun S => all3 (fun x0 => fun x1 => fun x2 => by kernel_rfl))
  f143 := p_of T (fail_all T) (by kernel_rfl) (by kernel_rfl) (by kernel_rfl) (fun L => by kernel_rfl) (fun S => all1 (fun x0 => by kernel_rfl))
  f150 := p_of T (fail_all T) (by kernel_rfl) (by kernel_rfl) (by kernel_rfl) (fun L => by kernel_rfl) (fun S => all2 (fun x0 => fun x1 => by kernel_rfl))
  f157 := p_of T (fail_all T) (by kernel_rfl) (by kernel_rfl) (by kernel_rfl) (fun L => by kernel_rfl) (fun S => all3 (fun x0 => fun x1 => fun x2 => by kernel_rfl))
  f165 := p_of T (fail_all T) (by kernel_rfl) (by kernel_rfl) (by kernel_rfl) (fun L => by kernel_rfl) (fun S => all3 (fun x0 => fun x1 => fun x2 => by kernel_rfl))
  f172 := p_of T (fail_all T) (by kernel_rfl) (by kernel_rfl) (by kernel_rfl) (fun L => by kernel_rfl) (fun S => all1 (fun x0 => by kernel_rfl))
  f186 := p_of T (fail_all T) (by kernel_rfl) (by kernel_rfl) (by kernel_rfl) (fun L => by kernel_rfl) (fun S => all0 (by kernel_rfl))
  f193 := p_of T (fail_all T) (by kernel_rfl) (by kernel_rfl) (by kernel_rfl) (fun L => by kernel_rfl) (fun S => all0 (by kernel_rfl))
  f200 := p_of T (fail_all T) (by kernel_rfl) (by kernel_rfl) (by kernel_rfl) (fun L => by kernel_rfl) (fun S => all0 (by kernel_rfl))
  f207 := p_of T (fail_all T) (by kernel_rfl) (by kernel_rfl) (by kernel_rfl) (fun L => by kernel_rfl) (fun S => all2 (fun x0 => fun x1 => by kernel_rfl))
  f214 := p_of T (fail_all T) (by kernel_rfl) (by kernel_rfl) (by kernel_rfl) (fun L => by kernel_rfl) (fun S => all1 (fun x0 => by kernel_rfl))
  f221 := p_of T (fail_all T) (by kernel_rfl) (by kernel_rfl) (by kernel_rfl) (fun L => by kernel_rfl) (fun S => all4 (fun x0 => fun x1 => fun x2 => fun x3 => by kernel_rfl))
  f228 := p_of T (fail_all T) (by kernel_rfl) (by kernel_rfl) (by kernel_rfl) (fun L => by kernel_rfl) (fun S => all2 (fun x0 => fun x1 => by kernel_rfl))
  f235 := p_of T (fail_all T) (by kernel_rfl) (by kernel_rfl) (by kernel_rfl) (fun L => by kernel_rfl) (fun S => all4 (fun x0 => fun x1 => fun x2 => fun x3 => by kernel_rfl))
  f242 := p_of T (fail_all T) (by kernel_rfl) (by kernel_rfl) (by kernel_rfl) (fun L => by kernel_rfl) (fun S => all2 (fun x0 => fun x1 => by kernel_rfl))
  f249 := p_of T (fail_all T) (by kernel_rfl) (by kernel_rfl) (by kernel_rfl) (fun L => by kernel_rfl) (fun S => all2 (fun x0 => fun x1 => by kernel_rfl))
  f256 := p_of T (fail_all T) (by kernel_rfl) (by kernel_rfl) (by kernel_rfl) (fun L => by kernel_rfl) (fun S => all2 (fun x0 => fun x1 => by kernel_rfl))
  f263 := p_of T (fail_all T) (by kernel_rfl) (by kernel_rfl) (by kernel_rfl) (fun L => by kernel_rfl) (fun S => all2 (fun x0 => fun x1 => by kernel_rfl))
  f270 := p_of T (fail_all T) (by kernel_rfl) (by kernel_rfl) (by kernel_rfl) (fun L => by kernel_rfl) (fun S => all1 (fun x0 => by kernel_rfl))
  f277 := p_of T (fail_all T) (by kernel_rfl) (by kernel_rfl) (by kernel_rfl) (fun L => by kernel_rfl) (fun S => all1 (fun x0 => by kernel_rfl))
  f284 := p_of T (fail_all T) (by kernel_rfl) (by kernel_rfl) (by kernel_rfl) (fun L => by kernel_rfl) (fun S => all0 (by kernel_rfl))
  f291 := p_of T (fail_all T) (by kernel_rfl) (by kernel_rfl) (by kernel_rfl) (fun L => by kernel_rfl) (fun S => all1 (fun x0 => by kernel_rfl))
  f298 := p_of T (fail_all T) (by kernel_rfl) (by kernel_rfl) (by kernel_rfl) (fun L => by kernel_rfl) (fun S => all1 (fun x0 => by kernel_rfl))
  f305 := p_of T (fail_all T) (by kernel_rfl) (by kernel_rfl) (by kernel_rfl) (fun L => by kernel_rfl) (fun S => all1 (fun x0 => by kernel_rfl))
  f165d := p_gen T (a := 165) (names := locals (fdAt w.params 165).scope) (k := 2) (nn := 9) (dx := [.bool false]) (ex := [.bool false]) (by kernel_rfl) (by kernel_rfl) (by kernel_rfl) (fun L ok => tSs_ok T (fail_all T) ok (n := 60) (by kernel_rfl)) (fun S => all2 fun x y => by kernel_rfl) (fun _ _ => ⟨_, _, rfl, rfl, rfl⟩)
  f179 := fun hl h => p_gen T (a := 179) (names := locals (fdAt w.params 179).scope) (k := 1) (nn := 4) (dx := []) (ex := []) (by kernel_rfl) (by kernel_rfl) (by kernel_rfl) (s_is_complete T) (fun S => all1 fun x => by kernel_rfl) (fun _ _ => rfl) hl (by rw [List.append_nil]; exact h) }
noncomputable abbrev envL (P : Params) (nm : Str) (L a : Addr) (cd : Value) : Env := envOfC nm (fdAt P 310).scope L a cd
noncomputable def v_law : List Str := [Str.ofString "script", Str.ofString "drawn", Str.ofString "changed", Str.ofString "cut", Str.ofString "text", Str.ofString "first", Str.ofString "step", Str.ofString "told", Str.ofString "book", Str.ofString "k"]
theorem e_law (nm : Str) (L a : Addr) (cd : Value) : EnvOk (envL w.params nm L a cd) v_law := envOk_of rfl rfl rfl (show ScOk (fdAt w.params 310).scope v_law from scOk_ok (by kernel_rfl))
theorem s_law (T : TopOk prog w base mg mb) (nm : Str) (L a : Addr) (cd : Value) : SoundS prog w base 33 (envL w.params nm L a cd) v_law fnA ((bodyOf (fdAt w.params 310)).drop 3) b_law := tSs_ok T (fail_all T) (e_law nm L a cd) (n := 60) (by kernel_rfl)
end
end
section
variable {K : Nat → Call}

theorem small_nat {k : Nat} (h : k < 2 ^ 40) : small (k : Int) ∧ 0 ≤ (k : Int) := by unfold small; walk_at "om"
theorem atN_nat {α : Type} {l : List α} {k : Nat} (h : k < 2 ^ 40) : atN l (k : Int) = l[k]? := if_pos (small_nat h)
theorem subD_str {c : List Cell} {l : List Nat} {k : Nat} (h : k < 2 ^ 40) : subD c (.str l) (.int (k : Int)) = (l[k]?).map fun x => .str [x] := by rw [subD_strI, atN_nat h]
theorem subD_tup {c : List Cell} {l : List D} {k : Nat} (h : k < 2 ^ 40) : subD c (.tup l) (.int (k : Int)) = l[k]? := by rw [subD_tupI, atN_nat h]

theorem sliceL_nat {α : Type} (l : List α) (a b : Nat) : sliceL l (.int (a : Int)) (.int (b : Int)) = some ((l.take b).drop a) := by
  have cl : ∀ n k : Nat, clamp n (k : Int) = min k n := fun n k => if_neg (Int.not_lt.mpr (Int.natCast_nonneg k))
  show some ((l.take (clamp l.length b)).drop (clamp l.length a)) = _
  rw [cl, cl]
  have e1 : l.take (min b l.length) = l.take b := by
    rw [← List.take_take, List.take_length]
  rw [e1]
  congr 1
  by_cases h : a ≤ l.length
  · rw [Nat.min_eq_left h]
  · rw [Nat.min_eq_right (by walk_at "om"), List.drop_eq_nil_of_le (by simp; walk_at "om"), List.drop_eq_nil_of_le (by simp; walk_at "om")]

theorem clamp_nat (n k : Nat) : clamp n (k : Int) = min k n := if_neg (Int.not_lt.mpr (Int.natCast_nonneg k))
theorem v_take {l : List Nat} {k : Nat} {Q : List Nat → Prop} (hl : l.length ≤ 2 ^ 24) (h : Q (l.take k)) : ∃ r, sliceL l .none (.int (k : Int)) = some r ∧ l.length ≤ 2 ^ 24 ∧ Q r := by
  refine ⟨l.take k, ?_, hl, h⟩
  show some (l.take (clamp l.length k)) = _
  rw [clamp_nat, ← List.take_take, List.take_length]
theorem v_drop {l : List Nat} {k : Nat} {Q : List Nat → Prop} (hl : l.length ≤ 2 ^ 24) (h : Q (l.drop k)) : ∃ r, sliceL l (.int (k : Int)) .none = some r ∧ l.length ≤ 2 ^ 24 ∧ Q r := by
  refine ⟨l.drop k, ?_, hl, h⟩
  show some (l.drop (clamp l.length k)) = _
  rw [clamp_nat]
  by_cases q : k ≤ l.length
  · rw [Nat.min_eq_left q]
  · have q := Nat.le_of_not_le q
    rw [Nat.min_eq_right q, List.drop_length, List.drop_eq_nil_of_le q]

theorem seg1 (l : List Nat) (a : Nat) : (l.take (a + 1)).drop a = (l[a]?).toList := by
  rw [List.drop_take, show a + 1 - a = 1 by walk_at "om"]
  cases h : l[a]? with
  | none => rw [List.drop_eq_nil_of_le (List.getElem?_eq_none_iff.mp h)]; rfl
  | some x => obtain ⟨h1, h2⟩ := List.getElem?_eq_some_iff.mp h; rw [List.drop_eq_getElem_cons h1, h2]; rfl
theorem seg1_eq (l : List Nat) (a x : Nat) : ((l.take (a + 1)).drop a == [x]) = (l[a]? == some x) := by
  rw [seg1]; cases l[a]? <;> simp
theorem seg1_nil (l : List Nat) (a : Nat) : ((l.take (a + 1)).drop a == []) = (l[a]? == none) := by
  rw [seg1]; cases l[a]? <;> simp
theorem seg2_eq (l : List Nat) (a x y : Nat) : ((l.take (a + 2)).drop a == [x, y]) = (l[a]? == some x && l[a + 1]? == some y) := by
  rw [List.drop_take, show a + 2 - a = 2 by walk_at "om"]
  cases h : l[a]? with
  | none => rw [List.drop_eq_nil_of_le (List.getElem?_eq_none_iff.mp h)]; rfl
  | some z =>
    obtain ⟨h1, h2⟩ := List.getElem?_eq_some_iff.mp h; rw [List.drop_eq_getElem_cons h1, h2]
    cases h' : l[a + 1]? with
    | none => rw [List.drop_eq_nil_of_le (List.getElem?_eq_none_iff.mp h')]; simp
    | some u => obtain ⟨h3, h4⟩ := List.getElem?_eq_some_iff.mp h'; rw [List.drop_eq_getElem_cons h3, h4]; simp
theorem seg3_eq (l : List Nat) (a x y z : Nat) : ((l.take (a + 3)).drop a == [x, y, z]) = (l[a]? == some x && (l[a + 1]? == some y && l[a + 2]? == some z)) := by
  rw [List.drop_take, show a + 3 - a = 3 by walk_at "om"]
  cases h : l[a]? with
  | none => rw [List.drop_eq_nil_of_le (List.getElem?_eq_none_iff.mp h)]; rfl
  | some p =>
    obtain ⟨h1, h2⟩ := List.getElem?_eq_some_iff.mp h; rw [List.drop_eq_getElem_cons h1, h2]
    cases h' : l[a + 1]? with
    | none => rw [List.drop_eq_nil_of_le (List.getElem?_eq_none_iff.mp h')]; simp
    | some u =>
      obtain ⟨h3, h4⟩ := List.getElem?_eq_some_iff.mp h'; rw [List.drop_eq_getElem_cons h3, h4]
      cases h'' : l[a + 2]? with
      | none => rw [List.drop_eq_nil_of_le (List.getElem?_eq_none_iff.mp h'')]; simp
      | some v => obtain ⟨h5, h6⟩ := List.getElem?_eq_some_iff.mp h''; rw [List.drop_eq_getElem_cons h5, h6]; simp


section
variable {K : Call} {σ : St} {X : XP} {t : Bool}
noncomputable def boolP (G : Bool → St → Prop) : D → St → Prop := fun x σ1 => ∃ t, x = .bool t ∧ G t σ1
theorem k_bool {G : Bool → St → Prop} (h : G t σ) : boolP G (.bool t) σ := ⟨t, rfl, h⟩
noncomputable def andG (K : Call) (b : E) (P : D → St → Prop) (X : XP) : Bool → St → Prop := fun t σ1 => if t = true then wpE K b σ1 P X else P (.bool false) σ1
theorem andG_e {b : E} {P : D → St → Prop} : andG K b P X t σ = if t = true then wpE K b σ P X else P (.bool false) σ := rfl
noncomputable def orG (K : Call) (b : E) (P : D → St → Prop) (X : XP) : Bool → St → Prop := fun t σ1 => if t = true then P (.bool true) σ1 else wpE K b σ1 P X
theorem orG_e {b : E} {P : D → St → Prop} : orG K b P X t σ = if t = true then P (.bool true) σ else wpE K b σ P X := rfl
noncomputable def notG (P : D → St → Prop) : Bool → St → Prop := fun t σ1 => P (.bool !t) σ1
theorem notG_e {P : D → St → Prop} : notG P t σ = P (.bool !t) σ := rfl
noncomputable def iteE (K : Call) (a b : E) (P : D → St → Prop) (X : XP) : Bool → St → Prop := fun t σ1 => if t = true then wpE K a σ1 P X else wpE K b σ1 P X
theorem iteE_e {a b : E} {P : D → St → Prop} : iteE K a b P X t σ = if t = true then wpE K a σ P X else wpE K b σ P X := rfl
variable {Z : Fl → St → Prop} {u v b : S}
noncomputable def seqP (K : Call) (b : S) (Z : Fl → St → Prop) (X : XP) : Fl → St → Prop := fun f σ1 => match f with
  | .next => wpS K b σ1 Z X
  | .brk => Z .brk σ1
  | .ret d => Z (.ret d) σ1
theorem seqP_n : seqP K b Z X .next σ = wpS K b σ Z X := rfl
theorem seqP_b : seqP K b Z X .brk σ = Z .brk σ := rfl
theorem seqP_r {d : D} : seqP K b Z X (.ret d) σ = Z (.ret d) σ := rfl
noncomputable def iteG (K : Call) (u v : S) (Z : Fl → St → Prop) (X : XP) : Bool → St → Prop := fun t σ1 => if t = true then wpS K u σ1 Z X else wpS K v σ1 Z X
theorem iteG_e : iteG K u v Z X t σ = if t = true then wpS K u σ Z X else wpS K v σ Z X := rfl
noncomputable def ifG (K : Call) (u b : S) (Z : Fl → St → Prop) (X : XP) : Bool → St → Prop := fun t σ1 => if t = true then wpS K u σ1 (seqP K b Z X) X else wpS K b σ1 Z X
theorem ifG_e : ifG K u b Z X t σ = if t = true then wpS K u σ (seqP K b Z X) X else wpS K b σ Z X := rfl
noncomputable def whlP (I : Nat → St → Prop) (n : Nat) (Z : Fl → St → Prop) : Fl → St → Prop := fun f σ2 => match f with
  | .next => ∃ m, m < n ∧ I m σ2
  | .brk => Z .next σ2
  | .ret d => Z (.ret d) σ2
theorem whlP_n {I : Nat → St → Prop} {n : Nat} : whlP I n Z .next σ = ∃ m, m < n ∧ I m σ := rfl
theorem whlP_b {I : Nat → St → Prop} {n : Nat} : whlP I n Z .brk σ = Z .next σ := rfl
theorem whlP_r {I : Nat → St → Prop} {n : Nat} {d : D} : whlP I n Z (.ret d) σ = Z (.ret d) σ := rfl
noncomputable def whlG (K : Call) (b : S) (I : Nat → St → Prop) (n : Nat) (Z : Fl → St → Prop) (X : XP) : Bool → St → Prop := fun t σ1 => if t = true then wpS K b σ1 (whlP I n Z) X else Z .next σ1
theorem whlG_e {I : Nat → St → Prop} {n : Nat} : whlG K b I n Z X t σ = if t = true then wpS K b σ (whlP I n Z) X else Z .next σ := rfl
noncomputable def forP (k : St → Prop) (Z : Fl → St → Prop) : Fl → St → Prop := fun f σ4 => match f with
  | .next => k σ4
  | .brk => Z .next σ4
  | .ret d => Z (.ret d) σ4
theorem forP_n {k : St → Prop} : forP k Z .next σ = k σ := rfl
theorem forP_b {k : St → Prop} : forP k Z .brk σ = Z .next σ := rfl
theorem forP_r {k : St → Prop} {d : D} : forP k Z (.ret d) σ = Z (.ret d) σ := rfl
noncomputable def retP (P : D → List Cell → Prop) : Fl → St → Prop := fun fl σ => P fl.val σ.cells
theorem retP_e {P : D → List Cell → Prop} {f : Fl} : retP P f σ = P f.val σ.cells := rfl
end
section
variable {K : Call} {σ : St} {P : D → St → Prop} {X : XP} {c : List Cell}
theorem r_cst {d : D} (h : P d σ) : wpE K (.cst d) σ P X := h
theorem r_loc {i : Nat} {d : D} (e : σ.loc[i]? = some (some d)) (h : P d σ) : wpE K (.loc i) σ P X := ⟨d, e, h⟩
theorem r_bin {op a b} (h : wpE K a σ (fun x σ1 => wpE K b σ1 (fun y σ2 => ∃ d, binD op x y = some d ∧ sizeOk d ∧ P d σ2) X) X) : wpE K (.bin op a b) σ P X := h
theorem r_cmp {op a b} (h : wpE K a σ (fun x σ1 => wpE K b σ1 (fun y σ2 => ∃ t, cmpD op x y = some t ∧ P (.bool t) σ2) X) X) : wpE K (.cmp op a b) σ P X := h
theorem r_cmp2 {o1 o2 a b c} (h : wpE K a σ (fun x σ1 => wpE K b σ1 (fun y σ2 => ∃ t, cmpD o1 x y = some t ∧
      if t then wpE K c σ2 (fun z σ3 => ∃ u, cmpD o2 y z = some u ∧ P (.bool u) σ3) X else P (.bool false) σ2) X) X) : wpE K (.cmp2 o1 o2 a b c) σ P X := h
theorem r_not {a} (h : wpE K a σ (boolP (notG P)) X) : wpE K (.not a) σ P X := h
theorem r_and {a b} (h : wpE K a σ (boolP (andG K b P X)) X) : wpE K (.and a b) σ P X := h
theorem r_or {a b} (h : wpE K a σ (boolP (orG K b P X)) X) : wpE K (.or a b) σ P X := h
theorem r_ite {c a b} (h : wpE K c σ (boolP (iteE K a b P X)) X) : wpE K (.ite c a b) σ P X := h
theorem r_sub {o i} (h : wpE K o σ (fun x σ1 => wpE K i σ1 (fun y σ2 => ∃ d, subD σ2.cells x y = some d ∧ P d σ2) X) X) : wpE K (.sub o i) σ P X := h
theorem r_slice {o lo hi} (h : wpE K o σ (fun x σ1 => wpE K lo σ1 (fun y σ2 => wpE K hi σ2 (fun z σ3 => match x with
      | .str l => ∃ r, sliceL l y z = some r ∧ l.length ≤ 2 ^ 24 ∧ P (.str r) σ3
      | .obj n => ∃ l r, σ3.cells[n]? = some (.lst l) ∧ sliceL l y z = some r ∧ l.length ≤ 2 ^ 20 ∧ P (.obj σ3.cells.length) { σ3 with cells := σ3.cells ++ [.lst r] }
      | _ => False) X) X) X) : wpE K (.slice o lo hi) σ P X := h
theorem r_sum {a} (h : wpE K a σ (fun x σ1 => ∃ n, ∃ is : List Int, x = .obj n ∧ σ1.cells[n]? = some (.lst (is.map D.int)) ∧ P (.int is.sum) σ1) X) : wpE K (.sum a) σ P X := h
theorem r_len {a} (h : wpE K a σ (fun x σ1 => ∃ n, lenD σ1.cells x = some n ∧ n ≤ 2 ^ 24 ∧ P (.int n) σ1) X) : wpE K (.len a) σ P X := h
theorem r_ord {a} (h : wpE K a σ (fun x σ1 => ∃ n, x = .str [n] ∧ P (.int n) σ1) X) : wpE K (.ord a) σ P X := h
theorem r_chr {a} (h : wpE K a σ (fun x σ1 => ∃ n : Nat, x = .int n ∧ n ≤ 1114111 ∧ P (.str [n]) σ1) X) : wpE K (.chr a) σ P X := h
theorem r_tupleOf {a} (h : wpE K a σ (fun x σ1 => ∃ n l, x = .obj n ∧ σ1.cells[n]? = some (.lst l) ∧ l.length ≤ 2 ^ 20 ∧ P (.tup l) σ1) X) : wpE K (.tupleOf a) σ P X := h
theorem r_find {a x} (h : wpE K a σ (fun l σ1 => ∃ s, l = .str s ∧ wpE K x σ1 (fun y σ2 => ∃ n, y = .str [n] ∧ P (.int (findD s n 0)) σ2) X) X) : wpE K (.find a x) σ P X := h
theorem r_find2 {a x b} (h : wpE K a σ (fun l σ1 => ∃ s, l = .str s ∧ wpE K x σ1 (fun y σ2 => wpE K b σ2 (fun z σ3 => ∃ n, ∃ k : Nat, y = .str [n] ∧ z = .int k ∧ k ≤ s.length ∧ P (.int (findD s n k)) σ3) X) X) X) : wpE K (.find2 a x b) σ P X := h
theorem r_append {o x} (h : wpE K o σ (fun y σ1 => ∃ n l0, y = .obj n ∧ σ1.cells[n]? = some (.lst l0) ∧ wpE K x σ1 (fun z σ2 => ∃ l, σ2.cells[n]? = some (.lst l) ∧ l.length ≤ 2 ^ 20 ∧
      P .none { σ2 with cells := σ2.cells.set n (.lst (l ++ [z])) }) X) X) : wpE K (.append o x) σ P X := h
theorem r_pop {o} (h : wpE K o σ (fun y σ1 => ∃ n l z, y = .obj n ∧ σ1.cells[n]? = some (.lst (l ++ [z])) ∧ l.length ≤ 2 ^ 20 ∧
      P z { σ1 with cells := σ1.cells.set n (.lst l) }) X) : wpE K (.pop o) σ P X := h
theorem r_call {f es} (h : wpEs K es σ (fun ds σ1 => K f ds σ1.cells (fun d c => P d { σ1 with cells := c }) X) X) : wpE K (.call f es) σ P X := h
theorem r_tup {es} (h : wpEs K es σ (fun ds σ1 => ds.length ≤ 2 ^ 20 ∧ P (.tup ds) σ1) X) : wpE K (.tup es) σ P X := h
theorem r_list {es} (h : wpEs K es σ (fun ds σ1 => ds.length ≤ 2 ^ 20 ∧ P (.obj σ1.cells.length) { σ1 with cells := σ1.cells ++ [.lst ds] }) X) : wpE K (.list es) σ P X := h
theorem r_dict {ks es} (h : wpEs K es { σ with cells := σ.cells ++ [.dct []] } (fun ds σ1 => σ1.cells[σ.cells.length]? = some (.dct []) ∧ P (.obj σ.cells.length) { σ1 with cells := σ1.cells.set σ.cells.length (.dct (ks.zip ds)) }) X) : wpE K (.dict ks es) σ P X := h
theorem r_nil {P : List D → St → Prop} (h : P [] σ) : wpEs K .nil σ P X := h
theorem r_cons {P : List D → St → Prop} {e es} (h : wpE K e σ (fun d σ1 => wpEs K es σ1 (fun ds σ2 => P (d :: ds) σ2) X) X) : wpEs K (.cons e es) σ P X := h
theorem r_B {P : Bool → St → Prop} {e} (h : wpE K e σ (boolP P) X) : wpB K e σ P X := h
end
section
variable {K : Call} {σ : St} {P : Fl → St → Prop} {X : XP} {c : List Cell}
theorem s_skip (h : P .next σ) : wpS K .skip σ P X := h
theorem s_seq {a b} (h : wpS K a σ (seqP K b P X) X) : wpS K (.seq a b) σ P X := h
theorem s_expr {e} (h : wpE K e σ (fun _ σ1 => P .next σ1) X) : wpS K (.expr e) σ P X := h
theorem s_ret {e} (h : wpE K e σ (fun d σ1 => P (.ret d) σ1) X) : wpS K (.ret e) σ P X := h
theorem s_brk (h : P .brk σ) : wpS K .brk σ P X := h
theorem s_asg {i e} (h : wpE K e σ (fun d σ1 => P .next (σ1.set i d)) X) : wpS K (.asg i e) σ P X := h
theorem s_asgs {is e} (h : wpE K e σ (fun d σ1 => ∃ l, d = .tup l ∧ l.length = is.length ∧ P .next (σ1.sets is l)) X) : wpS K (.asgs is e) σ P X := h
theorem s_asgsR {is e} (h : wpE K e σ (fun d σ1 => ∃ l, d = .tup l ∧ l.length = is.length ∧ P .next (σ1.sets is.reverse l.reverse)) X) : wpS K (.asgsR is e) σ P X := h
theorem s_setSub {o i v} (h : wpE K v σ (fun z σ1 => wpE K o σ1 (fun x σ2 => wpE K i σ2 (fun y σ3 => ∃ c, setD σ3.cells x y z = some c ∧ P .next { σ3 with cells := c }) X) X) X) : wpS K (.setSub o i v) σ P X := h
theorem s_setSub2 {o i o' i' v} (h : wpE K v σ (fun z σ1 => ∃ z1 z2, z = .tup [z1, z2] ∧
      wpE K o σ1 (fun x σ2 => wpE K i σ2 (fun y σ3 => ∃ c, setD σ3.cells x y z1 = some c ∧
        wpE K o' { σ3 with cells := c } (fun x' σ4 => wpE K i' σ4 (fun y' σ5 => ∃ c', setD σ5.cells x' y' z2 = some c' ∧ P .next { σ5 with cells := c' }) X) X) X) X) X) : wpS K (.setSub2 o i o' i' v) σ P X := h
theorem s_augSub {o i op v} (h : wpE K o σ (fun x σ1 => wpE K i σ1 (fun y σ2 => ∃ d, subD σ2.cells x y = some d ∧
      wpE K v σ2 (fun z σ3 => ∃ r c, binD op d z = some r ∧ sizeOk r ∧ setD σ3.cells x y r = some c ∧ P .next { σ3 with cells := c }) X) X) X) : wpS K (.augSub o i op v) σ P X := h
theorem s_aug {i op e} {d : D} (e1 : σ.loc[i]? = some (some d)) (h : wpE K e σ (fun z σ1 => ∃ r, binD op d z = some r ∧ sizeOk r ∧ P .next (σ1.set i r)) X) : wpS K (.aug i op e) σ P X := ⟨d, e1, h⟩
theorem s_ite {c a b} (h : wpB K c σ (iteG K a b P X) X) : wpS K (.ite c a b) σ P X := h
theorem s_fail {msg} (h : X msg σ.cells) : wpS K (.fail msg) σ P X := h
theorem s_tryE {e pre} (h : wpE K e σ (fun _ σ1 => P .next σ1) (fun msg c => P (.ret (.bool (!pre.isPrefixOf msg))) { loc := [], cells := c })) : wpS K (.tryE e pre) σ P X := h
theorem s_forR {i lo hi st b} (h : wpE K lo σ (fun x σ1 => wpE K hi σ1 (fun y σ2 => wpE K st σ2 (fun z σ3 => ∃ a b' c : Int, x = .int a ∧ y = .int b' ∧ z = .int c ∧ -(2 ^ 20) ≤ a ∧ a ≤ 2 ^ 20 ∧ -(2 ^ 20) ≤ b' ∧ b' ≤ 2 ^ 20 ∧ c ≠ 0 ∧ -(2 ^ 20) ≤ c ∧ c ≤ 2 ^ 20 ∧
      ((rangeL a b' c).foldr (fun n (k : St → Prop) σ2 => wpS K b (σ2.set i (.int n)) (forP k P) X) (fun σ2 => P .next σ2)) σ3) X) X) X) : wpS K (.forR i lo hi st b) σ P X := h
theorem s_whl {c b} (I : Nat → St → Prop) (n : Nat) (h0 : I n σ) (h : ∀ n σ, I n σ → wpB K c σ (whlG K b I n P X) X) : wpS K (.whl c b) σ P X := ⟨I, n, h0, h⟩
end

section
variable {K : Call} {σ : St} {P : D → St → Prop} {Q : List D → St → Prop} {Z : Fl → St → Prop} {X : XP} {d d' d'' : D} {i j k f : Nat} {op : COp} {o : BOp} {a c : E} {es : Es} {x : D} {l : List Nat}
theorem q_cmp_lc (e : σ.loc[i]? = some (some d)) (h : ∃ t, cmpD op d x = some t ∧ P (.bool t) σ) : wpE K (.cmp op (.loc i) (.cst x)) σ P X := ⟨d, e, h⟩
theorem q_cmp_ll (e : σ.loc[i]? = some (some d)) (e' : σ.loc[j]? = some (some d')) (h : ∃ t, cmpD op d d' = some t ∧ P (.bool t) σ) : wpE K (.cmp op (.loc i) (.loc j)) σ P X := ⟨d, e, d', e', h⟩
theorem q_cmp_c (h : wpE K a σ (fun y σ1 => ∃ t, cmpD op y x = some t ∧ P (.bool t) σ1) X) : wpE K (.cmp op a (.cst x)) σ P X := h
theorem q_cmp_l (e : σ.loc[i]? = some (some d)) (h : wpE K a σ (fun y σ1 => ∃ t, cmpD op d y = some t ∧ P (.bool t) σ1) X) : wpE K (.cmp op (.loc i) a) σ P X := ⟨d, e, h⟩
theorem q_bin_lc (e : σ.loc[i]? = some (some d)) (h : ∃ r, binD o d x = some r ∧ sizeOk r ∧ P r σ) : wpE K (.bin o (.loc i) (.cst x)) σ P X := ⟨d, e, h⟩
theorem q_bin_ll (e : σ.loc[i]? = some (some d)) (e' : σ.loc[j]? = some (some d')) (h : ∃ r, binD o d d' = some r ∧ sizeOk r ∧ P r σ) : wpE K (.bin o (.loc i) (.loc j)) σ P X := ⟨d, e, d', e', h⟩
theorem q_bin_c (h : wpE K a σ (fun y σ1 => ∃ r, binD o y x = some r ∧ sizeOk r ∧ P r σ1) X) : wpE K (.bin o a (.cst x)) σ P X := h
theorem q_bin_l (e : σ.loc[i]? = some (some d)) (h : wpE K a σ (fun y σ1 => ∃ r, binD o d y = some r ∧ sizeOk r ∧ P r σ1) X) : wpE K (.bin o (.loc i) a) σ P X := ⟨d, e, h⟩
theorem q_sub_lc (e : σ.loc[i]? = some (some d)) (h : ∃ r, subD σ.cells d x = some r ∧ P r σ) : wpE K (.sub (.loc i) (.cst x)) σ P X := ⟨d, e, h⟩
theorem q_sub_ll (e : σ.loc[i]? = some (some d)) (e' : σ.loc[j]? = some (some d')) (h : ∃ r, subD σ.cells d d' = some r ∧ P r σ) : wpE K (.sub (.loc i) (.loc j)) σ P X := ⟨d, e, d', e', h⟩
theorem q_sub_l (e : σ.loc[i]? = some (some d)) (h : wpE K a σ (fun y σ1 => ∃ r, subD σ1.cells d y = some r ∧ P r σ1) X) : wpE K (.sub (.loc i) a) σ P X := ⟨d, e, h⟩
theorem q_sub_c (h : wpE K a σ (fun y σ1 => ∃ r, subD σ1.cells y x = some r ∧ P r σ1) X) : wpE K (.sub a (.cst x)) σ P X := h
theorem q_len_l (e : σ.loc[i]? = some (some d)) (h : ∃ n, lenD σ.cells d = some n ∧ n ≤ 2 ^ 24 ∧ P (.int n) σ) : wpE K (.len (.loc i)) σ P X := ⟨d, e, h⟩
theorem q_sl_l (e : σ.loc[i]? = some (some (.str l))) (e' : σ.loc[j]? = some (some d')) (h : wpE K a σ (fun z σ3 => ∃ r, sliceL l d' z = some r ∧ l.length ≤ 2 ^ 24 ∧ P (.str r) σ3) X) : wpE K (.slice (.loc i) (.loc j) a) σ P X := ⟨_, e, _, e', h⟩
theorem q_sl_s (e : σ.loc[i]? = some (some (.str l))) (h : wpE K a σ (fun y σ2 => wpE K c σ2 (fun z σ3 => ∃ r, sliceL l y z = some r ∧ l.length ≤ 2 ^ 24 ∧ P (.str r) σ3) X) X) : wpE K (.slice (.loc i) a c) σ P X := ⟨_, e, h⟩
theorem q_cons_l (e : σ.loc[i]? = some (some d)) (h : wpEs K es σ (fun ds σ2 => Q (d :: ds) σ2) X) : wpEs K (.cons (.loc i) es) σ Q X := ⟨d, e, h⟩
theorem q_cons_c (h : wpEs K es σ (fun ds σ2 => Q (x :: ds) σ2) X) : wpEs K (.cons (.cst x) es) σ Q X := h
theorem q_call_0 (h : K f [] σ.cells (fun r c => P r { σ with cells := c }) X) : wpE K (.call f .nil) σ P X := h
theorem q_call_l (e : σ.loc[i]? = some (some d)) (h : K f [d] σ.cells (fun r c => P r { σ with cells := c }) X) : wpE K (.call f (.cons (.loc i) .nil)) σ P X := ⟨d, e, h⟩
theorem q_call_ll (e : σ.loc[i]? = some (some d)) (e' : σ.loc[j]? = some (some d')) (h : K f [d, d'] σ.cells (fun r c => P r { σ with cells := c }) X) : wpE K (.call f (.cons (.loc i) (.cons (.loc j) .nil))) σ P X := ⟨d, e, d', e', h⟩
theorem q_call_lll (e : σ.loc[i]? = some (some d)) (e' : σ.loc[j]? = some (some d')) (e'' : σ.loc[k]? = some (some d'')) (h : K f [d, d', d''] σ.cells (fun r c => P r { σ with cells := c }) X) : wpE K (.call f (.cons (.loc i) (.cons (.loc j) (.cons (.loc k) .nil)))) σ P X := ⟨d, e, d', e', d'', e'', h⟩
theorem q_call_x (h : wpE K a σ (fun y σ2 => K f [y] σ2.cells (fun r c => P r { σ2 with cells := c }) X) X) : wpE K (.call f (.cons a .nil)) σ P X := h
theorem q_call_lx (e : σ.loc[i]? = some (some d)) (h : wpE K a σ (fun y σ2 => K f [d, y] σ2.cells (fun r c => P r { σ2 with cells := c }) X) X) : wpE K (.call f (.cons (.loc i) (.cons a .nil))) σ P X := ⟨d, e, h⟩
theorem q_call_llx (e : σ.loc[i]? = some (some d)) (e' : σ.loc[j]? = some (some d')) (h : wpE K a σ (fun y σ2 => K f [d, d', y] σ2.cells (fun r c => P r { σ2 with cells := c }) X) X) : wpE K (.call f (.cons (.loc i) (.cons (.loc j) (.cons a .nil)))) σ P X := ⟨d, e, d', e', h⟩
theorem q_call_lxc (e : σ.loc[i]? = some (some d)) (h : wpE K a σ (fun y σ2 => K f [d, y, x] σ2.cells (fun r c => P r { σ2 with cells := c }) X) X) : wpE K (.call f (.cons (.loc i) (.cons a (.cons (.cst x) .nil)))) σ P X := ⟨d, e, h⟩
theorem q_asg {b : S} (h : wpE K a σ (fun y σ1 => wpS K b (σ1.set i y) Z X) X) : wpS K (.seq (.asg i a) b) σ Z X := h
theorem q_asgc {b : S} (h : wpS K b (σ.set i x) Z X) : wpS K (.seq (.asg i (.cst x)) b) σ Z X := h
theorem q_asgl {b : S} (e : σ.loc[j]? = some (some d)) (h : wpS K b (σ.set i d) Z X) : wpS K (.seq (.asg i (.loc j)) b) σ Z X := ⟨d, e, h⟩
theorem q_asgs {is : List Nat} {b : S} (h : wpE K a σ (fun d σ1 => ∃ l, d = .tup l ∧ l.length = is.length ∧ wpS K b (σ1.sets is l) Z X) X) : wpS K (.seq (.asgs is a) b) σ Z X := h
theorem q_aug {b : S} (e : σ.loc[i]? = some (some d)) (h : wpE K a σ (fun z σ1 => ∃ r, binD o d z = some r ∧ sizeOk r ∧ wpS K b (σ1.set i r) Z X) X) : wpS K (.seq (.aug i o a) b) σ Z X := ⟨d, e, h⟩
theorem q_augc (e : σ.loc[i]? = some (some d)) (h : ∃ r, binD o d x = some r ∧ sizeOk r ∧ Z .next (σ.set i r)) : wpS K (.aug i o (.cst x)) σ Z X := ⟨d, e, h⟩
theorem q_expr {b : S} (h : wpE K a σ (fun _ σ1 => wpS K b σ1 Z X) X) : wpS K (.seq (.expr a) b) σ Z X := h
theorem q_if0 {b u : S} (h : wpE K a σ (boolP (ifG K u b Z X)) X) : wpS K (.seq (.ite a u .skip) b) σ Z X := s_seq (s_ite h)
theorem q_if {u v : S} (h : wpE K a σ (boolP (iteG K u v Z X)) X) : wpS K (.ite a u v) σ Z X := h
theorem q_ret_c (h : Z (.ret x) σ) : wpS K (.ret (.cst x)) σ Z X := h
theorem q_ret_l (e : σ.loc[i]? = some (some d)) (h : Z (.ret d) σ) : wpS K (.ret (.loc i)) σ Z X := ⟨d, e, h⟩
end

theorem fuel0 {x c n : Nat} (hn : x + c ≤ n) : ∃ m, n = m + c := ⟨n - c, (Nat.sub_add_cancel (Nat.le_trans (Nat.le_add_left _ _) hn)).symm⟩
theorem fuel_of {T p c n : Nat} (hn : 4 * (T - p) + c ≤ n) (hp : p < T) : ∃ m, n = m + (c + 4) := fuel0 (x := 0) (by walk_at "om")
theorem fuel_mono {T p k c n : Nat} (hn : 4 * (T - p) + c ≤ n) (hk : p ≤ k) : 4 * (T - k) + c ≤ n := Nat.le_trans (Nat.add_le_add_right (Nat.mul_le_mul_left 4 (Nat.sub_le_sub_left hk _)) c) hn
theorem fuel_lt {T p k c n : Nat} (hn : 4 * (T - p) + c ≤ n) (hk : p < k) (hp : p < T) : 4 * (T - k) + (c + 4) ≤ n := by walk_at "om"
theorem dropO_s {α : Type} {n : Nat} {l : List α} {a : Int} : dropO n l (some a) = l.drop (clamp n a) := rfl
theorem dropO_n {α : Type} {n : Nat} {l : List α} : dropO n l none = l := rfl
theorem takeO_s {α : Type} {n : Nat} {l : List α} {a : Int} : takeO n l (some a) = l.take (clamp n a) := rfl
theorem takeO_n {α : Type} {n : Nat} {l : List α} : takeO n l none = l := rfl
theorem ltN {a b : Nat} (h : decide ((a : Int) < (b : Int)) = true) : a < b := Int.ofNat_lt.mp (of_decide_eq_true h)
theorem nltN {a b : Nat} (h : decide ((a : Int) < (b : Int)) = false) : ¬ a < b := fun z => of_decide_eq_false h (Int.ofNat_lt.mpr z)
theorem leN {a b : Nat} (h : decide ((a : Int) ≤ (b : Int)) = true) : a ≤ b := Int.ofNat_le.mp (of_decide_eq_true h)
theorem nleN {a b : Nat} (h : decide ((a : Int) ≤ (b : Int)) = false) : ¬ a ≤ b := fun z => of_decide_eq_false h (Int.ofNat_le.mpr z)
theorem eN {a b : Nat} (h : ((a : Int) == (b : Int)) = true) : a = b := Int.ofNat_inj.mp (eq_of_beq h)
theorem neN {a b : Nat} (h : ((a : Int) == (b : Int)) = false) : a ≠ b := fun z => ne_of_beq_false h (congrArg _ z)
theorem nb1 {α : Type} [BEq α] [LawfulBEq α] {a b : α} (h : (!(a == b)) = true) : a ≠ b := ne_of_beq_false (by cases q : (a == b) <;> simp_all)
theorem nb2 {α : Type} [BEq α] [LawfulBEq α] {a b : α} (h : (!(a == b)) = false) : a = b := eq_of_beq (by cases q : (a == b) <;> simp_all)
theorem fv_ret (d : D) : (Fl.ret d).val = d := rfl
theorem fv_next : Fl.next.val = .none := rfl
theorem rep_s {α : Type} (n : Nat) (a : α) : List.replicate (n + 1) a = a :: List.replicate n a := rfl
theorem rep_0 {α : Type} (a : α) : List.replicate 0 a = [] := rfl
theorem map_c (a : D) (l : List D) : List.map some (a :: l) = some a :: List.map some l := rfl
theorem map_n : List.map (some : D → Option D) [] = [] := rfl
theorem app_c {α : Type} (a : α) (l r : List α) : (a :: l) ++ r = a :: (l ++ r) := rfl
theorem app_n {α : Type} (r : List α) : [] ++ r = r := rfl
theorem set_0 {α : Type} (a b : α) (l : List α) : (a :: l).set 0 b = b :: l := rfl
theorem set_s {α : Type} (a b : α) (l : List α) (n : Nat) : (a :: l).set (n + 1) b = a :: l.set n b := rfl
theorem len_c {α : Type} (a : α) (l : List α) : (a :: l).length = l.length + 1 := rfl
theorem len_n {α : Type} : ([] : List α).length = 0 := rfl
theorem t_T {A B : Prop} (h : A) : if true = true then A else B := by rw [if_pos rfl]; exact h
theorem t_F {A B : Prop} (h : B) : if false = true then A else B := by rw [if_neg (by decide)]; exact h
section
variable {Q : D → Prop} {R : Bool → Prop}
theorem v_add1 {a : Nat} (h : Q (.int ((a + 1 : Nat) : Int))) : ∃ d, binD .add (.int a) (.int 1) = some d ∧ sizeOk d ∧ Q d := ⟨.int ((a + 1 : Nat) : Int), rfl, trivial, h⟩
theorem v_add2 {a : Nat} (h : Q (.int ((a + 2 : Nat) : Int))) : ∃ d, binD .add (.int a) (.int 2) = some d ∧ sizeOk d ∧ Q d := ⟨.int ((a + 2 : Nat) : Int), rfl, trivial, h⟩
theorem v_add3 {a : Nat} (h : Q (.int ((a + 3 : Nat) : Int))) : ∃ d, binD .add (.int a) (.int 3) = some d ∧ sizeOk d ∧ Q d := ⟨.int ((a + 3 : Nat) : Int), rfl, trivial, h⟩
theorem v_sub1 {a : Nat} (h0 : 1 ≤ a) (h : Q (.int ((a - 1 : Nat) : Int))) : ∃ d, binD .sub (.int a) (.int 1) = some d ∧ sizeOk d ∧ Q d := ⟨.int ((a : Int) - 1), rfl, trivial, by rw [show (a : Int) - 1 = ((a - 1 : Nat) : Int) by walk_at "om"]; exact h⟩
theorem v_add {a b : Int} (h : Q (.int (a + b))) : ∃ d, binD .add (.int a) (.int b) = some d ∧ sizeOk d ∧ Q d := ⟨.int (a + b), rfl, trivial, h⟩
theorem v_sub {a b : Int} (h : Q (.int (a - b))) : ∃ d, binD .sub (.int a) (.int b) = some d ∧ sizeOk d ∧ Q d := ⟨.int (a - b), rfl, trivial, h⟩
theorem v_cat {a b : List Nat} (hl : (a ++ b).length ≤ 2 ^ 24) (h : Q (.str (a ++ b))) : ∃ d, binD .add (.str a) (.str b) = some d ∧ sizeOk d ∧ Q d := ⟨_, rfl, hl, h⟩
theorem v_mod {a b : Int} (hb : b ≠ 0) (h : Q (.int (a.fmod b))) : ∃ d, binD .mod (.int a) (.int b) = some d ∧ sizeOk d ∧ Q d := ⟨.int (a.fmod b), if_pos (c := b ≠ 0) hb, trivial, h⟩
theorem v_mul {a b : Int} (hb : 0 < b ∧ b < 2 ^ 20) (h : Q (.int (a * b))) : ∃ d, binD .mul (.int a) (.int b) = some d ∧ sizeOk d ∧ Q d := ⟨.int (a * b), if_pos (c := 0 < b ∧ b < 2 ^ 20) hb, trivial, h⟩
theorem v_fdiv {a b : Int} (hb : 0 < b ∧ b < 2 ^ 20) (h : Q (.int (a.fdiv b))) : ∃ d, binD .fdiv (.int a) (.int b) = some d ∧ sizeOk d ∧ Q d := ⟨.int (a.fdiv b), if_pos (c := 0 < b ∧ b < 2 ^ 20) hb, trivial, h⟩
theorem v_eqI {a b : Int} (h : R (a == b)) : ∃ t, cmpD .eq (.int a) (.int b) = some t ∧ R t := ⟨_, rfl, h⟩
theorem v_neI {a b : Int} (h : R (!(a == b))) : ∃ t, cmpD .ne (.int a) (.int b) = some t ∧ R t := ⟨_, rfl, h⟩
theorem v_lt {a b : Int} (h : R (decide (a < b))) : ∃ t, cmpD .lt (.int a) (.int b) = some t ∧ R t := ⟨_, rfl, h⟩
theorem v_le {a b : Int} (h : R (decide (a ≤ b))) : ∃ t, cmpD .le (.int a) (.int b) = some t ∧ R t := ⟨_, rfl, h⟩
theorem v_gt {a b : Int} (h : R (decide (b < a))) : ∃ t, cmpD .gt (.int a) (.int b) = some t ∧ R t := ⟨_, rfl, h⟩
theorem v_ge {a b : Int} (h : R (decide (b ≤ a))) : ∃ t, cmpD .ge (.int a) (.int b) = some t ∧ R t := ⟨_, rfl, h⟩
theorem v_eqB {a b : Bool} (h : R (a == b)) : ∃ t, cmpD .eq (.bool a) (.bool b) = some t ∧ R t := ⟨_, rfl, h⟩
theorem v_neB {a b : Bool} (h : R (!(a == b))) : ∃ t, cmpD .ne (.bool a) (.bool b) = some t ∧ R t := ⟨_, rfl, h⟩
theorem eqL1 {a b : Nat} : ([a] == [b]) = (a == b) := by simp
theorem v_eq1 {a b : Nat} (h : R (a == b)) : ∃ t, cmpD .eq (.str [a]) (.str [b]) = some t ∧ R t := ⟨a == b, congrArg some eqL1, h⟩
theorem v_ne1 {a b : Nat} (h : R (!(a == b))) : ∃ t, cmpD .ne (.str [a]) (.str [b]) = some t ∧ R t := ⟨!(a == b), congrArg (fun t => some (!t)) eqL1, h⟩
theorem v_eqS {a b : List Nat} (h : R (a == b)) : ∃ t, cmpD .eq (.str a) (.str b) = some t ∧ R t := ⟨_, rfl, h⟩
theorem v_neS {a b : List Nat} (h : R (!(a == b))) : ∃ t, cmpD .ne (.str a) (.str b) = some t ∧ R t := ⟨_, rfl, h⟩
theorem v_is {d : D} {t : Bool} (e : isNoneD d .none = some t) (h : R t) : ∃ t, cmpD .is d .none = some t ∧ R t := ⟨_, e, h⟩
theorem v_isNot {d : D} {t : Bool} (e : isNoneD d .none = some t) (h : R (!t)) : ∃ t, cmpD .isNot d .none = some t ∧ R t := ⟨!t, congrArg (Option.map (!·)) e, h⟩
theorem v_inS {a : Nat} {b : List Nat} (h : R (b.contains a)) : ∃ t, cmpD .inn (.str [a]) (.str b) = some t ∧ R t := ⟨_, rfl, h⟩
theorem v_ninS {a : Nat} {b : List Nat} (h : R (!(b.contains a))) : ∃ t, cmpD .notIn (.str [a]) (.str b) = some t ∧ R t := ⟨_, rfl, h⟩
theorem v_inT {a : List Nat} {l : List D} {t : Bool} (e : inTup a l = some t) (h : R t) : ∃ t, cmpD .inn (.str a) (.tup l) = some t ∧ R t := ⟨t, e, h⟩
theorem v_ninT {a : List Nat} {l : List D} {t : Bool} (e : inTup a l = some t) (h : R (!t)) : ∃ t, cmpD .notIn (.str a) (.tup l) = some t ∧ R t := ⟨!t, congrArg (Option.map (!·)) e, h⟩
theorem v_bool {b : Bool} (h : R b) : ∃ t, D.bool b = .bool t ∧ R t := ⟨_, rfl, h⟩
theorem v_sub_str {c : List Cell} {l : List Nat} {k x : Nat} (e : l[k]? = some x) (hk : k < 2 ^ 40) (h : Q (.str [x])) : ∃ d, subD c (.str l) (.int (k : Int)) = some d ∧ Q d := ⟨_, by rw [subD_str hk, e]; rfl, h⟩
theorem v_sub_tup {c : List Cell} {l : List D} {k : Nat} {x : D} (e : l[k]? = some x) (hk : k < 2 ^ 40) (h : Q x) : ∃ d, subD c (.tup l) (.int (k : Int)) = some d ∧ Q d := ⟨_, by rw [subD_tup hk, e], h⟩
theorem v_slice {l : List Nat} {a b : Nat} {Q : List Nat → Prop} (hl : l.length ≤ 2 ^ 24) (h : Q ((l.take b).drop a)) : ∃ r, sliceL l (.int (a : Int)) (.int (b : Int)) = some r ∧ l.length ≤ 2 ^ 24 ∧ Q r := ⟨_, sliceL_nat _ _ _, hl, h⟩
theorem v_len {c : List Cell} {l : List Nat} {Q : Int → Prop} (hl : l.length ≤ 2 ^ 24) (h : Q (l.length : Int)) : ∃ n, lenD c (.str l) = some n ∧ n ≤ 2 ^ 24 ∧ Q n := ⟨_, rfl, by walk_at "om", h⟩
theorem v_ord {c : Nat} {Q : Nat → Prop} (h : Q c) : ∃ n, D.str [c] = .str [n] ∧ Q n := ⟨_, rfl, h⟩
theorem v_str {c : List Nat} {Q : List Nat → Prop} (h : Q c) : ∃ n, D.str c = .str n ∧ Q n := ⟨_, rfl, h⟩
theorem v_tup {l : List D} {n : Nat} {Q : List D → Prop} (hl : l.length = n) (h : Q l) : ∃ l', D.tup l = .tup l' ∧ l'.length = n ∧ Q l' := ⟨_, rfl, hl, h⟩
theorem v_two {a b : D} {Q : D → D → Prop} (h : Q a b) : ∃ z1 z2, D.tup [a, b] = .tup [z1, z2] ∧ Q z1 z2 := ⟨_, _, rfl, h⟩
end
theorem t_split {t : Bool} {A B : Prop} (h1 : t = true → A) (h2 : t = false → B) : if t = true then A else B := by
  cases t
  · exact h2 rfl
  · exact h1 rfl
theorem t_pos {t : Bool} {A B : Prop} (ht : t = true) (h1 : A) : if t = true then A else B := by rw [if_pos ht]; exact h1
theorem t_neg {t : Bool} {A B : Prop} (ht : t = false) (h1 : B) : if t = true then A else B := by rw [ht, if_neg (by decide)]; exact h1
end
section
inductive SS where | ahead | gap | comment | behind | star
  deriving DecidableEq
inductive PK where | bare | quote | index
  deriving DecidableEq
inductive Item where
  | script (s : SS)
  | parts (k : PK) (v : Int)
  | name
  | brace (d : Int) (txt : List Nat) (e : Bool)
  deriving DecidableEq

structure Book where
  stk : List Item
  held : Bool
  cont : Bool
  fault : Bool

noncomputable def isGap (c : Nat) : Bool := c == 32 || (c == 9 || (c == 11 || (c == 12 || c == 13)))
noncomputable def isNm (c : Nat) : Bool := (97 ≤ c && c ≤ 122) || (65 ≤ c && c ≤ 90) || (48 ≤ c && c ≤ 57) || c == 95

noncomputable def setTop (s : SS) : List Item → List Item
  | .script _ :: r => .script s :: r
  | l => l

noncomputable def noStar : List Nat := [110, 111, 32, 115, 116, 97, 114]

noncomputable def plainParts (k : PK) (r : List Item) (c : Nat) : List Item :=
  if c = 36 then .parts k 0 :: r
  else if c = 91 then .script .ahead :: .parts k (-1) :: r
  else .parts k (-1) :: r

noncomputable def scriptS (s : SS) (r : List Item) (c : Nat) : List Item × Bool :=
  if s = .comment then (if c = 10 then .script .ahead :: r else .script s :: r, false)
  else if isGap c then (if s = .ahead then .script s :: r else .script .gap :: r, false)
  else if c = 10 ∨ c = 59 then (.script .ahead :: r, false)
  else if c = 93 ∧ r ≠ [] then (r, false)
  else if s = .ahead ∧ c = 35 then (.script .comment :: r, false)
  else if s = .behind then (.script s :: r, true)
  else if c = 34 then (.parts .quote (-1) :: .script s :: r, false)
  else if c = 123 then (.brace 1 [] (s = .star) :: .script s :: r, false)
  else (plainParts .bare (.script s :: r) c, false)

noncomputable def goesOn (k : PK) (v : Int) (r : List Item) (c : Nat) : Option (List Item) :=
  if c = 123 ∧ v = 0 then some (.name :: .parts k (-1) :: r)
  else if c = 40 ∧ v ≠ 2 then some (.parts .index (-1) :: .parts k (-1) :: r)
  else if c = 58 then some (.parts k (if v ≥ 2 then 3 else 2) :: r)
  else if v ≠ 2 ∧ isNm c then some (.parts k 1 :: r)
  else none

noncomputable def partsS0 (k : PK) (r : List Item) (c : Nat) : List Item × Bool :=
  if k = .bare ∧ (isGap c ∨ c = 10 ∨ c = 59 ∨ (c = 93 ∧ r.length > 1)) then
    match r with
    | .script _ :: r' => scriptS .gap r' c
    | r => (r, false)
  else if k = .quote ∧ c = 34 then (setTop .behind r, false)
  else if k = .index ∧ c = 41 then (r, false)
  else (plainParts k r c, false)

noncomputable def partsS (k : PK) (v : Int) (r : List Item) (c : Nat) : List Item × Bool :=
  match (if v ≥ 0 then goesOn k v r c else none) with
  | some l => (l, false)
  | none => partsS0 k r c

noncomputable def braceS (d : Int) (txt : List Nat) (e : Bool) (r : List Item) (c : Nat) : List Item :=
  let d' := d + (if c = 123 then 1 else if c = 125 then -1 else 0)
  if d' = 0 then setTop (if txt = [42] ∧ e = false then .star else .behind) r else .brace d' (txt ++ [c]) e :: r

noncomputable def bentS (l : List Item) (c : Nat) : List Item × Bool := match l with
  | .script s :: r =>
    if s = .comment then (.script s :: r, false)
    else if c = 10 then (.script (if s = .ahead then .ahead else .gap) :: r, false)
    else if s = .behind then (.script s :: r, true)
    else (.parts .bare (-1) :: .script s :: r, false)
  | .parts .bare v :: r => if c = 10 then (setTop .gap r, false) else (.parts .bare v :: r, false)
  | l => (l, false)

noncomputable def markBrace : List Item → List Item
  | .brace d _ e :: r => .brace d noStar e :: r
  | l => l

noncomputable def offName : List Item → List Item
  | .parts k _ :: r => .parts k (-1) :: r
  | l => l

noncomputable def stepS (l : List Item) (c : Nat) : List Item × Bool := match l with
  | .script s :: r => scriptS s r c
  | .parts k v :: r => partsS k v r c
  | .brace d txt e :: r => (braceS d txt e r c, false)
  | l => (l, false)

noncomputable def take (b : Book) (c : Nat) : Book :=
  match b.stk with
  | .name :: r => ⟨if c = 125 then r else b.stk, false, b.held && c == 10, b.fault⟩
  | _ =>
    if b.held then ⟨markBrace (bentS b.stk c).1, false, c == 10, b.fault || (bentS b.stk c).2⟩
    else if c = 92 then ⟨markBrace (offName b.stk), true, false, b.fault⟩
    else ⟨(stepS b.stk c).1, false, false, b.fault || (stepS b.stk c).2⟩

noncomputable def stp (b : Book) (c : Nat) : Book := if b.fault then b else take b c

noncomputable def begin0 : Book := ⟨[.script .ahead], false, false, false⟩
noncomputable def run (b : Book) (l : List Nat) : Book := l.foldl stp b
noncomputable def At (t : List Nat) (p : Nat) : Book := run begin0 (t.take p)

noncomputable def topBehind : List Item → Bool
  | .script .behind :: _ => true
  | _ => false
noncomputable def shapeOk : List Item → Bool
  | [] => true
  | [_] => true
  | [.parts .bare _, _] => true
  | _ => false
noncomputable def isFaulty (b : Book) : Bool := b.fault || (b.held && topBehind b.stk)
noncomputable def isRight (b : Book) : Bool := if isFaulty b then true else shapeOk b.stk && !b.cont

theorem At_succ {t : List Nat} {p c : Nat} (h : t[p]? = some c) : At t (p + 1) = stp (At t p) c := by
  unfold At run
  rw [List.take_add_one, h, Option.toList_some, List.foldl_append]; rfl

theorem At_fault {t : List Nat} : ∀ (j p : Nat), (At t p).fault = true → (At t (p + j)).fault = true
  | 0, _, h => h
  | j + 1, p, h => by
    have ih := At_fault j p h
    cases q : t[p + j]? with
    | none =>
      unfold At run at ih ⊢
      rw [show p + (j + 1) = p + j + 1 by walk_at "om", List.take_add_one, q]
      simpa using ih
    | some c =>
      rw [show p + (j + 1) = p + j + 1 by walk_at "om", At_succ q]
      unfold stp; rw [if_pos ih]; exact ih

theorem fault_right {t : List Nat} {p : Nat} (h : (At t p).fault = true) (hp : p ≤ t.length) : isRight (At t t.length) = true := by
  have := At_fault (t.length - p) p h
  rw [show p + (t.length - p) = t.length by walk_at "om"] at this
  unfold isRight isFaulty; rw [this]; rfl

noncomputable def Is (t : List Nat) (p : Nat) (l : List Item) : Prop := ∃ cn, At t p = ⟨l, false, cn, false⟩
noncomputable def IsH (t : List Nat) (p : Nat) (l : List Item) : Prop := ∃ cn, At t p = ⟨l, true, cn, false⟩

theorem take_ne {b : Book} {c : Nat} (hn : ∀ r, b.stk ≠ .name :: r) : take b c = if b.held then ⟨markBrace (bentS b.stk c).1, false, c == 10, b.fault || (bentS b.stk c).2⟩
    else if c = 92 then ⟨markBrace (offName b.stk), true, false, b.fault⟩
    else ⟨(stepS b.stk c).1, false, false, b.fault || (stepS b.stk c).2⟩ := by
  unfold take
  split
  · rename_i r q; exact absurd q (hn r)
  · rfl
theorem stp_no {b : Book} {c : Nat} (h : b.fault = false) : stp b c = take b c := by unfold stp; rw [h]; rfl

theorem Is.step {t : List Nat} {p c : Nat} {l l' : List Item} (h : Is t p l) (hc : t[p]? = some c) (h92 : c ≠ 92) (hn : ∀ r, l ≠ .name :: r) (e : stepS l c = (l', false)) : Is t (p + 1) l' := by
  obtain ⟨cn, h⟩ := h
  exact ⟨false, by rw [At_succ hc, h, stp_no rfl, take_ne hn]; simp [h92, e]⟩
theorem Is.stepF {t : List Nat} {p c : Nat} {l l' : List Item} (h : Is t p l) (hc : t[p]? = some c) (h92 : c ≠ 92) (hn : ∀ r, l ≠ .name :: r) (e : stepS l c = (l', true)) : (At t (p + 1)).fault = true := by
  obtain ⟨cn, h⟩ := h
  rw [At_succ hc, h, stp_no rfl, take_ne hn]; simp [h92, e]
theorem Is.hold {t : List Nat} {p : Nat} {l : List Item} (h : Is t p l) (hc : t[p]? = some 92) (hn : ∀ r, l ≠ .name :: r) : IsH t (p + 1) (markBrace (offName l)) := by
  obtain ⟨cn, h⟩ := h
  exact ⟨false, by rw [At_succ hc, h, stp_no rfl, take_ne hn]; simp⟩
theorem IsH.bent {t : List Nat} {p c : Nat} {l l' : List Item} (h : IsH t p l) (hc : t[p]? = some c) (hn : ∀ r, l ≠ .name :: r) (e : bentS l c = (l', false)) : Is t (p + 1) (markBrace l') := by
  obtain ⟨cn, h⟩ := h
  exact ⟨c == 10, by rw [At_succ hc, h, stp_no rfl, take_ne hn]; simp [e]⟩
theorem IsH.bentF {t : List Nat} {p c : Nat} {l l' : List Item} (h : IsH t p l) (hc : t[p]? = some c) (hn : ∀ r, l ≠ .name :: r) (e : bentS l c = (l', true)) : (At t (p + 1)).fault = true := by
  obtain ⟨cn, h⟩ := h
  rw [At_succ hc, h, stp_no rfl, take_ne hn]; simp [e]
theorem Is.name {t : List Nat} {p c : Nat} {r : List Item} (h : Is t p (.name :: r)) (hc : t[p]? = some c) : Is t (p + 1) (if c = 125 then r else .name :: r) := by
  obtain ⟨cn, h⟩ := h
  exact ⟨false, by rw [At_succ hc, h, stp_no rfl]; unfold take; simp⟩
end
section
variable {K : Nat → Call}

noncomputable def encSS : SS → List Nat
  | .ahead => [97, 104, 101, 97, 100]
  | .gap => [103, 97, 112]
  | .comment => [99, 111, 109, 109, 101, 110, 116]
  | .behind => [98, 101, 104, 105, 110, 100]
  | .star => [115, 116, 97, 114]
noncomputable def encPK : PK → List Nat
  | .bare => [98, 97, 114, 101]
  | .quote => [113, 117, 111, 116, 101]
  | .index => [105, 110, 100, 101, 120]
noncomputable def kindL : Item → List Nat
  | .script _ => [115, 99, 114, 105, 112, 116]
  | .parts k _ => encPK k
  | .name => [110, 97, 109, 101]
  | .brace _ _ _ => [98, 114, 97, 99, 101]
noncomputable def stateD : Item → D
  | .script s => .str (encSS s)
  | .parts _ v => .int v
  | .name => .int 0
  | .brace d _ _ => .int d
noncomputable def textL : Item → List Nat
  | .brace _ x _ => x
  | _ => []
noncomputable def flagB : Item → Bool
  | .brace _ _ e => e
  | _ => false
noncomputable def encItem (x : Item) : List D := [.str (kindL x), stateD x, .str (textL x), .bool (flagB x)]

theorem enc_eq (s s' : SS) : (encSS s == encSS s') = decide (s = s') := by cases s <;> cases s' <;> rfl
theorem enc_ne {s s' : SS} (h : s ≠ s') : (encSS s == encSS s') = false := by rw [enc_eq]; simp [h]

noncomputable def sStack : List Nat := [115, 116, 97, 99, 107]
noncomputable def sHeld : List Nat := [105, 115, 95, 104, 101, 108, 100]
noncomputable def sCont : List Nat := [105, 115, 95, 99, 111, 110, 116, 105, 110, 117, 101, 100]
noncomputable def sFault : List Nat := [105, 115, 95, 102, 97, 117, 108, 116]
noncomputable def bookD (so : Nat) (bk : Book) : List (List Nat × D) := [([115, 116, 97, 99, 107], .obj so), ([105, 115, 95, 104, 101, 108, 100], .bool bk.held), ([105, 115, 95, 99, 111, 110, 116, 105, 110, 117, 101, 100], .bool bk.cont), ([105, 115, 95, 102, 97, 117, 108, 116], .bool bk.fault)]

noncomputable def Items (cs : List Cell) : List Nat → List Item → Prop
  | [], [] => True
  | i :: is, x :: xs => cs[i]? = some (.lst (encItem x)) ∧ Items cs is xs
  | _, _ => False

structure BR (cs : List Cell) (b so : Nat) (is : List Nat) (bk : Book) : Prop where
  d : cs[b]? = some (.dct (bookD so bk))
  s : cs[so]? = some (.lst (is.reverse.map .obj))
  it : Items cs is bk.stk
  nd : is.Nodup

structure Ev (b so : Nat) (cs : List Cell) (is : List Nat) (cs' : List Cell) (is' : List Nat) : Prop where
  len : cs.length ≤ cs'.length
  keep : ∀ i, i < cs.length → i ∉ b :: so :: is → cs'[i]? = cs[i]?
  new : ∀ i, i ∈ is' → i ∈ is ∨ cs.length ≤ i

theorem Ev.refl {b so : Nat} {cs : List Cell} {is : List Nat} : Ev b so cs is cs is := ⟨Nat.le_refl _, fun _ _ _ => rfl, fun _ h => .inl h⟩
theorem Ev.trans {b so : Nat} {cs cs1 cs2 : List Cell} {is is1 is2 : List Nat} (x : Ev b so cs is cs1 is1) (y : Ev b so cs1 is1 cs2 is2) : Ev b so cs is cs2 is2 := by
  refine ⟨Nat.le_trans x.len y.len, fun i h1 h2 => ?_, fun i h => ?_⟩
  · rw [y.keep i (Nat.lt_of_lt_of_le h1 x.len) fun m => ?_, x.keep i h1 h2]
    simp only [List.mem_cons] at m h2
    rcases m with m | m | m
    · exact h2 (.inl m)
    · exact h2 (.inr (.inl m))
    · rcases x.new i m with q | q
      · exact h2 (.inr (.inr q))
      · walk_at "om"
  · rcases y.new i h with q | q
    · exact x.new i q
    · exact .inr (Nat.le_trans x.len q)

theorem Items.len {cs : List Cell} : ∀ {is : List Nat} {xs : List Item}, Items cs is xs → is.length = xs.length
  | [], [], _ => rfl
  | _ :: is, _ :: xs, h => by rw [List.length_cons, List.length_cons, Items.len h.2]
  | [], _ :: _, h => h.elim
  | _ :: _, [], h => h.elim
theorem Items.mono {cs cs' : List Cell} : ∀ {is : List Nat} {xs : List Item}, Items cs is xs → (∀ i ∈ is, cs'[i]? = cs[i]?) → Items cs' is xs
  | [], [], _, _ => trivial
  | i :: is, x :: xs, h, k => ⟨by rw [k i (.head _)]; exact h.1, Items.mono h.2 fun j m => k j (.tail _ m)⟩
  | [], _ :: _, h, _ => h.elim
  | _ :: _, [], h, _ => h.elim
theorem Items.mem {cs : List Cell} : ∀ {is : List Nat} {xs : List Item} {i : Nat}, Items cs is xs → i ∈ is → ∃ x, cs[i]? = some (.lst (encItem x))
  | [], [], _, _, m => by cases m
  | j :: is, x :: xs, i, h, m => by
    rcases List.mem_cons.mp m with rfl | m
    · exact ⟨x, h.1⟩
    · exact Items.mem h.2 m
  | [], _ :: _, _, h, _ => h.elim
  | _ :: _, [], _, h, _ => h.elim

section
variable {cs : List Cell} {b so i : Nat} {is : List Nat} {bk : Book} {x y : Item} {xs : List Item} {hl cn f : Bool}

theorem BR.bso (h : BR cs b so is bk) : b ≠ so := fun e => by have := h.d; rw [e, h.s] at this; cases this
theorem BR.bnot (h : BR cs b so is bk) : b ∉ is := fun m => by
  obtain ⟨x, e⟩ := h.it.mem m
  rw [h.d] at e; cases e
theorem BR.snot (h : BR cs b so is bk) : so ∉ is := fun m => by
  obtain ⟨x, e⟩ := h.it.mem m
  rw [h.s] at e
  cases q : is.reverse with
  | nil => rw [q] at e; cases e
  | cons a r => rw [q] at e; simp [encItem] at e
theorem BR.top (h : BR cs b so (i :: is) ⟨x :: xs, hl, cn, f⟩) : cs[i]? = some (.lst (encItem x)) := h.it.1

theorem BR.setTop (h : BR cs b so (i :: is) ⟨x :: xs, hl, cn, f⟩) (y : Item) : BR (cs.set i (Cell.lst (encItem y))) b so (i :: is) ⟨y :: xs, hl, cn, f⟩ ∧ Ev b so cs (i :: is) (cs.set i (Cell.lst (encItem y))) (i :: is) := by
  have hb := h.bnot
  have hs := h.snot
  have nd := List.nodup_cons.mp h.nd
  refine ⟨⟨?_, ?_, ⟨?_, ?_⟩, h.nd⟩, by simp, fun j h1 h2 => ?_, fun j m => .inl m⟩
  · rw [List.getElem?_set_ne (fun e => hb (by rw [← e]; exact .head _))]; exact h.d
  · rw [List.getElem?_set_ne (fun e => hs (by rw [← e]; exact .head _))]; exact h.s
  · exact List.getElem?_set_self (List.getElem?_eq_some_iff.mp h.top).1
  · exact h.it.2.mono fun j m => List.getElem?_set_ne (fun e => nd.1 (by rw [e]; exact m))
  · exact List.getElem?_set_ne (fun e => h2 (by rw [← e]; exact .tail _ (.tail _ (.head _))))

theorem BR.push (h : BR cs b so is ⟨xs, hl, cn, f⟩) (y : Item) : BR ((cs ++ [Cell.lst (encItem y)]).set so (Cell.lst (is.reverse.map D.obj ++ [D.obj cs.length]))) b so (cs.length :: is) ⟨y :: xs, hl, cn, f⟩ ∧
    Ev b so cs is ((cs ++ [Cell.lst (encItem y)]).set so (Cell.lst (is.reverse.map D.obj ++ [D.obj cs.length]))) (cs.length :: is) := by
  have lb := (List.getElem?_eq_some_iff.mp h.d).1
  have ls := (List.getElem?_eq_some_iff.mp h.s).1
  have li : ∀ j ∈ is, j < cs.length := fun j m => by
    obtain ⟨x, e⟩ := h.it.mem m
    exact (List.getElem?_eq_some_iff.mp e).1
  have old : ∀ j, j < cs.length → j ≠ so → ((cs ++ [Cell.lst (encItem y)]).set so (Cell.lst (is.reverse.map D.obj ++ [D.obj cs.length])))[j]? = cs[j]? := fun j h1 h2 => by
    rw [List.getElem?_set_ne (Ne.symm h2), List.getElem?_append_left h1]
  refine ⟨⟨?_, ?_, ⟨?_, ?_⟩, ?_⟩, by simp, fun j h1 h2 => old j h1 fun e => h2 (by rw [e]; exact .tail _ (.head _)), fun j m => ?_⟩
  · rw [old b lb h.bso]; exact h.d
  · rw [List.getElem?_set_self (by simp; walk_at "om")]; simp
  · rw [List.getElem?_set_ne (by walk_at "om")]; simp
  · exact h.it.mono fun j m => old j (li j m) fun e => h.snot (by rw [← e]; exact m)
  · exact List.nodup_cons.mpr ⟨fun m => by have := li _ m; walk_at "om", h.nd⟩
  · rcases List.mem_cons.mp m with rfl | m
    · exact .inr (Nat.le_refl _)
    · exact .inl m

theorem BR.pop (h : BR cs b so (i :: is) ⟨x :: xs, hl, cn, f⟩) : BR (cs.set so (Cell.lst (is.reverse.map D.obj))) b so is ⟨xs, hl, cn, f⟩ ∧ Ev b so cs (i :: is) (cs.set so (Cell.lst (is.reverse.map D.obj))) is := by
  have ls := (List.getElem?_eq_some_iff.mp h.s).1
  refine ⟨⟨?_, ?_, ?_, (List.nodup_cons.mp h.nd).2⟩, by simp, fun j h1 h2 => ?_, fun j m => .inl (.tail _ m)⟩
  · rw [List.getElem?_set_ne (Ne.symm h.bso)]; exact h.d
  · exact List.getElem?_set_self ls
  · exact h.it.2.mono fun j m => List.getElem?_set_ne (fun e => h.snot (by rw [e]; exact .tail _ m))
  · exact List.getElem?_set_ne (fun e => h2 (by rw [← e]; exact .tail _ (.head _)))

theorem BR.setBook (h : BR cs b so is ⟨xs, hl, cn, f⟩) (hl' cn' f' : Bool) : BR (cs.set b (Cell.dct (bookD so ⟨xs, hl', cn', f'⟩))) b so is ⟨xs, hl', cn', f'⟩ ∧ Ev b so cs is (cs.set b (Cell.dct (bookD so ⟨xs, hl', cn', f'⟩))) is := by
  have lb := (List.getElem?_eq_some_iff.mp h.d).1
  refine ⟨⟨?_, ?_, ?_, h.nd⟩, by simp, fun j h1 h2 => ?_, fun j m => .inl m⟩
  · exact List.getElem?_set_self lb
  · rw [List.getElem?_set_ne h.bso]; exact h.s
  · exact h.it.mono fun j m => List.getElem?_set_ne (fun e => h.bnot (by rw [e]; exact m))
  · exact List.getElem?_set_ne (fun e => h2 (by rw [← e]; exact .head _))

variable {Q : D → Prop}
theorem rd_stack (h : BR cs b so is bk) (q : Q (.obj so)) : ∃ d, subD cs (.obj b) (.str [115, 116, 97, 99, 107]) = some d ∧ Q d := ⟨_, by rw [subD_dct h.d]; rfl, q⟩
theorem rd_held (h : BR cs b so is bk) (q : Q (.bool bk.held)) : ∃ d, subD cs (.obj b) (.str [105, 115, 95, 104, 101, 108, 100]) = some d ∧ Q d := ⟨_, by rw [subD_dct h.d]; rfl, q⟩
theorem rd_cont (h : BR cs b so is bk) (q : Q (.bool bk.cont)) : ∃ d, subD cs (.obj b) (.str [105, 115, 95, 99, 111, 110, 116, 105, 110, 117, 101, 100]) = some d ∧ Q d := ⟨_, by rw [subD_dct h.d]; rfl, q⟩
theorem rd_fault (h : BR cs b so is bk) (q : Q (.bool bk.fault)) : ∃ d, subD cs (.obj b) (.str [105, 115, 95, 102, 97, 117, 108, 116]) = some d ∧ Q d := ⟨_, by rw [subD_dct h.d]; rfl, q⟩
theorem rd_top (h : BR cs b so (i :: is) bk) (q : Q (.obj i)) : ∃ d, subD cs (.obj so) (.int (-1)) = some d ∧ Q d := by
  refine ⟨_, ?_, q⟩
  have hs := h.s
  simp only [List.reverse_cons, List.map_append, List.map_cons, List.map_nil] at hs
  rw [subD_lst hs, if_pos (by decide)]
  unfold idx
  rw [if_neg (by decide), if_pos (by simp only [List.length_append, List.length_cons, List.length_nil]; walk_at "om")]
  simp only [Option.bind_some]
  rw [show ((-1 : Int) + ((is.reverse.map D.obj ++ [D.obj i]).length : Nat)).toNat = (is.reverse.map D.obj).length by simp only [List.length_append, List.length_cons, List.length_nil]; walk_at "om"]
  simp
theorem rd_item {l : List D} {d : D} {k : Nat} {j : Int} (h : cs[i]? = some (Cell.lst l)) (hj : j = (k : Int)) (hk : k < l.length) (hk2 : k < 2 ^ 40) (e : l[k]? = some d) (q : Q d) : ∃ d, subD cs (.obj i) (.int j) = some d ∧ Q d := by
  refine ⟨d, ?_, q⟩
  subst hj
  rw [subD_lst h, if_pos (small_nat hk2).1]
  unfold idx
  rw [if_pos (by walk_at "om"), if_pos (by simpa using hk)]
  simpa using e
theorem rd_kind (h : cs[i]? = some (Cell.lst (encItem x))) (q : Q (.str (kindL x))) : ∃ d, subD cs (.obj i) (.int 0) = some d ∧ Q d := rd_item (k := 0) h rfl (by simp [encItem]) (by decide) rfl q
theorem rd_state (h : cs[i]? = some (Cell.lst (encItem x))) (q : Q (stateD x)) : ∃ d, subD cs (.obj i) (.int 1) = some d ∧ Q d := rd_item (k := 1) h rfl (by simp [encItem]) (by decide) rfl q
theorem rd_text (h : cs[i]? = some (Cell.lst (encItem x))) (q : Q (.str (textL x))) : ∃ d, subD cs (.obj i) (.int 2) = some d ∧ Q d := rd_item (k := 2) h rfl (by simp [encItem]) (by decide) rfl q
theorem rd_flag (h : cs[i]? = some (Cell.lst (encItem x))) (q : Q (.bool (flagB x))) : ∃ d, subD cs (.obj i) (.int 3) = some d ∧ Q d := rd_item (k := 3) h rfl (by simp [encItem]) (by decide) rfl q
variable {R : List Cell → Prop}
theorem st_item {l : List D} {v : D} {k : Nat} {j : Int} (h : cs[i]? = some (Cell.lst l)) (hj : j = (k : Int)) (hk : k < l.length) (hk2 : k < 2 ^ 40) (q : R (cs.set i (Cell.lst (l.set k v)))) : ∃ c, setD cs (.obj i) (.int j) v = some c ∧ R c := by
  refine ⟨_, ?_, q⟩
  subst hj
  exact setD_lst h ⟨(small_nat hk2).1, by walk_at "om", by simpa using hk⟩
theorem st_state (h : cs[i]? = some (Cell.lst (encItem x))) {v : D} (q : R (cs.set i (Cell.lst [.str (kindL x), v, .str (textL x), .bool (flagB x)]))) : ∃ c, setD cs (.obj i) (.int 1) v = some c ∧ R c := st_item (k := 1) h rfl (by simp [encItem]) (by decide) q
theorem st_text (h : cs[i]? = some (Cell.lst (encItem x))) {v : D} (q : R (cs.set i (Cell.lst [.str (kindL x), stateD x, v, .bool (flagB x)]))) : ∃ c, setD cs (.obj i) (.int 2) v = some c ∧ R c := st_item (k := 2) h rfl (by simp [encItem]) (by decide) q
theorem st_fault (h : BR cs b so is ⟨xs, hl, cn, f⟩) {v : Bool} (q : R (cs.set b (Cell.dct (bookD so ⟨xs, hl, cn, v⟩)))) : ∃ c, setD cs (.obj b) (.str [105, 115, 95, 102, 97, 117, 108, 116]) (.bool v) = some c ∧ R c :=
  ⟨_, by rw [setD_dct h.d ⟨rfl, by simp [bookD]⟩]; rfl, q⟩
theorem st_held (h : BR cs b so is ⟨xs, hl, cn, f⟩) {v : Bool} (q : R (cs.set b (Cell.dct (bookD so ⟨xs, v, cn, f⟩)))) : ∃ c, setD cs (.obj b) (.str [105, 115, 95, 104, 101, 108, 100]) (.bool v) = some c ∧ R c :=
  ⟨_, by rw [setD_dct h.d ⟨rfl, by simp [bookD]⟩]; rfl, q⟩
theorem st_cont (h : BR cs b so is ⟨xs, hl, cn, f⟩) {v : Bool} (q : R (cs.set b (Cell.dct (bookD so ⟨xs, hl, v, f⟩)))) : ∃ c, setD cs (.obj b) (.str [105, 115, 95, 99, 111, 110, 116, 105, 110, 117, 101, 100]) (.bool v) = some c ∧ R c :=
  ⟨_, by rw [setD_dct h.d ⟨rfl, by simp [bookD]⟩]; rfl, q⟩
theorem ln_stack (h : BR cs b so is bk) (hl : bk.stk.length ≤ 2 ^ 19) {Q : Int → Prop} (q : Q (bk.stk.length : Int)) : ∃ n, lenD cs (.obj so) = some n ∧ n ≤ 2 ^ 24 ∧ Q n := by
  refine ⟨bk.stk.length, ?_, by walk_at "om", q⟩
  rw [lenD_lst h.s]
  simp [h.it.len]
end

section
variable {cs : List Cell} {b so i : Nat} {is : List Nat} {x : Item} {xs : List Item} {hl cn f : Bool} {R : List Cell → Prop}
theorem do_state (B : BR cs b so (i :: is) ⟨x :: xs, hl, cn, f⟩) (y : Item) {v : D} (e : encItem y = [.str (kindL x), v, .str (textL x), .bool (flagB x)]) (q : ∀ cs1, BR cs1 b so (i :: is) ⟨y :: xs, hl, cn, f⟩ → Ev b so cs (i :: is) cs1 (i :: is) → R cs1) :
    ∃ c, setD cs (.obj i) (.int 1) v = some c ∧ R c := by
  obtain ⟨B1, E1⟩ := B.setTop y
  exact st_state B.top (by rw [← e]; exact q _ B1 E1)
theorem do_text (B : BR cs b so (i :: is) ⟨x :: xs, hl, cn, f⟩) (y : Item) {v : D} (e : encItem y = [.str (kindL x), stateD x, v, .bool (flagB x)]) (q : ∀ cs1, BR cs1 b so (i :: is) ⟨y :: xs, hl, cn, f⟩ → Ev b so cs (i :: is) cs1 (i :: is) → R cs1) :
    ∃ c, setD cs (.obj i) (.int 2) v = some c ∧ R c := by
  obtain ⟨B1, E1⟩ := B.setTop y
  exact st_text B.top (by rw [← e]; exact q _ B1 E1)
theorem do_pop (B : BR cs b so (i :: is) ⟨x :: xs, hl, cn, f⟩) (hlen : xs.length ≤ 2 ^ 19) {R : D → List Cell → Prop} (q : ∀ cs1, BR cs1 b so is ⟨xs, hl, cn, f⟩ → Ev b so cs (i :: is) cs1 is → (∀ j, j ≠ so → cs1[j]? = cs[j]?) → R (.obj i) cs1) :
    ∃ n l z, D.obj so = .obj n ∧ cs[n]? = some (Cell.lst (l ++ [z])) ∧ l.length ≤ 2 ^ 20 ∧ R z (cs.set n (.lst l)) := by
  obtain ⟨B1, E1⟩ := B.pop
  have hs := B.s
  simp only [List.reverse_cons, List.map_append, List.map_cons, List.map_nil] at hs
  refine ⟨so, _, _, rfl, hs, ?_, q _ B1 E1 fun j hj => List.getElem?_set_ne (Ne.symm hj)⟩
  have := B.it.2.len
  simp; walk_at "om"
theorem do_fault (B : BR cs b so is ⟨xs, hl, cn, f⟩) {v : Bool} (q : ∀ cs1, BR cs1 b so is ⟨xs, hl, cn, v⟩ → Ev b so cs is cs1 is → R cs1) : ∃ c, setD cs (.obj b) (.str [105, 115, 95, 102, 97, 117, 108, 116]) (.bool v) = some c ∧ R c := by
  obtain ⟨B1, E1⟩ := B.setBook hl cn v
  exact st_fault B (q _ B1 E1)
theorem do_held (B : BR cs b so is ⟨xs, hl, cn, f⟩) {v : Bool} (q : ∀ cs1, BR cs1 b so is ⟨xs, v, cn, f⟩ → Ev b so cs is cs1 is → R cs1) : ∃ c, setD cs (.obj b) (.str [105, 115, 95, 104, 101, 108, 100]) (.bool v) = some c ∧ R c := by
  obtain ⟨B1, E1⟩ := B.setBook v cn f
  exact st_held B (q _ B1 E1)
theorem do_cont (B : BR cs b so is ⟨xs, hl, cn, f⟩) {v : Bool} (q : ∀ cs1, BR cs1 b so is ⟨xs, hl, v, f⟩ → Ev b so cs is cs1 is → R cs1) : ∃ c, setD cs (.obj b) (.str [105, 115, 95, 99, 111, 110, 116, 105, 110, 117, 101, 100]) (.bool v) = some c ∧ R c := by
  obtain ⟨B1, E1⟩ := B.setBook hl v f
  exact st_cont B (q _ B1 E1)
end

noncomputable def Done (cs : List Cell) (b so : Nat) (is : List Nat) (bk' : Book) (d : D) (P : D → List Cell → Prop) : Prop := ∀ cs' is', BR cs' b so is' bk' → Ev b so cs is cs' is' → P d cs'
end
local macro_rules | `(tactic| walk_at "wp") => `(tactic| first | ((with_reducible first
  | (refine' rd_stack ?h ?_; case h => assumption) | (refine' rd_top ?h ?_; case h => assumption) | (refine' rd_kind ?h ?_; case h => assumption) | (refine' rd_state ?h ?_; case h => assumption) | (refine' rd_text ?h ?_; case h => assumption) | (refine' rd_flag ?h ?_; case h => assumption) | (refine' rd_held ?h ?_; case h => assumption) | (refine' rd_cont ?h ?_; case h => assumption) | (refine' rd_fault ?h ?_; case h => assumption)
  | (refine' ln_stack ?h ?i ?_; (case h => assumption); (case i => assumption))
  | refine q_asgc ?_ | refine q_asgl rfl ?_ | refine q_asg ?_ | refine q_asgs ?_ | refine q_aug rfl ?_ | refine q_expr ?_ | refine q_if0 ?_ | refine q_ret_c ?_ | refine q_ret_l rfl ?_ | refine q_augc rfl ?_ | refine q_if ?_
  | refine q_cmp_lc rfl ?_ | refine q_cmp_ll rfl rfl ?_ | refine q_cmp_c ?_ | refine q_cmp_l rfl ?_ | refine q_bin_lc rfl ?_ | refine q_bin_ll rfl rfl ?_ | refine q_bin_c ?_ | refine q_bin_l rfl ?_ | refine q_sub_lc rfl ?_ | refine q_sub_ll rfl rfl ?_ | refine q_sub_l rfl ?_ | refine q_sub_c ?_ | refine q_len_l rfl ?_ | refine q_sl_l rfl rfl ?_ | refine q_sl_s rfl ?_
  | refine q_call_0 ?_ | refine q_call_l rfl ?_ | refine q_call_ll rfl rfl ?_ | refine q_call_lll rfl rfl rfl ?_ | refine q_call_llx rfl rfl ?_ | refine q_call_lxc rfl ?_ | refine q_call_lx rfl ?_ | refine q_call_x ?_ | refine q_cons_l rfl ?_ | refine q_cons_c ?_
  | refine s_seq ?_ | refine s_asg ?_ | refine s_ret ?_ | refine s_ite ?_ | refine s_aug rfl ?_ | refine s_expr ?_ | refine s_asgs ?_ | refine s_asgsR ?_ | refine s_setSub ?_ | refine s_setSub2 ?_ | refine s_augSub ?_ | refine s_skip ?_ | refine s_brk ?_ | refine s_fail ?_
  | refine r_B ?_ | refine r_cst ?_ | refine r_loc rfl ?_ | refine r_bin ?_ | refine r_cmp ?_ | refine r_sub ?_ | refine r_slice ?_ | refine r_call ?_ | refine r_cons ?_ | refine r_nil ?_ | refine r_tup ?_ | refine r_list ?_ | refine r_len ?_ | refine r_sum ?_ | refine r_not ?_ | refine r_and ?_ | refine r_or ?_ | refine r_ite ?_
  | refine r_cmp2 ?_ | refine r_ord ?_ | refine r_chr ?_ | refine r_tupleOf ?_ | refine r_find ?_ | refine r_find2 ?_ | refine r_append ?_ | refine r_pop ?_ | refine r_dict ?_
  | refine v_add1 ?_ | refine v_add2 ?_ | refine v_add3 ?_ | (refine v_sub1 ?_ ?_; · exact (by walk_at "om1")) | refine v_eq1 ?_ | refine v_ne1 ?_ | refine v_lt ?_ | refine v_le ?_ | refine v_gt ?_ | refine v_ge ?_ | refine v_eqI ?_ | refine v_neI ?_ | refine v_eqS ?_ | refine v_neS ?_ | refine v_eqB ?_ | refine v_neB ?_
  | refine k_bool ?_ | refine v_bool ?_ | (refine' v_sub_str ?h ?i ?_; (case h => assumption); case i => exact (by walk_at "om1")) | (refine v_slice ?_ ?_; · exact (by first | walk_at "om1" | (simp only [List.length_cons, List.length_nil]; walk_at "om1"))) | (refine v_len ?_ ?_; · exact (by first | walk_at "om1" | (simp only [List.length_cons, List.length_nil]; walk_at "om1"))) | refine v_ord ?_ | refine v_str ?_ | refine v_inS ?_ | refine v_ninS ?_ | refine v_inT rfl ?_ | refine v_ninT rfl ?_ | refine v_tup rfl ?_ | refine v_two ?_ | refine t_T ?_ | refine t_F ?_ | (refine And.intro ?_ ?_; · exact (by decide)) | dsimp only [forP_n, forP_b, forP_r, dropO_s, dropO_n, takeO_s, takeO_n, seqP_n, seqP_b, seqP_r, whlP_n, whlP_b, whlP_r, whlG_e, iteG_e, ifG_e, andG_e, orG_e, notG_e, iteE_e, retP_e, fv_ret, fv_next, init, St.set, St.sets, map_c, map_n, app_c, app_n, len_c, len_n, Nat.reduceAdd, Nat.reduceSub, rep_s, rep_0, set_0, set_s, List.reverse, List.reverseAux]); walk_at "wp") | skip)
section
variable {K : Nat → Call}


theorem c_law_open (H : Prg K) {n b cs P X} {so : Nat} {is : List Nat} {xs : List Item} {h cn f : Bool} {kd : List Nat} {sd : D} {e : Bool} (B : BR cs b so is ⟨xs, h, cn, f⟩) (hl : xs.length ≤ 2 ^ 19) (y : Item)
    (hy : encItem y = [.str kd, sd, .str [], .bool e]) (q : Done cs b so is ⟨y :: xs, h, cn, f⟩ .none P) : K (n + 1) 221 [.obj b, .str kd, sd, .bool e] cs P X := by
  refine H.f221 rfl ?_
  unfold b_law_open
  walk_at "wp"
  refine ⟨so, _, rfl, B.s, ?_⟩
  walk_at "wp"
  have ls := (List.getElem?_eq_some_iff.mp B.s).1
  refine ⟨is.reverse.map .obj, by rw [List.getElem?_append_left ls]; exact B.s, by simp [B.it.len]; walk_at "om", ?_⟩
  walk_at "wp"
  rw [← hy]
  obtain ⟨B2, E⟩ := B.push y
  exact q _ _ B2 E

theorem isNm_list (c : Nat) : ([97, 98, 99, 100, 101, 102, 103, 104, 105, 106, 107, 108, 109, 110, 111, 112, 113, 114, 115, 116, 117, 118, 119, 120, 121, 122, 65, 66, 67, 68, 69, 70, 71, 72, 73, 74, 75, 76, 77, 78, 79, 80, 81, 82, 83, 84, 85, 86, 87, 88, 89, 90, 48, 49, 50, 51, 52, 53, 54, 55, 56, 57, 95] : List Nat).contains c = isNm c := by
  by_cases h : c < 128
  · have : ∀ c, c < 128 → ([97, 98, 99, 100, 101, 102, 103, 104, 105, 106, 107, 108, 109, 110, 111, 112, 113, 114, 115, 116, 117, 118, 119, 120, 121, 122, 65, 66, 67, 68, 69, 70, 71, 72, 73, 74, 75, 76, 77, 78, 79, 80, 81, 82, 83, 84, 85, 86, 87, 88, 89, 90, 48, 49, 50, 51, 52, 53, 54, 55, 56, 57, 95] : List Nat).contains c = isNm c := by decide +kernel
    exact this c h
  · have h1 : isNm c = false := by
      unfold isNm
      simp only [Bool.or_eq_false_iff, Bool.and_eq_false_iff, decide_eq_false_iff_not, beq_eq_false_iff_ne]
      walk_at "om"
    rw [h1]
    have h2 : ∀ x ∈ ([97, 98, 99, 100, 101, 102, 103, 104, 105, 106, 107, 108, 109, 110, 111, 112, 113, 114, 115, 116, 117, 118, 119, 120, 121, 122, 65, 66, 67, 68, 69, 70, 71, 72, 73, 74, 75, 76, 77, 78, 79, 80, 81, 82, 83, 84, 85, 86, 87, 88, 89, 90, 48, 49, 50, 51, 52, 53, 54, 55, 56, 57, 95] : List Nat), x < 128 := by decide +kernel
    rw [Bool.eq_false_iff]
    intro m
    exact h (h2 c (by simpa using m))

theorem c_law_is_name (H : Prg K) {n c cs P X} (q : P (.bool (isNm c)) cs) : K (n + 1) 214 [.str [c]] cs P X := by
  refine H.f214 rfl ?_
  unfold b_law_is_name
  walk_at "wp"
  rw [isNm_list]
  exact q

theorem c_law_goes_on (H : Prg K) {n c cs P X} {b so i : Nat} {is : List Nat} {xs : List Item} {h cn f : Bool} {k : PK} {v : Int} (B : BR cs b so (i :: is) ⟨.parts k (-1) :: xs, h, cn, f⟩) (hl : xs.length + 1 ≤ 2 ^ 19)
    (q1 : ∀ l, goesOn k v xs c = some l → Done cs b so (i :: is) ⟨l, h, cn, f⟩ (.bool true) P) (q2 : goesOn k v xs c = none → P (.bool false) cs) : K (n + 2) 235 [.obj b, .obj i, .str [c], .int v] cs P X := by
  have ht := B.top
  refine H.f235 rfl ?_
  unfold b_law_goes_on
  unfold goesOn at q1 q2
  have B1 : c = 123 → v = 0 → Done cs b so (i :: is) ⟨.name :: .parts k (-1) :: xs, h, cn, f⟩ (.bool true) P := fun a d => q1 _ (by rw [if_pos ⟨a, d⟩])
  have rest2 : ¬ (c = 123 ∧ v = 0) → wpS (K (n + 1)) (.ite (.and (.cmp .eq (.loc 2) (.cst (.str [40]))) (.cmp .ne (.loc 3) (.cst (.int 2)))) (.expr (.call 221 (.cons (.loc 0) (.cons (.cst (.str [105, 110, 100, 101, 120])) (.cons (.cst (.int (-1))) (.cons (.cst (.bool false)) .nil)))))) (.ite (.cmp .eq (.loc 2) (.cst (.str [58]))) (.setSub (.loc 1) (.cst (.int 1)) (.ite (.cmp .ge (.loc 3) (.cst (.int 2))) (.cst (.int 3)) (.cst (.int 2)))) (.ite (.and (.cmp .ne (.loc 3) (.cst (.int 2))) (.call 214 (.cons (.loc 2) .nil))) (.setSub (.loc 1) (.cst (.int 1)) (.cst (.int 1))) (.ret (.cst (.bool false))))))
      ⟨[some (.obj b), some (.obj i), some (.str [c]), some (.int v)], cs⟩ (fun f σ1 => match f with
        | .next => wpS (K (n + 1)) b_law_goes_on_1 σ1 (fun fl σ => P fl.val σ.cells) X
        | .brk => P Fl.brk.val σ1.cells
        | .ret d => P (Fl.ret d).val σ1.cells) X := fun hn1 => by
    rw [if_neg hn1] at q1 q2
    have rest3 : ¬ (c = 40 ∧ v ≠ 2) → wpS (K (n + 1)) (.ite (.cmp .eq (.loc 2) (.cst (.str [58]))) (.setSub (.loc 1) (.cst (.int 1)) (.ite (.cmp .ge (.loc 3) (.cst (.int 2))) (.cst (.int 3)) (.cst (.int 2)))) (.ite (.and (.cmp .ne (.loc 3) (.cst (.int 2))) (.call 214 (.cons (.loc 2) .nil))) (.setSub (.loc 1) (.cst (.int 1)) (.cst (.int 1))) (.ret (.cst (.bool false)))))
      ⟨[some (.obj b), some (.obj i), some (.str [c]), some (.int v)], cs⟩ (fun f σ1 => match f with
        | .next => wpS (K (n + 1)) b_law_goes_on_1 σ1 (fun fl σ => P fl.val σ.cells) X
        | .brk => P Fl.brk.val σ1.cells
        | .ret d => P (Fl.ret d).val σ1.cells) X := fun hn2 => by
      rw [if_neg hn2] at q1 q2
      walk_at "wp"
      refine t_split (fun ha => ?_) (fun ha => ?_)
      · replace ha : c = 58 := by first | exact eq_of_beq ha | exact ne_of_beq_false ha | exact ltN ha | exact nltN ha | exact leN ha | exact nleN ha | exact eN ha | exact neN ha | exact nb1 ha | exact nb2 ha | simpa using ha
        rw [if_pos ha] at q1
        walk_at "wp"
        refine t_split (fun hb => ?_) (fun hb => ?_)
        · replace hb : v ≥ 2 := by first | exact eq_of_beq hb | exact ne_of_beq_false hb | exact ltN hb | exact nltN hb | exact leN hb | exact nleN hb | exact eN hb | exact neN hb | exact nb1 hb | exact nb2 hb | simpa using hb
          rw [if_pos hb] at q1
          walk_at "wp"
          refine st_state ht ?_
          walk_at "wp"
          unfold b_law_goes_on_1
          walk_at "wp"
          obtain ⟨B2, E⟩ := B.setTop (.parts k 3)
          exact q1 _ rfl _ _ B2 E
        · replace hb : ¬ v ≥ 2 := by first | exact eq_of_beq hb | exact ne_of_beq_false hb | exact ltN hb | exact nltN hb | exact leN hb | exact nleN hb | exact eN hb | exact neN hb | exact nb1 hb | exact nb2 hb | simpa using hb
          rw [if_neg hb] at q1
          walk_at "wp"
          refine st_state ht ?_
          walk_at "wp"
          unfold b_law_goes_on_1
          walk_at "wp"
          obtain ⟨B2, E⟩ := B.setTop (.parts k 2)
          exact q1 _ rfl _ _ B2 E
      · replace ha : c ≠ 58 := by first | exact eq_of_beq ha | exact ne_of_beq_false ha | exact ltN ha | exact nltN ha | exact leN ha | exact nleN ha | exact eN ha | exact neN ha | exact nb1 ha | exact nb2 ha | simpa using ha
        rw [if_neg ha] at q1 q2
        walk_at "wp"
        refine t_split (fun hb => ?_) (fun hb => ?_)
        · replace hb : v ≠ 2 := by first | exact eq_of_beq hb | exact ne_of_beq_false hb | exact ltN hb | exact nltN hb | exact leN hb | exact nleN hb | exact eN hb | exact neN hb | exact nb1 hb | exact nb2 hb | simpa using hb
          walk_at "wp"
          refine c_law_is_name H ?_
          walk_at "wp"
          refine t_split (fun hd => ?_) (fun hd => ?_)
          · rw [if_pos ⟨hb, hd⟩] at q1
            walk_at "wp"
            refine st_state ht ?_
            walk_at "wp"
            unfold b_law_goes_on_1
            walk_at "wp"
            obtain ⟨B2, E⟩ := B.setTop (.parts k 1)
            exact q1 _ rfl _ _ B2 E
          · rw [if_neg (by simp [hd])] at q2
            walk_at "wp"
            exact q2 rfl
        · replace hb : v = 2 := by first | exact eq_of_beq hb | exact ne_of_beq_false hb | exact ltN hb | exact nltN hb | exact leN hb | exact nleN hb | exact eN hb | exact neN hb | exact nb1 hb | exact nb2 hb | simpa using hb
          rw [if_neg (by simp [hb])] at q2
          walk_at "wp"
          exact q2 rfl
    walk_at "wp"
    refine t_split (fun ha => ?_) (fun ha => ?_)
    · replace ha : c = 40 := by first | exact eq_of_beq ha | exact ne_of_beq_false ha | exact ltN ha | exact nltN ha | exact leN ha | exact nleN ha | exact eN ha | exact neN ha | exact nb1 ha | exact nb2 ha | simpa using ha
      walk_at "wp"
      refine t_split (fun hb => ?_) (fun hb => ?_)
      · replace hb : v ≠ 2 := by first | exact eq_of_beq hb | exact ne_of_beq_false hb | exact ltN hb | exact nltN hb | exact leN hb | exact nleN hb | exact eN hb | exact neN hb | exact nb1 hb | exact nb2 hb | simpa using hb
        rw [if_pos ⟨ha, hb⟩] at q1
        walk_at "wp"
        refine c_law_open H B hl (.parts .index (-1)) rfl fun cs' is' B2 E => ?_
        walk_at "wp"
        unfold b_law_goes_on_1
        walk_at "wp"
        exact q1 _ rfl _ _ B2 E
      · replace hb : v = 2 := by first | exact eq_of_beq hb | exact ne_of_beq_false hb | exact ltN hb | exact nltN hb | exact leN hb | exact nleN hb | exact eN hb | exact neN hb | exact nb1 hb | exact nb2 hb | simpa using hb
        exact rest3 (by simp [hb])
    · replace ha : c ≠ 40 := by first | exact eq_of_beq ha | exact ne_of_beq_false ha | exact ltN ha | exact nltN ha | exact leN ha | exact nleN ha | exact eN ha | exact neN ha | exact nb1 ha | exact nb2 ha | simpa using ha
      refine v_bool (t_F ?_)
      exact rest3 (by simp [ha])
  walk_at "wp"
  refine t_split (fun ha => ?_) (fun ha => ?_)
  · replace ha : c = 123 := by first | exact eq_of_beq ha | exact ne_of_beq_false ha | exact ltN ha | exact nltN ha | exact leN ha | exact nleN ha | exact eN ha | exact neN ha | exact nb1 ha | exact nb2 ha | simpa using ha
    walk_at "wp"
    refine t_split (fun hb => ?_) (fun hb => ?_)
    · replace hb : v = 0 := by first | exact eq_of_beq hb | exact ne_of_beq_false hb | exact ltN hb | exact nltN hb | exact leN hb | exact nleN hb | exact eN hb | exact neN hb | exact nb1 hb | exact nb2 hb | simpa using hb
      walk_at "wp"
      refine c_law_open H B hl .name rfl fun cs' is' B2 E => ?_
      walk_at "wp"
      unfold b_law_goes_on_1
      walk_at "wp"
      exact B1 ha hb _ _ B2 E
    · replace hb : v ≠ 0 := by first | exact eq_of_beq hb | exact ne_of_beq_false hb | exact ltN hb | exact nltN hb | exact leN hb | exact nleN hb | exact eN hb | exact neN hb | exact nb1 hb | exact nb2 hb | simpa using hb
      exact rest2 (by simp [hb])
  · replace ha : c ≠ 123 := by first | exact eq_of_beq ha | exact ne_of_beq_false ha | exact ltN ha | exact nltN ha | exact leN ha | exact nleN ha | exact eN ha | exact neN ha | exact nb1 ha | exact nb2 ha | simpa using ha
    refine v_bool (t_F ?_)
    exact rest2 (by simp [ha])
end
section
variable {K : Nat → Call}


noncomputable def stopB (k : PK) (xs : List Item) (c : Nat) : Bool := decide (k = .bare) && (isGap c || c == 10 || c == 59 || (c == 93 && decide (xs.length > 1)))
noncomputable def bareKind (k : PK) : Bool := decide (k = .bare)

theorem encPK_eq (k k' : PK) : (encPK k == encPK k') = decide (k = k') := by cases k <;> cases k' <;> rfl

theorem in_parts_1 (H : Prg K) {n c : Nat} {cs : List Cell} {P : D → List Cell → Prop} {X : XP} {b so i : Nat} {is : List Nat} {xs : List Item} {h cn f : Bool} {k : PK} {v : Int} (B : BR cs b so (i :: is) ⟨.parts k (-1) :: xs, h, cn, f⟩) (hl : xs.length + 1 ≤ 2 ^ 19)
    (hw : k = .quote → ∃ s r, xs = .script s :: r) (hs : k = .bare → ¬ (isGap c = true ∨ c = 10 ∨ c = 59 ∨ (c = 93 ∧ xs.length > 1)))
    (q : Done cs b so (i :: is) ⟨(partsS0 k xs c).1, h, cn, f⟩ .none P) :
    wpS (K (n + 2)) b_law_in_parts_1 ⟨[some (.obj b), some (.str [c]), some (.obj so), some (.obj i), some (.str (encPK k)), some (.int v)], cs⟩ (fun fl σ => P fl.val σ.cells) X := by
  have ht := B.top
  unfold b_law_in_parts_1
  -- the plain ends
  have plain : partsS0 k xs c = (plainParts k xs c, false) → wpS (K (n + 2)) (.ite (.cmp .eq (.loc 1) (.cst (.str [36]))) (.setSub (.loc 3) (.cst (.int 1)) (.cst (.int 0))) (.ite (.cmp .eq (.loc 1) (.cst (.str [91]))) (.expr (.call 221 (.cons (.loc 0) (.cons (.cst (.str [115, 99, 114, 105, 112, 116])) (.cons (.cst (.str [97, 104, 101, 97, 100])) (.cons (.cst (.bool false)) .nil)))))) .skip))
      ⟨[some (.obj b), some (.str [c]), some (.obj so), some (.obj i), some (.str (encPK k)), some (.int v)], cs⟩ (fun fl σ => P fl.val σ.cells) X := fun e => by
    rw [e] at q
    unfold plainParts at q
    walk_at "wp"
    refine t_split (fun ha => ?_) (fun ha => ?_)
    · replace ha : c = 36 := by first | exact eq_of_beq ha | exact ne_of_beq_false ha | exact ltN ha | exact nltN ha | exact leN ha | exact nleN ha | exact eN ha | exact neN ha | exact nb1 ha | exact nb2 ha | simpa using ha
      rw [if_pos ha] at q
      walk_at "wp"
      refine do_state B (.parts k 0) rfl fun cs1 B1 E1 => ?_
      walk_at "wp"
      exact q _ _ B1 E1
    · replace ha : c ≠ 36 := by first | exact eq_of_beq ha | exact ne_of_beq_false ha | exact ltN ha | exact nltN ha | exact leN ha | exact nleN ha | exact eN ha | exact neN ha | exact nb1 ha | exact nb2 ha | simpa using ha
      rw [if_neg ha] at q
      walk_at "wp"
      refine t_split (fun hb => ?_) (fun hb => ?_)
      · replace hb : c = 91 := by first | exact eq_of_beq hb | exact ne_of_beq_false hb | exact ltN hb | exact nltN hb | exact leN hb | exact nleN hb | exact eN hb | exact neN hb | exact nb1 hb | exact nb2 hb | simpa using hb
        rw [if_pos hb] at q
        walk_at "wp"
        refine c_law_open H B hl (.script .ahead) rfl fun cs1 is1 B1 E1 => ?_
        walk_at "wp"
        exact q _ _ B1 E1
      · replace hb : c ≠ 91 := by first | exact eq_of_beq hb | exact ne_of_beq_false hb | exact ltN hb | exact nltN hb | exact leN hb | exact nleN hb | exact eN hb | exact neN hb | exact nb1 hb | exact nb2 hb | simpa using hb
        rw [if_neg hb] at q
        walk_at "wp"
        exact q _ _ B Ev.refl
  walk_at "wp"
  rw [show (encPK k == [98, 97, 114, 101]) = decide (k = .bare) from encPK_eq k .bare]
  cases k with
  | bare =>
    have e : partsS0 .bare xs c = (plainParts .bare xs c, false) := by
      unfold partsS0
      rw [if_neg (fun z => hs rfl z.2), if_neg (by simp), if_neg (by simp)]
    have hs' := hs rfl
    refine t_pos rfl ?_
    walk_at "wp"
    have hg : ([32, 9, 11, 12, 13, 10, 59] : List Nat).contains c = false := by
      have g1 : isGap c = false := by
        cases w : isGap c with
        | false => rfl
        | true => exact absurd (.inl w) hs'
      have g2 : c ≠ 10 := fun z => hs' (.inr (.inl z))
      have g3 : c ≠ 59 := fun z => hs' (.inr (.inr (.inl z)))
      unfold isGap at g1
      simp only [Bool.or_eq_false_iff, beq_eq_false_iff_ne] at g1
      rw [Bool.eq_false_iff]
      intro m
      replace m : c = 32 ∨ c = 9 ∨ c = 11 ∨ c = 12 ∨ c = 13 ∨ c = 10 ∨ c = 59 := by first | exact eq_of_beq m | exact ne_of_beq_false m | exact ltN m | exact nltN m | exact leN m | exact nleN m | exact eN m | exact neN m | exact nb1 m | exact nb2 m | simpa using m
      walk_at "om"
    refine t_neg hg ?_
    walk_at "wp"
    have tl : ∀ {A B : Prop}, B → if (encPK PK.bare == [113, 117, 111, 116, 101]) = true then A else B := fun hb => t_neg rfl hb
    have other : wpS (K (n + 2)) (.ite (.and (.cmp .eq (.loc 4) (.cst (.str [113, 117, 111, 116, 101]))) (.cmp .eq (.loc 1) (.cst (.str [34])))) (.seq (.expr (.pop (.loc 2)))
  (.setSub (.sub (.loc 2) (.cst (.int (-1)))) (.cst (.int 1)) (.cst (.str [98, 101, 104, 105, 110, 100])))) (.ite (.and (.cmp .eq (.loc 4) (.cst (.str [105, 110, 100, 101, 120]))) (.cmp .eq (.loc 1) (.cst (.str [41])))) (.expr (.pop (.loc 2))) (.ite (.cmp .eq (.loc 1) (.cst (.str [36]))) (.setSub (.loc 3) (.cst (.int 1)) (.cst (.int 0))) (.ite (.cmp .eq (.loc 1) (.cst (.str [91]))) (.expr (.call 221 (.cons (.loc 0) (.cons (.cst (.str [115, 99, 114, 105, 112, 116])) (.cons (.cst (.str [97, 104, 101, 97, 100])) (.cons (.cst (.bool false)) .nil)))))) .skip))))
      ⟨[some (.obj b), some (.str [c]), some (.obj so), some (.obj i), some (.str (encPK .bare)), some (.int v)], cs⟩ (fun fl σ => P fl.val σ.cells) X := by
      walk_at "wp"
      refine t_neg rfl ?_
      walk_at "wp"
      refine t_neg rfl (v_bool (t_F ?_))
      exact plain e
    refine t_split (fun ha => ?_) (fun ha => ?_)
    · replace ha : c = 93 := by first | exact eq_of_beq ha | exact ne_of_beq_false ha | exact ltN ha | exact nltN ha | exact leN ha | exact nleN ha | exact eN ha | exact neN ha | exact nb1 ha | exact nb2 ha | simpa using ha
      walk_at "wp"
      have hlen : ¬ xs.length > 1 := fun z => hs' (.inr (.inr (.inr ⟨ha, z⟩)))
      refine ln_stack B (by simp only [List.length_cons]; walk_at "om") ?_
      walk_at "wp"
      refine t_neg (by simp; walk_at "om") ?_
      exact other
    · refine v_bool (t_F ?_)
      exact other
  | quote =>
    refine t_neg rfl (v_bool (t_F ?_))
    walk_at "wp"
    refine t_pos rfl ?_
    walk_at "wp"
    refine t_split (fun ha => ?_) (fun ha => ?_)
    · replace ha : c = 34 := by first | exact eq_of_beq ha | exact ne_of_beq_false ha | exact ltN ha | exact nltN ha | exact leN ha | exact nleN ha | exact eN ha | exact neN ha | exact nb1 ha | exact nb2 ha | simpa using ha
      obtain ⟨s, r, rfl⟩ := hw rfl
      have e : partsS0 .quote (.script s :: r) c = (.script .behind :: r, false) := by subst ha; simp [partsS0, setTop]
      rw [e] at q
      walk_at "wp"
      refine do_pop (R := fun _ cs1 => wpS (K (n + 2)) _ ⟨_, cs1⟩ _ X) B (by walk_at "om") fun cs1 B1 E1 _ => ?_
      cases is with
      | nil => exact B1.it.elim
      | cons j is =>
        walk_at "wp"
        refine do_state B1 (.script .behind) rfl fun cs2 B2 E2 => ?_
        walk_at "wp"
        exact q _ _ B2 (E1.trans E2)
    · replace ha : c ≠ 34 := by first | exact eq_of_beq ha | exact ne_of_beq_false ha | exact ltN ha | exact nltN ha | exact leN ha | exact nleN ha | exact eN ha | exact neN ha | exact nb1 ha | exact nb2 ha | simpa using ha
      walk_at "wp"
      refine t_neg rfl (v_bool (t_F ?_))
      refine plain ?_
      unfold partsS0
      rw [if_neg (by simp), if_neg (by simp [ha]), if_neg (by simp)]
  | index =>
    refine t_neg rfl (v_bool (t_F ?_))
    walk_at "wp"
    refine t_neg rfl (v_bool (t_F ?_))
    walk_at "wp"
    refine t_pos rfl ?_
    walk_at "wp"
    refine t_split (fun ha => ?_) (fun ha => ?_)
    · replace ha : c = 41 := by first | exact eq_of_beq ha | exact ne_of_beq_false ha | exact ltN ha | exact nltN ha | exact leN ha | exact nleN ha | exact eN ha | exact neN ha | exact nb1 ha | exact nb2 ha | simpa using ha
      have e : partsS0 .index xs c = (xs, false) := by subst ha; simp [partsS0]
      rw [e] at q
      walk_at "wp"
      refine do_pop (R := fun _ cs1 => P _ cs1) B (by walk_at "om") fun cs1 B1 E1 _ => ?_
      walk_at "wp"
      exact q _ _ B1 E1
    · replace ha : c ≠ 41 := by first | exact eq_of_beq ha | exact ne_of_beq_false ha | exact ltN ha | exact nltN ha | exact leN ha | exact nleN ha | exact eN ha | exact neN ha | exact nb1 ha | exact nb2 ha | simpa using ha
      refine plain ?_
      unfold partsS0
      rw [if_neg (by simp), if_neg (by simp), if_neg (by simp [ha])]

theorem Done.of {cs cs1 : List Cell} {b so : Nat} {is is1 : List Nat} {bk : Book} {d : D} {P : D → List Cell → Prop} (q : Done cs b so is bk d P) (E : Ev b so cs is cs1 is1) : Done cs1 b so is1 bk d P :=
  fun cs2 is2 B2 E2 => q cs2 is2 B2 (E.trans E2)

theorem in_parts_0 (H : Prg K) {n c : Nat} {cs : List Cell} {P : D → List Cell → Prop} {X : XP} {b so i : Nat} {is : List Nat} {xs : List Item} {h cn f : Bool} {k : PK} {v : Int} (B : BR cs b so (i :: is) ⟨.parts k v :: xs, h, cn, f⟩) (hl : xs.length + 1 ≤ 2 ^ 19)
    (q1 : ∀ l, (if v ≥ 0 then goesOn k v xs c else none) = some l → Done cs b so (i :: is) ⟨l, h, cn, f⟩ .none P)
    (q2 : (if v ≥ 0 then goesOn k v xs c else none) = none → ∀ cs1, BR cs1 b so (i :: is) ⟨.parts k (-1) :: xs, h, cn, f⟩ → Ev b so cs (i :: is) cs1 (i :: is) →
      wpS (K (n + 3)) b_law_in_parts_1 ⟨[some (.obj b), some (.str [c]), some (.obj so), some (.obj i), some (.str (encPK k)), some (.int v)], cs1⟩ (fun fl σ => P fl.val σ.cells) X) :
    K (n + 4) 242 [.obj b, .str [c]] cs P X := by
  have ht := B.top
  refine H.f242 rfl ?_
  unfold b_law_in_parts
  walk_at "wp"
  refine do_state B (.parts k (-1)) rfl fun cs1 B1 E1 => ?_
  show wpS (K (n + 3)) _ ⟨[some (.obj b), some (.str [c]), some (.obj so), some (.obj i), some (.str (encPK k)), some (.int v)], cs1⟩ _ X
  walk_at "wp"
  refine t_split (fun ha => ?_) (fun ha => ?_)
  · replace ha : v ≥ 0 := by first | exact eq_of_beq ha | exact ne_of_beq_false ha | exact ltN ha | exact nltN ha | exact leN ha | exact nleN ha | exact eN ha | exact neN ha | exact nb1 ha | exact nb2 ha | simpa using ha
    rw [if_pos ha] at q1 q2
    walk_at "wp"
    refine c_law_goes_on H B1 hl (fun l e cs2 is2 B2 E2 => ?_) fun e => ?_
    · walk_at "wp"
      exact q1 l e cs2 is2 B2 (E1.trans E2)
    · walk_at "wp"
      exact q2 e cs1 B1 E1
  · replace ha : ¬ v ≥ 0 := by first | exact eq_of_beq ha | exact ne_of_beq_false ha | exact ltN ha | exact nltN ha | exact leN ha | exact nleN ha | exact eN ha | exact neN ha | exact nb1 ha | exact nb2 ha | simpa using ha
    rw [if_neg ha] at q1 q2
    walk_at "wp"
    exact q2 rfl cs1 B1 E1

theorem c_in_parts_ns (H : Prg K) {n c cs P X} {b so i : Nat} {is : List Nat} {xs : List Item} {h cn f : Bool} {k : PK} {v : Int} (B : BR cs b so (i :: is) ⟨.parts k v :: xs, h, cn, f⟩) (hl : xs.length + 1 ≤ 2 ^ 19)
    (hw : k = .quote → ∃ s r, xs = .script s :: r) (hs : (if v ≥ 0 then goesOn k v xs c else none) = none → k = .bare → ¬ (isGap c = true ∨ c = 10 ∨ c = 59 ∨ (c = 93 ∧ xs.length > 1)))
    (q : Done cs b so (i :: is) ⟨(partsS k v xs c).1, h, cn, f⟩ .none P) : K (n + 4) 242 [.obj b, .str [c]] cs P X := by
  unfold partsS at q
  refine in_parts_0 H B hl (fun l e => ?_) fun e cs1 B1 E1 => ?_
  · rw [e] at q; exact q
  · rw [e] at q
    exact in_parts_1 H B1 hl hw (hs e) (q.of E1)

theorem gapList (c : Nat) : ([32, 9, 11, 12, 13] : List Nat).contains c = isGap c := by
  rw [Bool.eq_iff_iff]
  simp [isGap]
theorem lineList (c : Nat) : (([10, 59] : List Nat).contains c = true) ↔ c = 10 ∨ c = 59 := by simp

theorem c_in_script (H : Prg K) {n c cs P X} {b so i : Nat} {is : List Nat} {xs : List Item} {h cn f : Bool} {s : SS} (B : BR cs b so (i :: is) ⟨.script s :: xs, h, cn, f⟩) (hl : xs.length + 2 ≤ 2 ^ 19)
    (q : Done cs b so (i :: is) ⟨(scriptS s xs c).1, h, cn, f || (scriptS s xs c).2⟩ .none P) : K (n + 5) 228 [.obj b, .str [c]] cs P X := by
  have ht := B.top
  refine H.f228 rfl ?_
  unfold b_law_in_script
  walk_at "wp"
  dsimp only [stateD]
  walk_at "wp"
  unfold scriptS at q
  by_cases h0 : s = .comment
  · subst h0
    rw [if_pos rfl] at q
    refine t_pos rfl ?_
    walk_at "wp"
    refine t_split (fun ha => ?_) (fun ha => ?_)
    · replace ha : c = 10 := by first | exact eq_of_beq ha | exact ne_of_beq_false ha | exact ltN ha | exact nltN ha | exact leN ha | exact nleN ha | exact eN ha | exact neN ha | exact nb1 ha | exact nb2 ha | simpa using ha
      rw [if_pos ha] at q
      walk_at "wp"
      refine do_state B (.script .ahead) rfl fun cs1 B1 E1 => ?_
      walk_at "wp"
      simp only [Bool.or_false] at q
      exact q _ _ B1 E1
    · replace ha : c ≠ 10 := by first | exact eq_of_beq ha | exact ne_of_beq_false ha | exact ltN ha | exact nltN ha | exact leN ha | exact nleN ha | exact eN ha | exact neN ha | exact nb1 ha | exact nb2 ha | simpa using ha
      rw [if_neg ha] at q
      walk_at "wp"
      simp only [Bool.or_false] at q
      exact q _ _ B Ev.refl
  rw [if_neg h0] at q
  refine t_neg (enc_ne (s' := .comment) h0) ?_
  walk_at "wp"
  rw [gapList]
  refine t_split (fun hg => ?_) (fun hg => ?_)
  · rw [if_pos hg] at q
    walk_at "wp"
    refine t_split (fun ha => ?_) (fun ha => ?_)
    · have ha : s ≠ .ahead := by
        intro z; subst z; simp [encSS] at ha
      rw [if_neg ha] at q
      walk_at "wp"
      refine do_state B (.script .gap) rfl fun cs1 B1 E1 => ?_
      walk_at "wp"
      simp only [Bool.or_false] at q
      exact q _ _ B1 E1
    · have ha : s = .ahead := by
        apply Classical.byContradiction
        intro z
        have e : (encSS s == [97, 104, 101, 97, 100]) = false := enc_ne (s' := .ahead) z
        rw [e] at ha; cases ha
      rw [if_pos ha] at q
      walk_at "wp"
      simp only [Bool.or_false] at q
      exact q _ _ B Ev.refl
  rw [if_neg (by rw [hg]; decide)] at q
  walk_at "wp"
  refine t_split (fun hn => ?_) (fun hn => ?_)
  · have hn := (lineList c).mp hn
    rw [if_pos hn] at q
    walk_at "wp"
    refine do_state B (.script .ahead) rfl fun cs1 B1 E1 => ?_
    walk_at "wp"
    simp only [Bool.or_false] at q
    exact q _ _ B1 E1
  have hn : ¬ (c = 10 ∨ c = 59) := fun z => by rw [(lineList c).mpr z] at hn; cases hn
  rw [if_neg hn] at q
  -- the rest, behind the closing
  have rest : ¬ (c = 93 ∧ xs ≠ []) → wpS (K (n + 4)) (.ite (.and (.cmp .eq (.loc 3) (.cst (.str [97, 104, 101, 97, 100]))) (.cmp .eq (.loc 1) (.cst (.str [35])))) (.setSub (.loc 2) (.cst (.int 1)) (.cst (.str [99, 111, 109, 109, 101, 110, 116]))) (.ite (.cmp .eq (.loc 3) (.cst (.str [98, 101, 104, 105, 110, 100]))) (.setSub (.loc 0) (.cst (.str [105, 115, 95, 102, 97, 117, 108, 116])) (.cst (.bool true))) (.ite (.cmp .eq (.loc 1) (.cst (.str [34]))) (.expr (.call 221 (.cons (.loc 0) (.cons (.cst (.str [113, 117, 111, 116, 101])) (.cons (.cst (.int (-1))) (.cons (.cst (.bool false)) .nil)))))) (.ite (.cmp .eq (.loc 1) (.cst (.str [123]))) (.expr (.call 221 (.cons (.loc 0) (.cons (.cst (.str [98, 114, 97, 99, 101])) (.cons (.cst (.int 1)) (.cons (.cmp .eq (.loc 3) (.cst (.str [115, 116, 97, 114]))) .nil)))))) (.seq (.expr (.call 221 (.cons (.loc 0) (.cons (.cst (.str [98, 97, 114, 101])) (.cons (.cst (.int (-1))) (.cons (.cst (.bool false)) .nil))))))
  (.expr (.call 242 (.cons (.loc 0) (.cons (.loc 1) .nil)))))))))
      ⟨[some (.obj b), some (.str [c]), some (.obj i), some (.str (encSS s))], cs⟩ (fun fl σ => P fl.val σ.cells) X := fun h93 => by
    rw [if_neg h93] at q
    have rest2 : ¬ (s = .ahead ∧ c = 35) → wpS (K (n + 4)) (.ite (.cmp .eq (.loc 3) (.cst (.str [98, 101, 104, 105, 110, 100]))) (.setSub (.loc 0) (.cst (.str [105, 115, 95, 102, 97, 117, 108, 116])) (.cst (.bool true))) (.ite (.cmp .eq (.loc 1) (.cst (.str [34]))) (.expr (.call 221 (.cons (.loc 0) (.cons (.cst (.str [113, 117, 111, 116, 101])) (.cons (.cst (.int (-1))) (.cons (.cst (.bool false)) .nil)))))) (.ite (.cmp .eq (.loc 1) (.cst (.str [123]))) (.expr (.call 221 (.cons (.loc 0) (.cons (.cst (.str [98, 114, 97, 99, 101])) (.cons (.cst (.int 1)) (.cons (.cmp .eq (.loc 3) (.cst (.str [115, 116, 97, 114]))) .nil)))))) (.seq (.expr (.call 221 (.cons (.loc 0) (.cons (.cst (.str [98, 97, 114, 101])) (.cons (.cst (.int (-1))) (.cons (.cst (.bool false)) .nil))))))
  (.expr (.call 242 (.cons (.loc 0) (.cons (.loc 1) .nil))))))))
      ⟨[some (.obj b), some (.str [c]), some (.obj i), some (.str (encSS s))], cs⟩ (fun fl σ => P fl.val σ.cells) X := fun h35 => by
      rw [if_neg h35] at q
      walk_at "wp"
      by_cases hb : s = .behind
      · subst hb
        rw [if_pos rfl] at q
        refine t_pos rfl ?_
        walk_at "wp"
        refine do_fault B fun cs1 B1 E1 => ?_
        walk_at "wp"
        simp only [Bool.or_true] at q
        exact q _ _ B1 E1
      rw [if_neg hb] at q
      refine t_neg (enc_ne (s' := .behind) hb) ?_
      walk_at "wp"
      refine t_split (fun ha => ?_) (fun ha => ?_)
      · replace ha : c = 34 := by first | exact eq_of_beq ha | exact ne_of_beq_false ha | exact ltN ha | exact nltN ha | exact leN ha | exact nleN ha | exact eN ha | exact neN ha | exact nb1 ha | exact nb2 ha | simpa using ha
        rw [if_pos ha] at q
        walk_at "wp"
        refine c_law_open H B (by simp only [List.length_cons]; walk_at "om") (.parts .quote (-1)) rfl fun cs1 is1 B1 E1 => ?_
        walk_at "wp"
        simp only [Bool.or_false] at q
        exact q _ _ B1 E1
      replace ha : c ≠ 34 := by first | exact eq_of_beq ha | exact ne_of_beq_false ha | exact ltN ha | exact nltN ha | exact leN ha | exact nleN ha | exact eN ha | exact neN ha | exact nb1 ha | exact nb2 ha | simpa using ha
      rw [if_neg ha] at q
      walk_at "wp"
      refine t_split (fun hd => ?_) (fun hd => ?_)
      · replace hd : c = 123 := by first | exact eq_of_beq hd | exact ne_of_beq_false hd | exact ltN hd | exact nltN hd | exact leN hd | exact nleN hd | exact eN hd | exact neN hd | exact nb1 hd | exact nb2 hd | simpa using hd
        rw [if_pos hd] at q
        walk_at "wp"
        refine c_law_open H B (by simp only [List.length_cons]; walk_at "om") (.brace 1 [] (s = .star)) ?_ fun cs1 is1 B1 E1 => ?_
        · rw [show (encSS s == [115, 116, 97, 114]) = decide (s = .star) from enc_eq s .star]; rfl
        walk_at "wp"
        simp only [Bool.or_false] at q
        exact q _ _ B1 E1
      replace hd : c ≠ 123 := by first | exact eq_of_beq hd | exact ne_of_beq_false hd | exact ltN hd | exact nltN hd | exact leN hd | exact nleN hd | exact eN hd | exact neN hd | exact nb1 hd | exact nb2 hd | simpa using hd
      rw [if_neg hd] at q
      walk_at "wp"
      refine c_law_open H B (by simp only [List.length_cons]; walk_at "om") (.parts .bare (-1)) rfl fun cs1 is1 B1 E1 => ?_
      walk_at "wp"
      cases is1 with
      | nil => exact B1.it.elim
      | cons j is1 =>
        have hst : ¬ (isGap c = true ∨ c = 10 ∨ c = 59 ∨ (c = 93 ∧ (Item.script s :: xs).length > 1)) := by
          intro z
          rcases z with z | z | z | z
          · rw [hg] at z; cases z
          · exact hn (.inl z)
          · exact hn (.inr z)
          · exact h93 ⟨z.1, fun w => by rw [w] at z; simp at z⟩
        have e : partsS .bare (-1) (.script s :: xs) c = (plainParts .bare (.script s :: xs) c, false) := by
          unfold partsS
          rw [if_neg (by decide)]
          unfold partsS0
          rw [if_neg (fun z => hst z.2), if_neg (by simp), if_neg (by simp)]
        refine c_in_parts_ns H B1 (by simp only [List.length_cons]; walk_at "om") (fun z => by cases z) (fun _ _ => hst) ?_
        rw [e]
        intro cs2 is2 B2 E2
        walk_at "wp"
        simp only [Bool.or_false] at q
        exact q _ _ B2 (E1.trans E2)
    walk_at "wp"
    refine t_split (fun ha => ?_) (fun ha => ?_)
    · have ha : s = .ahead := by
        apply Classical.byContradiction
        intro z
        have e : (encSS s == [97, 104, 101, 97, 100]) = false := enc_ne (s' := .ahead) z
        rw [e] at ha; cases ha
      walk_at "wp"
      refine t_split (fun hb => ?_) (fun hb => ?_)
      · replace hb : c = 35 := by first | exact eq_of_beq hb | exact ne_of_beq_false hb | exact ltN hb | exact nltN hb | exact leN hb | exact nleN hb | exact eN hb | exact neN hb | exact nb1 hb | exact nb2 hb | simpa using hb
        rw [if_pos ⟨ha, hb⟩] at q
        walk_at "wp"
        refine do_state B (.script .comment) rfl fun cs1 B1 E1 => ?_
        walk_at "wp"
        simp only [Bool.or_false] at q
        exact q _ _ B1 E1
      · replace hb : c ≠ 35 := by first | exact eq_of_beq hb | exact ne_of_beq_false hb | exact ltN hb | exact nltN hb | exact leN hb | exact nleN hb | exact eN hb | exact neN hb | exact nb1 hb | exact nb2 hb | simpa using hb
        exact rest2 fun z => hb z.2
    · refine v_bool (t_F ?_)
      exact rest2 fun z => by rw [z.1] at ha; simp [encSS] at ha
  walk_at "wp"
  refine t_split (fun ha => ?_) (fun ha => ?_)
  · replace ha : c = 93 := by first | exact eq_of_beq ha | exact ne_of_beq_false ha | exact ltN ha | exact nltN ha | exact leN ha | exact nleN ha | exact eN ha | exact neN ha | exact nb1 ha | exact nb2 ha | simpa using ha
    walk_at "wp"
    refine ln_stack B (by simp only [List.length_cons]; walk_at "om") ?_
    walk_at "wp"
    refine t_split (fun hb => ?_) (fun hb => ?_)
    · have hb : xs ≠ [] := by
        intro z; subst z; simp at hb
      rw [if_pos ⟨ha, hb⟩] at q
      walk_at "wp"
      refine do_pop (R := fun _ cs1 => P _ cs1) B (by walk_at "om") fun cs1 B1 E1 _ => ?_
      walk_at "wp"
      simp only [Bool.or_false] at q
      exact q _ _ B1 E1
    · refine rest fun z => ?_
      have := List.length_pos_iff.mpr z.2
      simp at hb
      walk_at "om"
  · replace ha : c ≠ 93 := by first | exact eq_of_beq ha | exact ne_of_beq_false ha | exact ltN ha | exact nltN ha | exact leN ha | exact nleN ha | exact eN ha | exact neN ha | exact nb1 ha | exact nb2 ha | simpa using ha
    refine v_bool (t_F ?_)
    exact rest fun z => ha z.1
end
section
variable {K : Nat → Call}


theorem stopList (c : Nat) : ([32, 9, 11, 12, 13, 10, 59] : List Nat).contains c = true ↔ (isGap c = true ∨ c = 10 ∨ c = 59) := by
  simp only [isGap, List.contains_cons, List.contains_nil, Bool.or_eq_true, beq_iff_eq, Bool.or_false]
  walk_at "om"

theorem c_in_parts (H : Prg K) {n c cs P X} {b so i : Nat} {is : List Nat} {xs : List Item} {h cn f : Bool} {k : PK} {v : Int} (B : BR cs b so (i :: is) ⟨.parts k v :: xs, h, cn, f⟩) (hl : xs.length + 1 ≤ 2 ^ 19)
    (hw : k = .quote ∨ k = .bare → ∃ s r, xs = .script s :: r)
    (q : Done cs b so (i :: is) ⟨(partsS k v xs c).1, h, cn, f || (partsS k v xs c).2⟩ .none P) : K (n + 7) 242 [.obj b, .str [c]] cs P X := by
  unfold partsS at q
  refine in_parts_0 H B hl (fun l e => ?_) fun e cs1 B1 E1 => ?_
  · rw [e] at q; simpa using q
  rw [e] at q
  have q := q.of E1
  by_cases hs : k = .bare ∧ (isGap c = true ∨ c = 10 ∨ c = 59 ∨ (c = 93 ∧ xs.length > 1))
  · obtain ⟨rfl, hs⟩ := hs
    obtain ⟨s, r, rfl⟩ := hw (.inr rfl)
    have e2 : partsS0 .bare (.script s :: r) c = scriptS .gap r c := by unfold partsS0; rw [if_pos ⟨rfl, hs⟩]
    rw [e2] at q
    unfold b_law_in_parts_1
    have go : wpS (K (n + 6)) (.seq (.expr (.pop (.loc 2))) (.seq (.setSub (.sub (.loc 2) (.cst (.int (-1)))) (.cst (.int 1)) (.cst (.str [103, 97, 112]))) (.expr (.call 228 (.cons (.loc 0) (.cons (.loc 1) .nil))))))
        ⟨[some (.obj b), some (.str [c]), some (.obj so), some (.obj i), some (.str (encPK .bare)), some (.int v)], cs1⟩ (fun fl σ => P fl.val σ.cells) X := by
      walk_at "wp"
      refine do_pop (R := fun _ cs1 => wpS (K (n + 6)) _ ⟨_, cs1⟩ _ X) B1 (by walk_at "om") fun cs2 B2 E2 _ => ?_
      cases is with
      | nil => exact B2.it.elim
      | cons j is =>
        walk_at "wp"
        refine do_state B2 (.script .gap) rfl fun cs3 B3 E3 => ?_
        walk_at "wp"
        refine c_in_script H B3 (by simp only [List.length_cons] at hl; walk_at "om") fun cs4 is4 B4 E4 => ?_
        walk_at "wp"
        exact q _ _ B4 ((E2.trans E3).trans E4)
    walk_at "wp"
    refine t_pos rfl ?_
    walk_at "wp"
    refine t_split (fun ha => ?_) (fun ha => ?_)
    · refine v_bool (t_T ?_)
      exact go
    · have ha : ¬ (isGap c = true ∨ c = 10 ∨ c = 59) := fun z => by rw [(stopList c).mpr z] at ha; cases ha
      have h93 : c = 93 ∧ (Item.script s :: r).length > 1 := by
        rcases hs with z | z | z | z
        · exact absurd (.inl z) ha
        · exact absurd (.inr (.inl z)) ha
        · exact absurd (.inr (.inr z)) ha
        · exact z
      walk_at "wp"
      refine t_pos (by simp [h93.1]) ?_
      walk_at "wp"
      refine ln_stack B1 (by simp only [List.length_cons] at hl ⊢; walk_at "om") ?_
      walk_at "wp"
      refine t_pos (by have := h93.2; simp only [List.length_cons] at this ⊢; simp; walk_at "om") ?_
      exact go
  · have hs2 : k = .bare → ¬ (isGap c = true ∨ c = 10 ∨ c = 59 ∨ (c = 93 ∧ xs.length > 1)) := fun z w => hs ⟨z, w⟩
    refine in_parts_1 H B1 hl (fun z => hw (.inl z)) hs2 ?_
    have e2 : (partsS0 k xs c).2 = false := by
      unfold partsS0
      rw [if_neg (fun z => hs z)]
      split
      · rfl
      · split <;> rfl
    rw [e2] at q
    simpa using q

theorem braces_tail {n c : Nat} {cs cs1 : List Cell} {P : D → List Cell → Prop} {X : XP} {b so i : Nat} {is : List Nat} {s : SS} {r : List Item} {h cn f : Bool} {d : Int} {x : List Nat} {e : Bool}
    (B1 : BR cs1 b so (i :: is) ⟨.brace d x e :: .script s :: r, h, cn, f⟩) (E1 : Ev b so cs (i :: is) cs1 (i :: is)) (hl : r.length + 2 ≤ 2 ^ 19) (hx : x.length ≤ 2 ^ 20)
    (q : Done cs b so (i :: is) ⟨if d = 0 then setTop (if x = [42] ∧ e = false then .star else .behind) (.script s :: r) else .brace d (x ++ [c]) e :: .script s :: r, h, cn, f⟩ .none P) :
      wpS (K n) (.seq (.ite (.cmp .eq (.sub (.loc 2) (.cst (.int 1))) (.cst (.int 0))) (.seq (.expr (.pop (.sub (.loc 0) (.cst (.str [115, 116, 97, 99, 107])))))
  (.setSub (.sub (.sub (.loc 0) (.cst (.str [115, 116, 97, 99, 107]))) (.cst (.int (-1)))) (.cst (.int 1)) (.ite (.and (.cmp .eq (.sub (.loc 2) (.cst (.int 2))) (.cst (.str [42]))) (.not (.sub (.loc 2) (.cst (.int 3))))) (.cst (.str [115, 116, 97, 114])) (.cst (.str [98, 101, 104, 105, 110, 100]))))) .skip) b_law_in_braces_1)
        ⟨[some (.obj b), some (.str [c]), some (.obj i)], cs1⟩ (fun fl σ => P fl.val σ.cells) X := by
  have ht1 := B1.top
  walk_at "wp"
  dsimp only [stateD]
  walk_at "wp"
  refine t_split (fun ha => ?_) (fun ha => ?_)
  · replace ha : d = 0 := by first | exact eq_of_beq ha | exact ne_of_beq_false ha | exact ltN ha | exact nltN ha | exact leN ha | exact nleN ha | exact eN ha | exact neN ha | exact nb1 ha | exact nb2 ha | simpa using ha
    rw [if_pos ha] at q
    walk_at "wp"
    refine do_pop (R := fun _ cs1 => wpS (K n) _ ⟨_, cs1⟩ _ X) B1 (by simp only [List.length_cons]; walk_at "om") fun cs2 B2 E2 k2 => ?_
    have hi : cs2[i]? = some (.lst (encItem (.brace d x e))) := by
      rw [k2 i fun z => B1.snot (by rw [← z]; exact .head _)]; exact ht1
    cases is with
    | nil => exact B2.it.elim
    | cons j is =>
      have hji : j ≠ i := fun z => by
        have := (List.nodup_cons.mp B1.nd).1
        exact this (by rw [← z]; exact .head _)
      have fin : ∀ s' : SS, (if x = [42] ∧ e = false then SS.star else .behind) = s' → ∃ c', setD cs2 (.obj j) (.int 1) (.str (encSS s')) = some c' ∧ wpS (K n) b_law_in_braces_1 ⟨[some (.obj b), some (.str [c]), some (.obj i)], c'⟩ (fun fl σ => P fl.val σ.cells) X := fun s' hs' => by
        obtain ⟨B3, E3⟩ := B2.setTop (.script s')
        have hi3 : (cs2.set j (.lst (encItem (.script s'))))[i]? = some (.lst (encItem (.brace d x e))) := by rw [List.getElem?_set_ne hji]; exact hi
        refine st_state B2.top ?_
        show wpS (K n) b_law_in_braces_1 ⟨_, cs2.set j (.lst (encItem (.script s')))⟩ _ X
        generalize cs2.set j (.lst (encItem (.script s'))) = cs3 at B3 E3 hi3
        unfold b_law_in_braces_1
        walk_at "wp"
        dsimp only [textL]
        refine v_cat (by simp; walk_at "om") ?_
        walk_at "wp"
        refine st_text hi3 ?_
        walk_at "wp"
        rw [hs'] at q
        have hib : i ≠ b := fun z => B1.bnot (by rw [← z]; exact .head _)
        have his : i ≠ so := fun z => B1.snot (by rw [← z]; exact .head _)
        have hin : i ∉ j :: is := (List.nodup_cons.mp B1.nd).1
        have E13 := E1.trans (E2.trans E3)
        refine q _ (j :: is) ⟨?_, ?_, ?_, B3.nd⟩ ⟨by have := E13.len; simpa using this, fun z z1 z2 => ?_, E13.new⟩
        · rw [List.getElem?_set_ne hib]; exact B3.d
        · rw [List.getElem?_set_ne his]; exact B3.s
        · exact B3.it.mono fun z m => List.getElem?_set_ne fun w => hin (by rw [w]; exact m)
        · rw [List.getElem?_set_ne fun w => z2 (by rw [← w]; exact .tail _ (.tail _ (.head _)))]
          exact E13.keep z z1 z2
      walk_at "wp"
      dsimp only [textL, flagB]
      walk_at "wp"
      refine t_split (fun hb => ?_) (fun hb => ?_)
      · replace hb : x = [42] := by first | exact eq_of_beq hb | exact ne_of_beq_false hb | exact ltN hb | exact nltN hb | exact leN hb | exact nleN hb | exact eN hb | exact neN hb | exact nb1 hb | exact nb2 hb | simpa using hb
        walk_at "wp"
        dsimp only [textL, flagB]
        walk_at "wp"
        cases e with
        | false =>
          refine t_T ?_
          walk_at "wp"
          exact fin .star (by rw [if_pos ⟨hb, rfl⟩])
        | true =>
          refine t_F ?_
          walk_at "wp"
          exact fin .behind (by rw [if_neg (by simp)])
      · replace hb : x ≠ [42] := by first | exact eq_of_beq hb | exact ne_of_beq_false hb | exact ltN hb | exact nltN hb | exact leN hb | exact nleN hb | exact eN hb | exact neN hb | exact nb1 hb | exact nb2 hb | simpa using hb
        walk_at "wp"
        exact fin .behind (by rw [if_neg (by simp [hb])])
  · replace ha : d ≠ 0 := by first | exact eq_of_beq ha | exact ne_of_beq_false ha | exact ltN ha | exact nltN ha | exact leN ha | exact nleN ha | exact eN ha | exact neN ha | exact nb1 ha | exact nb2 ha | simpa using ha
    rw [if_neg ha] at q
    walk_at "wp"
    unfold b_law_in_braces_1
    walk_at "wp"
    dsimp only [textL]
    refine v_cat (by simp; walk_at "om") ?_
    walk_at "wp"
    refine do_text B1 (.brace d (x ++ [c]) e) rfl fun cs2 B2 E2 => ?_
    walk_at "wp"
    exact q _ _ B2 (E1.trans E2)

theorem c_in_braces (H : Prg K) {n c cs P X} {b so i : Nat} {is : List Nat} {s : SS} {r : List Item} {h cn f : Bool} {d : Int} {x : List Nat} {e : Bool} (B : BR cs b so (i :: is) ⟨.brace d x e :: .script s :: r, h, cn, f⟩) (hl : r.length + 2 ≤ 2 ^ 19) (hx : x.length ≤ 2 ^ 20)
    (q : Done cs b so (i :: is) ⟨braceS d x e (.script s :: r) c, h, cn, f⟩ .none P) : K (n + 1) 249 [.obj b, .str [c]] cs P X := by
  have ht := B.top
  refine H.f249 rfl ?_
  unfold b_law_in_braces
  have step : ∀ k : Int, k = (if c = 123 then 1 else if c = 125 then -1 else 0) → ∀ {R : List Cell → Prop}, (∀ cs1, BR cs1 b so (i :: is) ⟨.brace (d + k) x e :: .script s :: r, h, cn, f⟩ → Ev b so cs (i :: is) cs1 (i :: is) → R cs1) →
      ∃ d1 c', binD .add (.int d) (.int k) = some d1 ∧ sizeOk d1 ∧ setD cs (.obj i) (.int 1) d1 = some c' ∧ R c' := fun k hk R hR => by
    obtain ⟨c', h1, h2⟩ := do_state B (.brace (d + k) x e) rfl hR
    exact ⟨_, c', rfl, trivial, h1, h2⟩
  have tail : ∀ k : Int, k = (if c = 123 then 1 else if c = 125 then -1 else 0) → ∀ cs1, BR cs1 b so (i :: is) ⟨.brace (d + k) x e :: .script s :: r, h, cn, f⟩ → Ev b so cs (i :: is) cs1 (i :: is) → _ := fun k hk cs1 B1 E1 =>
    braces_tail (K := K) (n := n) (X := X) (P := P) (c := c) B1 E1 hl hx (by unfold braceS at q; rw [← hk] at q; exact q)
  walk_at "wp"
  dsimp only [stateD]
  walk_at "wp"
  refine t_split (fun ha => ?_) (fun ha => ?_)
  · replace ha : c = 123 := by first | exact eq_of_beq ha | exact ne_of_beq_false ha | exact ltN ha | exact nltN ha | exact leN ha | exact nleN ha | exact eN ha | exact neN ha | exact nb1 ha | exact nb2 ha | simpa using ha
    walk_at "wp"
    exact step 1 (by rw [if_pos ha]) (tail 1 (by rw [if_pos ha]))
  · replace ha : c ≠ 123 := by first | exact eq_of_beq ha | exact ne_of_beq_false ha | exact ltN ha | exact nltN ha | exact leN ha | exact nleN ha | exact eN ha | exact neN ha | exact nb1 ha | exact nb2 ha | simpa using ha
    walk_at "wp"
    refine t_split (fun hb => ?_) (fun hb => ?_)
    · replace hb : c = 125 := by first | exact eq_of_beq hb | exact ne_of_beq_false hb | exact ltN hb | exact nltN hb | exact leN hb | exact nleN hb | exact eN hb | exact neN hb | exact nb1 hb | exact nb2 hb | simpa using hb
      walk_at "wp"
      exact step (-1) (by rw [if_neg ha, if_pos hb]) (tail (-1) (by rw [if_neg ha, if_pos hb]))
    · replace hb : c ≠ 125 := by first | exact eq_of_beq hb | exact ne_of_beq_false hb | exact ltN hb | exact nltN hb | exact leN hb | exact nleN hb | exact eN hb | exact neN hb | exact nb1 hb | exact nb2 hb | simpa using hb
      walk_at "wp"
      exact step 0 (by rw [if_neg ha, if_neg hb]) (tail 0 (by rw [if_neg ha, if_neg hb]))
end
section
variable {K : Nat → Call}


noncomputable def belowOk : List Item → Prop
  | .parts .bare _ :: r => ∃ s r', r = .script s :: r'
  | .parts .quote _ :: r => ∃ s r', r = .script s :: r'
  | .brace _ _ _ :: r => ∃ s r', r = .script s :: r'
  | _ => True

theorem kind_eq_script (x : Item) : (kindL x == [115, 99, 114, 105, 112, 116]) = (match x with | .script _ => true | _ => false) := by
  cases x with
  | parts k v => cases k <;> rfl
  | _ => rfl
theorem kind_eq_bare (x : Item) : (kindL x == [98, 97, 114, 101]) = (match x with | .parts .bare _ => true | _ => false) := by
  cases x with
  | parts k v => cases k <;> rfl
  | _ => rfl
theorem kind_eq_name (x : Item) : (kindL x == [110, 97, 109, 101]) = (match x with | .name => true | _ => false) := by
  cases x with
  | parts k v => cases k <;> rfl
  | _ => rfl
theorem kind_eq_brace (x : Item) : (kindL x == [98, 114, 97, 99, 101]) = (match x with | .brace _ _ _ => true | _ => false) := by
  cases x with
  | parts k v => cases k <;> rfl
  | _ => rfl

theorem c_bent (H : Prg K) {n c cs P X} {b so i : Nat} {is : List Nat} {x : Item} {xs : List Item} {h cn f : Bool} (B : BR cs b so (i :: is) ⟨x :: xs, h, cn, f⟩) (hl : xs.length + 2 ≤ 2 ^ 19) (hw : belowOk (x :: xs))
    (q : Done cs b so (i :: is) ⟨(bentS (x :: xs) c).1, h, cn, f || (bentS (x :: xs) c).2⟩ .none P) : K (n + 2) 256 [.obj b, .str [c]] cs P X := by
  have ht := B.top
  refine H.f256 rfl ?_
  unfold b_law_bent
  walk_at "wp"
  rw [kind_eq_script]
  -- the second half, where it is no script to be bent
  have other : (∀ v, x = .parts .bare v → c = 10 → Done cs b so (i :: is) ⟨setTop .gap xs, h, cn, f⟩ .none P) → ((∀ v, x = .parts .bare v → c ≠ 10) → Done cs b so (i :: is) ⟨x :: xs, h, cn, f⟩ .none P) →
      wpS (K (n + 1)) (.ite (.and (.cmp .eq (.sub (.loc 2) (.cst (.int 0))) (.cst (.str [98, 97, 114, 101]))) (.cmp .eq (.loc 1) (.cst (.str [10])))) (.seq (.expr (.pop (.sub (.loc 0) (.cst (.str [115, 116, 97, 99, 107])))))
  (.setSub (.sub (.sub (.loc 0) (.cst (.str [115, 116, 97, 99, 107]))) (.cst (.int (-1)))) (.cst (.int 1)) (.cst (.str [103, 97, 112])))) .skip)
      ⟨[some (.obj b), some (.str [c]), some (.obj i)], cs⟩ (fun fl σ => P fl.val σ.cells) X := fun o1 o2 => by
    walk_at "wp"
    rw [kind_eq_bare]
    cases x with
    | parts k v =>
      cases k with
      | bare =>
        obtain ⟨s, r, rfl⟩ := hw
        refine t_T ?_
        walk_at "wp"
        refine t_split (fun ha => ?_) (fun ha => ?_)
        · replace ha : c = 10 := by first | exact eq_of_beq ha | exact ne_of_beq_false ha | exact ltN ha | exact nltN ha | exact leN ha | exact nleN ha | exact eN ha | exact neN ha | exact nb1 ha | exact nb2 ha | simpa using ha
          walk_at "wp"
          refine do_pop (R := fun _ cs1 => wpS (K (n + 1)) _ ⟨_, cs1⟩ _ X) B (by walk_at "om") fun cs2 B2 E2 _ => ?_
          cases is with
          | nil => exact B2.it.elim
          | cons j is =>
            walk_at "wp"
            refine do_state B2 (.script .gap) rfl fun cs3 B3 E3 => ?_
            walk_at "wp"
            exact o1 v rfl ha _ _ B3 (E2.trans E3)
        · replace ha : c ≠ 10 := by first | exact eq_of_beq ha | exact ne_of_beq_false ha | exact ltN ha | exact nltN ha | exact leN ha | exact nleN ha | exact eN ha | exact neN ha | exact nb1 ha | exact nb2 ha | simpa using ha
          walk_at "wp"
          exact o2 (fun _ _ => ha) _ _ B Ev.refl
      | quote =>
        refine t_F (v_bool (t_F ?_))
        walk_at "wp"
        exact o2 (fun _ z => by cases z) _ _ B Ev.refl
      | index =>
        refine t_F (v_bool (t_F ?_))
        walk_at "wp"
        exact o2 (fun _ z => by cases z) _ _ B Ev.refl
    | script s =>
      refine t_F (v_bool (t_F ?_))
      walk_at "wp"
      exact o2 (fun _ z => by cases z) _ _ B Ev.refl
    | name =>
      refine t_F (v_bool (t_F ?_))
      walk_at "wp"
      exact o2 (fun _ z => by cases z) _ _ B Ev.refl
    | brace d y e =>
      refine t_F (v_bool (t_F ?_))
      walk_at "wp"
      exact o2 (fun _ z => by cases z) _ _ B Ev.refl
  cases x with
  | script s =>
    refine t_T ?_
    walk_at "wp"
    dsimp only [stateD]
    walk_at "wp"
    unfold bentS at q
    dsimp only at q
    by_cases h0 : s = .comment
    · subst h0
      rw [if_pos rfl] at q
      refine t_neg rfl ?_
      refine other (fun _ z => by cases z) fun _ => ?_
      simpa using q
    rw [if_neg h0] at q
    refine t_pos (by rw [show (encSS s == [99, 111, 109, 109, 101, 110, 116]) = false from enc_ne (s' := .comment) h0]; rfl) ?_
    walk_at "wp"
    refine t_split (fun ha => ?_) (fun ha => ?_)
    · replace ha : c = 10 := by first | exact eq_of_beq ha | exact ne_of_beq_false ha | exact ltN ha | exact nltN ha | exact leN ha | exact nleN ha | exact eN ha | exact neN ha | exact nb1 ha | exact nb2 ha | simpa using ha
      rw [if_pos ha] at q
      simp only [Bool.or_false] at q
      walk_at "wp"
      dsimp only [stateD]
      walk_at "wp"
      by_cases hs : s = .ahead
      · subst hs
        refine t_pos rfl ?_
        walk_at "wp"
        refine do_state B (.script .ahead) rfl fun cs1 B1 E1 => ?_
        walk_at "wp"
        exact q _ _ B1 E1
      · rw [if_neg hs] at q
        refine t_neg (enc_ne (s' := .ahead) hs) ?_
        walk_at "wp"
        refine do_state B (.script .gap) rfl fun cs1 B1 E1 => ?_
        walk_at "wp"
        exact q _ _ B1 E1
    · replace ha : c ≠ 10 := by first | exact eq_of_beq ha | exact ne_of_beq_false ha | exact ltN ha | exact nltN ha | exact leN ha | exact nleN ha | exact eN ha | exact neN ha | exact nb1 ha | exact nb2 ha | simpa using ha
      rw [if_neg ha] at q
      walk_at "wp"
      dsimp only [stateD]
      walk_at "wp"
      by_cases hs : s = .behind
      · subst hs
        rw [if_pos rfl] at q
        refine t_pos rfl ?_
        walk_at "wp"
        refine do_fault B fun cs1 B1 E1 => ?_
        walk_at "wp"
        simp only [Bool.or_true] at q
        exact q _ _ B1 E1
      · rw [if_neg hs] at q
        simp only [Bool.or_false] at q
        refine t_neg (enc_ne (s' := .behind) hs) ?_
        walk_at "wp"
        refine c_law_open H B (by simp only [List.length_cons]; walk_at "om") (.parts .bare (-1)) rfl fun cs1 is1 B1 E1 => ?_
        walk_at "wp"
        exact q _ _ B1 E1
  | parts k v =>
    refine t_F (v_bool (t_F ?_))
    refine other (fun v' z hc => ?_) fun z => ?_
    · cases z
      simpa [bentS, hc] using q
    · cases k with
      | bare => simpa [bentS, z v rfl] using q
      | quote => simpa [bentS] using q
      | index => simpa [bentS] using q
  | name =>
    refine t_F (v_bool (t_F ?_))
    refine other (fun _ z => by cases z) fun _ => ?_
    simpa [bentS] using q
  | brace d y e =>
    refine t_F (v_bool (t_F ?_))
    refine other (fun _ z => by cases z) fun _ => ?_
    simpa [bentS] using q
end
section
variable {K : Nat → Call}


theorem take_fin_no {n c : Nat} {cs : List Cell} {P : D → List Cell → Prop} {X : XP} {b so : Nat} {is : List Nat} {xs : List Item} {h hh cn f : Bool} {kd : List Nat} (B : BR cs b so is ⟨xs, hh, cn, f⟩) (hk : (kd == [98, 114, 97, 99, 101]) = false ∨ (h = false ∧ hh = false)) (q : P .none cs) :
    wpS (K n) b_law_take_1 ⟨[some (.obj b), some (.str [c]), some (.str kd), some (.bool h)], cs⟩ (fun fl σ => P fl.val σ.cells) X := by
  unfold b_law_take_1
  walk_at "wp"
  refine t_split (fun ha => ?_) (fun ha => ?_)
  · obtain ⟨rfl, rfl⟩ := hk.resolve_left (by rw [ha]; decide)
    walk_at "wp"
    exact q
  · walk_at "wp"
    exact q
theorem take_fin_brace {n c : Nat} {cs : List Cell} {P : D → List Cell → Prop} {X : XP} {b so i : Nat} {is : List Nat} {xs : List Item} {h hh cn f : Bool} {d : Int} {x : List Nat} {e : Bool} (B : BR cs b so (i :: is) ⟨.brace d x e :: xs, hh, cn, f⟩) (hk : h = true ∨ hh = true) (q : Done cs b so (i :: is) ⟨.brace d noStar e :: xs, hh, cn, f⟩ .none P) :
    wpS (K n) b_law_take_1 ⟨[some (.obj b), some (.str [c]), some (.str [98, 114, 97, 99, 101]), some (.bool h)], cs⟩ (fun fl σ => P fl.val σ.cells) X := by
  unfold b_law_take_1
  walk_at "wp"
  refine t_pos rfl ?_
  have go : ∃ c', setD cs (.obj i) (.int 2) (.str [110, 111, 32, 115, 116, 97, 114]) = some c' ∧ P Fl.next.val c' := do_text B (.brace d noStar e) rfl fun cs1 B1 E1 => q _ _ B1 E1
  walk_at "wp"
  cases h with
  | true =>
    refine t_T ?_
    walk_at "wp"
    exact go
  | false =>
    obtain rfl := hk.resolve_left (by decide)
    refine t_F ?_
    walk_at "wp"
    exact go

noncomputable def topIs (k : Item → Prop) : List Item → Prop
  | x :: _ => k x
  | [] => False

noncomputable def i_tk_in : S := .ite (.cmp .eq (.loc 2) (.cst (.str [115, 99, 114, 105, 112, 116]))) (.expr (.call 228 (.cons (.loc 0) (.cons (.loc 1) .nil)))) (.ite (.cmp .eq (.loc 2) (.cst (.str [98, 114, 97, 99, 101]))) (.expr (.call 249 (.cons (.loc 0) (.cons (.loc 1) .nil)))) (.expr (.call 242 (.cons (.loc 0) (.cons (.loc 1) .nil)))))
noncomputable def i_tk_back : S := .seq (.setSub (.loc 0) (.cst (.str [105, 115, 95, 104, 101, 108, 100])) (.cst (.bool true)))
  (.ite (.cmp .inn (.loc 2) (.tup (.cons (.cst (.str [98, 97, 114, 101])) (.cons (.cst (.str [113, 117, 111, 116, 101])) (.cons (.cst (.str [105, 110, 100, 101, 120])) .nil))))) (.setSub (.sub (.sub (.loc 0) (.cst (.str [115, 116, 97, 99, 107]))) (.cst (.int (-1)))) (.cst (.int 1)) (.cst (.int (-1)))) .skip)
noncomputable def i_tk_name : S := .ite (.cmp .eq (.loc 1) (.cst (.str [125]))) (.expr (.pop (.sub (.loc 0) (.cst (.str [115, 116, 97, 99, 107]))))) .skip
noncomputable def i_tk_bent : S := .expr (.call 256 (.cons (.loc 0) (.cons (.loc 1) .nil)))
noncomputable def i_tk : S := .seq (.ite (.cmp .eq (.loc 2) (.cst (.str [110, 97, 109, 101]))) i_tk_name (.ite (.loc 3) i_tk_bent (.ite (.cmp .eq (.loc 1) (.cst (.str [92]))) i_tk_back i_tk_in))) b_law_take_1
noncomputable abbrev stT (b c : Nat) (x : Item) (h : Bool) (cs : List Cell) : St := ⟨[some (.obj b), some (.str [c]), some (.str (kindL x)), some (.bool h)], cs⟩
noncomputable abbrev tkZ (K : Call) (P : D → List Cell → Prop) (X : XP) : Fl → St → Prop := seqP K b_law_take_1 (fun fl σ => P fl.val σ.cells) X

section
variable {n c b so i : Nat} {cs : List Cell} {P : D → List Cell → Prop} {X : XP} {is : List Nat} {x : Item} {xs : List Item} {f : Bool}
theorem tk_name {h cn : Bool} (B : BR cs b so (i :: is) ⟨.name :: xs, false, cn, f⟩) (hl : xs.length ≤ 2 ^ 19) (q : Done cs b so (i :: is) ⟨if c = 125 then xs else .name :: xs, false, cn, f⟩ .none P) : wpS (K n) i_tk_name (stT b c .name h cs) (tkZ (K n) P X) X := by
  unfold i_tk_name
  walk_at "wp"
  refine t_split (fun ha => ?_) (fun ha => ?_)
  · rw [if_pos (eq_of_beq ha)] at q
    walk_at "wp"
    refine do_pop (R := fun _ cs1 => wpS (K n) _ ⟨_, cs1⟩ _ X) B hl fun cs2 B2 E2 _ => ?_
    walk_at "wp"
    exact take_fin_no B2 (.inl rfl) (q _ _ B2 E2)
  · rw [if_neg (ne_of_beq_false ha)] at q
    walk_at "wp"
    exact take_fin_no B (.inl rfl) (q _ _ B Ev.refl)
theorem mark_bent (hn : x ≠ .name) (hb : ∀ d y e, x ≠ .brace d y e) (hw : belowOk (x :: xs)) : markBrace (bentS (x :: xs) c).1 = (bentS (x :: xs) c).1 := by
  cases x with
  | brace d y e => exact absurd rfl (hb d y e)
  | script s =>
    unfold bentS
    dsimp only
    split
    · rfl
    · split
      · rfl
      · split <;> rfl
  | name => exact absurd rfl hn
  | parts k v =>
    cases k with
    | bare =>
      obtain ⟨s, r, rfl⟩ := hw
      unfold bentS
      dsimp only
      split <;> rfl
    | quote => rfl
    | index => rfl
theorem tk_bent (H : Prg K) {cn : Bool} (B : BR cs b so (i :: is) ⟨x :: xs, false, cn, f⟩) (hl : xs.length + 2 ≤ 2 ^ 19) (hn : x ≠ .name) (hw : belowOk (x :: xs)) (q : Done cs b so (i :: is) ⟨markBrace (bentS (x :: xs) c).1, false, cn, f || (bentS (x :: xs) c).2⟩ .none P) :
    wpS (K (n + 7)) i_tk_bent (stT b c x true cs) (tkZ (K (n + 7)) P X) X := by
  unfold i_tk_bent
  walk_at "wp"
  refine c_bent H B hl hw fun cs2 is2 B2 E2 => ?_
  walk_at "wp"
  by_cases hb : ∃ d y e, x = .brace d y e
  · obtain ⟨d, y, e, rfl⟩ := hb
    cases is2 with
    | nil => exact B2.it.elim
    | cons j is2 => exact take_fin_brace (xs := xs) (d := d) (x := y) (e := e) B2 (.inl rfl) (q.of E2)
  · refine take_fin_no B2 (.inl ?_) ?_
    · rw [kind_eq_brace]
      cases x with
      | brace d y e => exact absurd ⟨d, y, e, rfl⟩ hb
      | _ => rfl
    · rw [mark_bent hn (fun d y e z => hb ⟨d, y, e, z⟩) hw] at q
      exact q _ _ B2 E2
noncomputable def isParts : Item → Bool
  | .parts _ _ => true
  | _ => false
theorem kind_in : (kindL x == [98, 97, 114, 101] || (kindL x == [113, 117, 111, 116, 101] || (kindL x == [105, 110, 100, 101, 120] || false))) = isParts x := by
  cases x with
  | parts k v => cases k <;> rfl
  | _ => rfl
theorem tk_back (B : BR cs b so (i :: is) ⟨x :: xs, false, false, f⟩) (hn : x ≠ .name) (q : Done cs b so (i :: is) ⟨markBrace (offName (x :: xs)), true, false, f⟩ .none P) : wpS (K n) i_tk_back (stT b 92 x false cs) (tkZ (K n) P X) X := by
  unfold i_tk_back
  walk_at "wp"
  refine do_held B fun cs2 B2 E2 => ?_
  have q := q.of E2
  walk_at "wp"
  rw [kind_in]
  cases x with
  | parts k v =>
    refine t_T ?_
    walk_at "wp"
    refine do_state B2 (.parts k (-1)) rfl fun cs3 B3 E3 => ?_
    walk_at "wp"
    exact take_fin_no B3 (.inl (by cases k <;> rfl)) (q _ _ B3 E3)
  | script s =>
    refine t_F ?_
    walk_at "wp"
    exact take_fin_no B2 (.inl rfl) (q _ _ B2 Ev.refl)
  | name => exact absurd rfl hn
  | brace d y e =>
    refine t_F ?_
    walk_at "wp"
    exact take_fin_brace B2 (.inr rfl) q
theorem tk_in (H : Prg K) (B : BR cs b so (i :: is) ⟨x :: xs, false, false, f⟩) (hl : xs.length + 2 ≤ 2 ^ 19) (hn : x ≠ .name) (hw : belowOk (x :: xs)) (hx : ∀ d y e, x = .brace d y e → y.length ≤ 2 ^ 20) (q : Done cs b so (i :: is) ⟨(stepS (x :: xs) c).1, false, false, f || (stepS (x :: xs) c).2⟩ .none P) :
    wpS (K (n + 7)) i_tk_in (stT b c x false cs) (tkZ (K (n + 7)) P X) X := by
  unfold i_tk_in
  walk_at "wp"
  cases x with
  | script s =>
    refine t_pos rfl ?_
    walk_at "wp"
    refine c_in_script H B hl fun cs2 is2 B2 E2 => ?_
    walk_at "wp"
    exact take_fin_no B2 (.inl rfl) (q _ _ B2 E2)
  | brace d y e =>
    obtain ⟨s, r, rfl⟩ := hw
    refine t_neg rfl ?_
    walk_at "wp"
    refine t_pos rfl ?_
    walk_at "wp"
    refine c_in_braces H B (by simp only [List.length_cons] at hl; walk_at "om") (hx d y e rfl) fun cs2 is2 B2 E2 => ?_
    walk_at "wp"
    refine take_fin_no B2 (.inr ⟨rfl, rfl⟩) (q _ _ ?_ E2)
    simpa [stepS] using B2
  | parts k v =>
    refine t_neg (by cases k <;> rfl) ?_
    walk_at "wp"
    refine t_neg (by cases k <;> rfl) ?_
    walk_at "wp"
    refine c_in_parts H B (by walk_at "om") (fun z => by rcases z with rfl | rfl <;> exact hw) fun cs2 is2 B2 E2 => ?_
    walk_at "wp"
    exact take_fin_no B2 (.inr ⟨rfl, rfl⟩) (q _ _ B2 E2)
  | name => exact absurd rfl hn
theorem tk_main (H : Prg K) {h : Bool} (B : BR cs b so (i :: is) ⟨x :: xs, false, h && c == 10, f⟩) (hl : xs.length + 2 ≤ 2 ^ 19) (hw : belowOk (x :: xs)) (hx : ∀ d y e, x = .brace d y e → y.length ≤ 2 ^ 20) {cn : Bool} (q : Done cs b so (i :: is) (take ⟨x :: xs, h, cn, f⟩ c) .none P) :
    wpS (K (n + 7)) i_tk (stT b c x h cs) (fun fl σ => P fl.val σ.cells) X := by
  unfold i_tk
  walk_at "wp"
  rw [kind_eq_name]
  by_cases hnm : x = .name
  · subst hnm
    refine t_T ?_
    exact tk_name B (by walk_at "om") q
  have hnn : ∀ r, x :: xs ≠ .name :: r := fun r z => hnm (by injection z)
  rw [take_ne hnn] at q
  refine t_neg (by cases x <;> first | rfl | exact absurd rfl hnm) ?_
  walk_at "wp"
  cases h with
  | true => exact t_T (tk_bent H (by simpa using B) hl hnm hw q)
  | false =>
    refine t_F ?_
    walk_at "wp"
    refine t_split (fun ha => ?_) (fun ha => ?_)
    · obtain rfl : c = 92 := eq_of_beq ha
      exact tk_back (by simpa using B) hnm q
    · have e : (if (false : Bool) = true then (⟨markBrace (bentS (x :: xs) c).1, false, c == 10, f || (bentS (x :: xs) c).2⟩ : Book) else if c = 92 then ⟨markBrace (offName (x :: xs)), true, false, f⟩ else ⟨(stepS (x :: xs) c).1, false, false, f || (stepS (x :: xs) c).2⟩) = ⟨(stepS (x :: xs) c).1, false, false, f || (stepS (x :: xs) c).2⟩ := (if_neg Bool.false_ne_true).trans (if_neg (ne_of_beq_false ha))
      exact tk_in H (by simpa using B) hl hnm hw hx (e ▸ q)
end

theorem c_take (H : Prg K) {n c cs P X} {b so i : Nat} {is : List Nat} {x : Item} {xs : List Item} {h cn f : Bool} (B : BR cs b so (i :: is) ⟨x :: xs, h, cn, f⟩) (hl : xs.length + 2 ≤ 2 ^ 19) (hw : belowOk (x :: xs)) (hx : ∀ d y e, x = .brace d y e → y.length ≤ 2 ^ 20)
    (q : Done cs b so (i :: is) (take ⟨x :: xs, h, cn, f⟩ c) .none P) : K (n + 8) 263 [.obj b, .str [c]] cs P X := by
  have ht := B.top
  refine H.f263 rfl ?_
  unfold b_law_take
  walk_at "wp"
  cases h with
  | true =>
    refine t_T ?_
    walk_at "wp"
    refine do_held B fun cs1 B1 E1 => ?_
    walk_at "wp"
    refine do_cont B1 fun cs2 B2 E2 => ?_
    exact tk_main H (by simpa using B2) hl hw hx (q.of (E1.trans E2))
  | false =>
    refine t_F ?_
    walk_at "wp"
    refine do_held B fun cs1 B1 E1 => ?_
    walk_at "wp"
    refine do_cont B1 fun cs2 B2 E2 => ?_
    exact tk_main H (by simpa using B2) hl hw hx (q.of (E1.trans E2))
end
section
variable {K : Nat → Call}


theorem c_is_faulty (H : Prg K) {n cs P X} {b so i : Nat} {is : List Nat} {x : Item} {xs : List Item} {h cn f : Bool} (B : BR cs b so (i :: is) ⟨x :: xs, h, cn, f⟩) (q : P (.bool (isFaulty ⟨x :: xs, h, cn, f⟩)) cs) : K (n + 1) 270 [.obj b] cs P X := by
  have ht := B.top
  refine H.f270 rfl ?_
  unfold b_law_is_faulty
  unfold isFaulty at q
  dsimp only at q
  walk_at "wp"
  cases f with
  | true => refine t_T ?_; walk_at "wp"; exact q
  | false =>
    refine t_F ?_
    walk_at "wp"
    simp only [Bool.false_or] at q
    cases h with
    | false => refine t_F ?_; walk_at "wp"; exact q
    | true =>
      refine t_T ?_
      walk_at "wp"
      rw [kind_eq_script]
      simp only [Bool.true_and] at q
      cases x with
      | script s =>
        refine t_T ?_
        walk_at "wp"
        dsimp only [stateD]
        walk_at "wp"
        rw [show (encSS s == [98, 101, 104, 105, 110, 100]) = decide (s = .behind) from enc_eq s .behind]
        have : topBehind (.script s :: xs) = decide (s = .behind) := by cases s <;> rfl
        rw [this] at q
        exact q
      | parts k v => refine t_F ?_; walk_at "wp"; exact q
      | name => refine t_F ?_; walk_at "wp"; exact q
      | brace d y e => refine t_F ?_; walk_at "wp"; exact q

theorem shape2 (x y : Item) : shapeOk [x, y] = (kindL x == [98, 97, 114, 101]) := by
  cases x with
  | parts k v => cases k <;> rfl
  | _ => rfl

theorem c_is_right (H : Prg K) {n cs P X} {b so i : Nat} {is : List Nat} {x : Item} {xs : List Item} {h cn f : Bool} (B : BR cs b so (i :: is) ⟨x :: xs, h, cn, f⟩) (hl : xs.length + 1 ≤ 2 ^ 19) (q : P (.bool (isRight ⟨x :: xs, h, cn, f⟩)) cs) : K (n + 2) 277 [.obj b] cs P X := by
  have ht := B.top
  have hl' : (⟨x :: xs, h, cn, f⟩ : Book).stk.length ≤ 2 ^ 19 := by simpa using hl
  refine H.f277 rfl ?_
  unfold b_law_is_right
  walk_at "wp"
  refine c_is_faulty H B ?_
  unfold isRight at q
  walk_at "wp"
  refine t_split (fun ha => ?_) (fun ha => ?_)
  · rw [if_pos ha] at q
    walk_at "wp"
    exact q
  rw [if_neg (by rw [ha]; decide)] at q
  dsimp only at q
  walk_at "wp"
  unfold b_law_is_right_2
  have last : shapeOk (x :: xs) = true → wpS (K (n + 1)) b_law_is_right_1 ⟨[some (.obj b), some (.obj so)], cs⟩ (fun fl σ => P fl.val σ.cells) X := fun e => by
    rw [e] at q
    unfold b_law_is_right_1
    walk_at "wp"
    exact q
  walk_at "wp"
  refine t_split (fun hb => ?_) (fun hb => ?_)
  · walk_at "wp"
    have : shapeOk (x :: xs) = false := by
      have hb : 2 < xs.length + 1 := by
        have := hb
        simp only [List.length_cons, decide_eq_true_eq] at this
        walk_at "om"
      match xs, hb with
      | y :: z :: r, _ => rfl
      | [y], hb => simp at hb
      | [], hb => simp at hb
    rw [this] at q
    exact q
  have hb : ¬ 2 < xs.length + 1 := by
    have := hb
    simp only [List.length_cons, decide_eq_false_iff_not] at this
    walk_at "om"
  walk_at "wp"
  refine t_split (fun hc => ?_) (fun hc => ?_)
  · have hc : xs.length = 1 := by
      have := hc
      simp only [List.length_cons, beq_iff_eq] at this
      walk_at "om"
    obtain ⟨y, rfl⟩ : ∃ y, xs = [y] := List.length_eq_one_iff.mp hc
    obtain ⟨j, rfl⟩ : ∃ j, is = [j] := by
      have := B.it.2.len
      exact List.length_eq_one_iff.mp this
    have hs := B.s
    walk_at "wp"
    refine rd_item (k := 1) hs rfl (by simp) (by decide) rfl ?_
    walk_at "wp"
    rw [← shape2 x y]
    refine t_split (fun hd => ?_) (fun hd => ?_)
    · replace hd : shapeOk [x, y] = false := by first | exact eq_of_beq hd | exact ne_of_beq_false hd | exact ltN hd | exact nltN hd | exact leN hd | exact nleN hd | exact eN hd | exact neN hd | exact nb1 hd | exact nb2 hd | simpa using hd
      rw [hd] at q
      walk_at "wp"
      exact q
    · replace hd : shapeOk [x, y] = true := by first | exact eq_of_beq hd | exact ne_of_beq_false hd | exact ltN hd | exact nltN hd | exact leN hd | exact nleN hd | exact eN hd | exact neN hd | exact nb1 hd | exact nb2 hd | simpa using hd
      walk_at "wp"
      exact last hd
  · have hc : xs.length ≠ 1 := by
      have := hc
      simp only [List.length_cons, beq_eq_false_iff_ne, ne_eq] at this
      walk_at "om"
    walk_at "wp"
    refine last ?_
    have : xs = [] := List.length_eq_zero_iff.mp (by walk_at "om")
    subst this
    rfl

theorem prefix_set2 {cells cs : List Cell} {i : Nat} {x : Cell} (h : cells <+: cs) (hi : cells.length ≤ i) : cells <+: cs.set i x := by
  obtain ⟨r, rfl⟩ := h
  rw [List.set_append_right _ _ hi]
  exact List.prefix_append _ _

theorem c_law_begin (H : Prg K) {n cs P X} (q : ∀ cs' b so is, cs <+: cs' → BR cs' b so is begin0 → (∀ j ∈ b :: so :: is, cs.length ≤ j) → P (.obj b) cs') : K (n + 1) 284 [] cs P X := by
  refine H.f284 rfl ?_
  unfold b_law_begin
  walk_at "wp"
  refine ⟨?_, ?_⟩
  · simp
  walk_at "wp"
  refine q _ cs.length (cs.length + 2) [cs.length + 1] ?_ ⟨?_, ?_, ⟨?_, trivial⟩, by simp⟩ ?_
  · rw [List.append_assoc, List.append_assoc]
    exact prefix_set2 (List.prefix_append _ _) (Nat.le_refl _)
  · simp [bookD, begin0]
  · simp
  · simp [encItem, kindL, stateD, encSS, textL, flagB]
  · intro j m
    simp at m
    walk_at "om"
end
section
variable {K : Nat → Call}


noncomputable def pairOk : Item → Item → Prop
  | .script _, .parts _ _ => True
  | .parts .index _, .parts _ _ => True
  | .parts .bare _, .script _ => True
  | .parts .quote _, .script _ => True
  | .name, .parts _ _ => True
  | .brace _ _ _, .script _ => True
  | _, _ => False
noncomputable def wf : List Item → Prop
  | [] => False
  | [x] => ∃ s, x = .script s
  | x :: y :: r => pairOk x y ∧ wf (y :: r)
noncomputable def bOk (m : Nat) (x : Item) : Prop := ∀ d y e, x = .brace d y e → 1 ≤ d ∧ d ≤ m + 1 ∧ y.length ≤ m + 7
noncomputable def wt1 : Item → Nat
  | .script _ => 2
  | .parts .bare _ => 0
  | .parts _ _ => 1
  | .name => 1
  | .brace d _ _ => d.toNat
noncomputable def wt : List Item → Nat
  | [] => 0
  | x :: r => wt1 x + wt r
structure W (m : Nat) (l : List Item) : Prop where
  wf : wf l
  wt : wt l ≤ 2 * m + 2
  len : l.length ≤ 2 * m + 1
  b : ∀ x ∈ l, bOk m x

theorem bOk.up {m : Nat} {x : Item} (h : bOk m x) : bOk (m + 1) x := fun d y e z => by have := h d y e z; walk_at "om"
theorem W.up {m : Nat} {l : List Item} (h : W m l) : W (m + 1) l := ⟨h.wf, by have := h.wt; walk_at "om", by have := h.len; walk_at "om", fun x m => (h.b x m).up⟩
theorem W.tail {m : Nat} {x y : Item} {r : List Item} (h : W m (x :: y :: r)) : W m (y :: r) := ⟨h.wf.2, by have := h.wt; simp only [Mine.wt] at this ⊢; walk_at "om", by have := h.len; simp only [List.length_cons] at this ⊢; walk_at "om", fun z k => h.b z (.tail _ k)⟩
theorem wf_script {s s' : SS} {r : List Item} (h : wf (.script s :: r)) : wf (.script s' :: r) := by
  cases r with
  | nil => exact ⟨s', rfl⟩
  | cons y r => cases y <;> exact h
theorem wf_parts {k : PK} {v v' : Int} {r : List Item} (h : wf (.parts k v :: r)) : wf (.parts k v' :: r) := by
  cases r with
  | nil => obtain ⟨s, h⟩ := h; cases h
  | cons y r => cases k <;> cases y <;> exact h
theorem W.script {m : Nat} {s s' : SS} {r : List Item} (h : W m (.script s :: r)) : W m (.script s' :: r) :=
  ⟨wf_script h.wf, h.wt, h.len, fun x k => by
    rcases List.mem_cons.mp k with rfl | k
    · intro d y e z; cases z
    · exact h.b x (.tail _ k)⟩
theorem W.parts {m : Nat} {k : PK} {v v' : Int} {r : List Item} (h : W m (.parts k v :: r)) : W m (.parts k v' :: r) :=
  ⟨wf_parts h.wf, (by have := h.wt; cases k <;> exact this), h.len, fun x k => by
    rcases List.mem_cons.mp k with rfl | k
    · intro d y e z; cases z
    · exact h.b x (.tail _ k)⟩
theorem wf_brace {d d' : Int} {x x' : List Nat} {e e' : Bool} {r : List Item} (h : wf (.brace d x e :: r)) : wf (.brace d' x' e' :: r) := by
  cases r with
  | nil => obtain ⟨s, h⟩ := h; cases h
  | cons y r => cases y <;> exact h
theorem W.brace {m : Nat} {d d' : Int} {x x' : List Nat} {e e' : Bool} {r : List Item} (h : W m (.brace d x e :: r)) (h0 : d' ≤ d + 1) (h1 : 1 ≤ d') (h2 : d' ≤ m + 2) (h3 : x'.length ≤ m + 8) : W (m + 1) (.brace d' x' e' :: r) :=
  ⟨wf_brace h.wf, by have := h.wt; simp only [Mine.wt, wt1] at this ⊢; walk_at "om", by have := h.len; simp only [List.length_cons] at this ⊢; walk_at "om", fun x k => by
    rcases List.mem_cons.mp k with rfl | k
    · intro d y e z; cases z; walk_at "om"
    · exact (h.b x (.tail _ k)).up⟩
theorem W.push {m : Nat} {x y : Item} {r : List Item} (h : W m (y :: r)) (hp : pairOk x y) (hb : bOk (m + 1) x) (hw : wt1 x ≤ 2 := by decide) : W (m + 1) (x :: y :: r) :=
  ⟨⟨hp, h.wf⟩, by have := h.wt; simp only [Mine.wt] at this ⊢; walk_at "om", by have := h.len; simp only [List.length_cons] at this ⊢; walk_at "om", fun z k => by
    rcases List.mem_cons.mp k with rfl | k
    · exact hb
    · exact (h.b z k).up⟩
theorem W.push2 {m : Nat} {x x2 y : Item} {r : List Item} (h : W m (y :: r)) (hp : pairOk x y) (hp2 : pairOk x2 x) (hb : bOk (m + 1) x) (hb2 : bOk (m + 1) x2) (hw : wt1 x + wt1 x2 ≤ 2 := by decide) : W (m + 1) (x2 :: x :: y :: r) :=
  ⟨⟨hp2, hp, h.wf⟩, by have := h.wt; simp only [Mine.wt] at this ⊢; walk_at "om", by have := h.len; simp only [List.length_cons] at this ⊢; walk_at "om", fun z k => by
    rcases List.mem_cons.mp k with rfl | k
    · exact hb2
    · rcases List.mem_cons.mp k with rfl | k
      · exact hb
      · exact (h.b z k).up⟩
theorem bOk_s {m : Nat} {s : SS} : bOk m (.script s) := fun d y e z => by cases z
theorem bOk_p {m : Nat} {k : PK} {v : Int} : bOk m (.parts k v) := fun d y e z => by cases z
theorem bOk_n {m : Nat} : bOk m .name := fun d y e z => by cases z
theorem W.drop {m : Nat} {x : Item} {r : List Item} (h : W m (x :: r)) (hr : r ≠ []) : W m r := by
  cases r with
  | nil => exact absurd rfl hr
  | cons y r => exact h.tail

theorem scriptS_W {m : Nat} {s : SS} {r : List Item} (h : W m (.script s :: r)) (c : Nat) : W (m + 1) (scriptS s r c).1 := by
  unfold scriptS plainParts
  split
  · dsimp only; split
    · exact h.script.up
    · exact h.script.up
  split
  · dsimp only; split
    · exact h.script.up
    · exact h.script.up
  split
  · exact h.script.up
  split
  · rename_i z; exact (h.drop z.2).up
  split
  · exact h.script.up
  split
  · exact h.up
  split
  · exact h.push trivial bOk_p
  split
  · exact h.push trivial (fun d y e z => by cases z; simp; walk_at "om") (by simp [wt1])
  · dsimp only; split
    · exact h.push trivial bOk_p
    · split
      · exact h.push2 trivial trivial bOk_p bOk_s
      · exact h.push trivial bOk_p

theorem partsS_W {m : Nat} {k : PK} {v : Int} {r : List Item} (h : W m (.parts k v :: r)) (c : Nat) : W (m + 1) (partsS k v r c).1 := by
  have hg : ∀ l, goesOn k v r c = some l → W (m + 1) l := fun l e => by
    unfold goesOn at e
    split at e
    · cases e; exact h.parts.push trivial bOk_n
    split at e
    · cases e; exact h.parts.push trivial bOk_p
    split at e
    · cases e; exact h.parts.up
    split at e
    · cases e; exact h.parts.up
    · cases e
  have h0 : W (m + 1) (partsS0 k r c).1 := by
    unfold partsS0 plainParts
    split
    · rename_i z
      obtain ⟨rfl, _⟩ := z
      cases r with
      | nil => obtain ⟨s, z⟩ := h.wf; cases z
      | cons y r =>
        cases y with
        | script s => exact scriptS_W (h.tail.script (s' := .gap)) c
        | _ => exact h.wf.1.elim
    split
    · rename_i z
      obtain ⟨rfl, _⟩ := z
      cases r with
      | nil => obtain ⟨s, z⟩ := h.wf; cases z
      | cons y r =>
        cases y with
        | script s => exact (h.tail.script).up
        | _ => exact h.wf.1.elim
    split
    · cases r with
      | nil => obtain ⟨s, z⟩ := h.wf; cases z
      | cons y r => exact h.tail.up
    · dsimp only; split
      · exact h.parts.up
      · split
        · exact h.parts.push trivial bOk_s
        · exact h.parts.up
  unfold partsS
  split
  · rename_i l e
    split at e
    · exact hg l e
    · cases e
  · exact h0

theorem braceS_W {m : Nat} {d : Int} {x : List Nat} {e : Bool} {r : List Item} (h : W m (.brace d x e :: r)) (c : Nat) : W (m + 1) (braceS d x e r c) := by
  have hb := h.b _ (.head _) d x e rfl
  unfold braceS
  have hk : (if c = 123 then (1 : Int) else if c = 125 then -1 else 0) = 1 ∨ (if c = 123 then (1 : Int) else if c = 125 then -1 else 0) = -1 ∨ (if c = 123 then (1 : Int) else if c = 125 then -1 else 0) = 0 := by
    split
    · exact .inl rfl
    · split
      · exact .inr (.inl rfl)
      · exact .inr (.inr rfl)
  generalize (if c = 123 then (1 : Int) else if c = 125 then -1 else 0) = k at hk
  dsimp only
  by_cases hz : d + k = 0
  · rw [if_pos hz]
    cases r with
    | nil => obtain ⟨s, z⟩ := h.wf; cases z
    | cons y r =>
      cases y with
      | script s => exact (h.tail.script).up
      | _ => exact h.wf.1.elim
  · rw [if_neg hz]
    refine h.brace ?_ ?_ ?_ ?_
    · walk_at "om"
    · walk_at "om"
    · walk_at "om"
    · simp; walk_at "om"

theorem bentS_W {m : Nat} {l : List Item} (h : W m l) (c : Nat) : W (m + 1) (bentS l c).1 := by
  unfold bentS
  split
  · split
    · exact h.up
    split
    · exact h.script.up
    split
    · exact h.up
    · exact h.push trivial bOk_p
  · split
    · rename_i r _
      cases r with
      | nil => obtain ⟨s, z⟩ := h.wf; cases z
      | cons y r =>
        cases y with
        | script s => exact (h.tail.script).up
        | _ => exact h.wf.1.elim
    · exact h.up
  · exact h.up
theorem markBrace_W {m : Nat} {l : List Item} (h : W (m + 1) l) : W (m + 1) (markBrace l) := by
  unfold markBrace
  split
  · rename_i d x e r
    have hb := h.b _ (.head _) d x e rfl
    refine ⟨wf_brace h.wf, h.wt, h.len, fun y k => ?_⟩
    rcases List.mem_cons.mp k with rfl | k
    · intro d' y' e' z; cases z
      refine ⟨hb.1, hb.2.1, by simp [noStar]⟩
    · exact h.b y (.tail _ k)
  · exact h
theorem offName_W {m : Nat} {l : List Item} (h : W m l) : W m (offName l) := by
  unfold offName
  split
  · exact h.parts
  · exact h

theorem take_W {m : Nat} {b : Book} (h : W m b.stk) (c : Nat) : W (m + 1) (take b c).stk := by
  by_cases hn : ∃ r, b.stk = .name :: r
  · obtain ⟨r, hr⟩ := hn
    unfold take
    rw [hr] at h ⊢
    dsimp only
    split
    · refine (h.drop ?_).up
      intro z; subst z; obtain ⟨s, z⟩ := h.wf; cases z
    · exact h.up
  · rw [take_ne fun r hr => hn ⟨r, hr⟩]
    split
    · exact markBrace_W (bentS_W h c)
    split
    · exact markBrace_W (offName_W h).up
    · unfold stepS
      split
      · rename_i z; rw [z] at h; exact scriptS_W h c
      · rename_i z; rw [z] at h; exact partsS_W h c
      · rename_i z; rw [z] at h; exact braceS_W h c
      · exact h.up

theorem At_W (t : List Nat) : ∀ p, W p (At t p).stk
  | 0 => ⟨⟨_, rfl⟩, by simp [At, run, begin0, wt, wt1], by simp [At, run, begin0], fun x m => by
      simp [At, run, begin0] at m
      subst m; exact bOk_s⟩
  | p + 1 => by
    have ih := At_W t p
    cases q : t[p]? with
    | none =>
      have : At t (p + 1) = At t p := by unfold At run; rw [List.take_add_one, q]; simp
      rw [this]; exact ih.up
    | some c =>
      rw [At_succ q]
      unfold stp
      split
      · exact ih.up
      · exact take_W ih c

theorem wf_below {l : List Item} (h : wf l) : belowOk l := by
  cases l with
  | nil => trivial
  | cons x r =>
    cases r with
    | nil => obtain ⟨s, rfl⟩ := h; trivial
    | cons y r =>
      cases x with
      | parts k v =>
        cases k <;> cases y <;> first | exact h.1.elim | exact ⟨_, _, rfl⟩ | trivial
      | brace d x e => cases y <;> first | exact h.1.elim | exact ⟨_, _, rfl⟩
      | _ => trivial
end
section
variable {K : Nat → Call}


theorem s_forE {K : Call} {σ : St} {P : Fl → St → Prop} {X : XP} {is : List Nat} {e : E} {b : S}
    (h : wpE K e σ (fun d σ1 => ∃ xs, itemsD σ1.cells d = some xs ∧ xs.length ≤ 2 ^ 20 ∧ ∃ I : List D → St → Prop, I xs σ1 ∧ (∀ σ2, I [] σ2 → itemsD σ2.cells d = some xs ∧ P .next σ2) ∧
      ∀ x r σ2 (k : St → Prop), (∀ σ, I r σ → k σ) → I (x :: r) σ2 → itemsD σ2.cells d = some xs ∧ bindItem σ2 is x fun σ3 => wpS K b σ3 (forP k P) X) X) (hmono : ∀ (Q Q' : D → St → Prop), (∀ d σ, Q d σ → Q' d σ) → wpE K e σ Q X → wpE K e σ Q' X) : wpS K (.forE is e b) σ P X := by
  refine hmono _ _ (fun d σ1 q => ?_) h
  obtain ⟨xs, h1, h2, I, h3, h4, h5⟩ := q
  refine ⟨xs, h1, h2, ?_⟩
  have : ∀ r σ, I r σ → (r.foldr (fun x (k : St → Prop) σ2 => itemsD σ2.cells d = some xs ∧ bindItem σ2 is x fun σ3 => wpS K b σ3 (forP k P) X) (fun σ2 => itemsD σ2.cells d = some xs ∧ P .next σ2)) σ := by
    intro r
    induction r with
    | nil => intro σ hI; exact h4 σ hI
    | cons x r ih => intro σ hI; exact h5 x r σ _ ih hI
  exact this xs σ1 h3
theorem mono_loc {K : Call} {σ : St} {X : XP} {i : Nat} : ∀ (Q Q' : D → St → Prop), (∀ d σ, Q d σ → Q' d σ) → wpE K (.loc i) σ Q X → wpE K (.loc i) σ Q' X := fun Q Q' k h => by
  obtain ⟨d, e, h⟩ := h
  exact ⟨d, e, k _ _ h⟩

theorem prefix_of {cells cs : List Cell} (hl : cells.length ≤ cs.length) (h : ∀ i, i < cells.length → cs[i]? = cells[i]?) : cells <+: cs := by
  refine List.prefix_iff_eq_take.mpr (List.ext_getElem? fun i => ?_)
  by_cases q : i < cells.length
  · rw [List.getElem?_take_of_lt q, h i q]
  · rw [List.getElem?_eq_none_iff.mpr (by walk_at "om"), List.getElem?_eq_none_iff.mpr (by simp; walk_at "om")]

noncomputable def toldD (t : List Nat) (p : Nat) : List D := (List.range (p + 1)).map fun k => .bool (isRight (At t k))

noncomputable abbrev stW (t : List Nat) (b tl : Nat) (o : Option D) (cs : List Cell) : St := ⟨[some (.str t), some (.obj b), some (.obj tl), o], cs⟩
structure WkAt (t : List Nat) (cells : List Cell) (b so tl p : Nat) (cs : List Cell) (is : List Nat) : Prop where
  l1 : cells.length ≤ cs.length
  l2 : ∀ i, i < cells.length → cs[i]? = cells[i]?
  B : BR cs b so is (At t p)
  l3 : ∀ j ∈ b :: so :: is, cells.length ≤ j
  l4 : cs[tl]? = some (.lst (toldD t p))
  l5 : tl ∉ b :: so :: is
inductive WkI (t : List Nat) (cells : List Cell) (b so tl : Nat) : List D → St → Prop
  | mk {ds : List D} {p : Nat} {cs : List Cell} {is : List Nat} {o : Option D} (hp : p ≤ t.length) (hr : ds = (t.drop p).map fun x => D.str [x]) (h : WkAt t cells b so tl p cs is) : WkI t cells b so tl ds (stW t b tl o cs)

theorem told_succ (t : List Nat) (p : Nat) : toldD t (p + 1) = toldD t p ++ [.bool (isRight (At t (p + 1)))] := by
  unfold toldD
  rw [List.range_succ (n := p + 1), List.map_append]
  rfl
theorem told_len (t : List Nat) (p : Nat) : (toldD t p).length = p + 1 := by
  unfold toldD
  rw [List.length_map, List.length_range]

theorem wk_told (H : Prg K) {n : Nat} {t : List Nat} {cells cs : List Cell} {b so tl p : Nat} {is : List Nat} {o : Option D} {Z : Fl → St → Prop} {X : XP} (hp : p ≤ 2 ^ 17) (htl : cells.length ≤ tl) (l1 : cells.length ≤ cs.length) (l2 : ∀ i, i < cells.length → cs[i]? = cells[i]?) (B : BR cs b so is (At t (p + 1)))
    (l3 : ∀ j ∈ b :: so :: is, cells.length ≤ j) (l4 : cs[tl]? = some (.lst (toldD t p))) (l5 : tl ∉ b :: so :: is) (hZ : ∀ cs is, WkAt t cells b so tl (p + 1) cs is → Z .next (stW t b tl o cs)) : wpS (K (n + 8)) b_law_walk_1 (stW t b tl o cs) Z X := by
  unfold b_law_walk_1
  walk_at "wp"
  refine ⟨_, _, rfl, l4, ?_⟩
  walk_at "wp"
  have hW := At_W t (p + 1)
  have ts := told_succ t p
  have hb1 : b ≠ tl := fun z => l5 (by rw [← z]; exact .head _)
  have hs1 : so ≠ tl := fun z => l5 (by rw [← z]; exact .tail _ (.head _))
  have done : WkAt t cells b so tl (p + 1) (cs.set tl (.lst (toldD t p ++ [.bool (isRight (At t (p + 1)))]))) is :=
    ⟨by rw [List.length_set]; exact l1, fun i hi => by rw [List.getElem?_set_ne (Nat.ne_of_gt (Nat.lt_of_lt_of_le hi htl))]; exact l2 i hi,
      ⟨by rw [List.getElem?_set_ne (Ne.symm hb1)]; exact B.d, by rw [List.getElem?_set_ne (Ne.symm hs1)]; exact B.s, B.it.mono fun j m => List.getElem?_set_ne fun z => l5 (by rw [z]; exact .tail _ (.tail _ m)), B.nd⟩,
      l3, by rw [List.getElem?_set_self (List.getElem?_eq_some_iff.mp l4).1, ts], l5⟩
  have fin := hZ _ _ done
  clear done hZ l3 l2 l1 ts
  generalize At t (p + 1) = bk at B hW fin
  obtain ⟨stk, h, cn, f⟩ := bk
  cases stk with
  | nil => exact hW.wf.elim
  | cons y ys =>
    cases is with
    | nil => exact B.it.elim
    | cons i2 is2 =>
      refine c_is_right H B (by have := hW.len; simp only [List.length_cons] at this ⊢; walk_at "om") ?_
      walk_at "wp"
      refine ⟨_, l4, by rw [told_len]; walk_at "om", ?_⟩
      walk_at "wp"
      exact fin

theorem wk_turn (H : Prg K) {n : Nat} {t : List Nat} {cells cs : List Cell} {b so tl p c : Nat} {is : List Nat} {Z : Fl → St → Prop} {X : XP} (hp : p ≤ 2 ^ 17) (htl : cells.length ≤ tl) (hc : t[p]? = some c) (h : WkAt t cells b so tl p cs is) (hZ : ∀ cs is o, WkAt t cells b so tl (p + 1) cs is → Z .next (stW t b tl o cs)) :
    wpS (K (n + 8)) b_law_walk_2 (stW t b tl (some (.str [c])) cs) Z X := by
  obtain ⟨l1, l2, B, l3, l4, l5⟩ := h
  have hW := At_W t p
  have hsucc := At_succ hc
  unfold b_law_walk_2
  walk_at "wp"
  generalize At t p = bk at B hW hsucc
  obtain ⟨stk, h, cn, f⟩ := bk
  cases stk with
  | nil => exact hW.wf.elim
  | cons y ys =>
    cases is with
    | nil => exact B.it.elim
    | cons i2 is2 =>
      cases f with
      | true =>
        refine t_neg rfl ?_
        walk_at "wp"
        exact wk_told H hp htl l1 l2 (by rw [hsucc]; exact B) l3 l4 l5 fun cs is q => hZ cs is _ q
      | false =>
        refine t_pos rfl ?_
        walk_at "wp"
        have hlen := hW.len
        simp only [List.length_cons] at hlen
        refine c_take H B (by walk_at "om") (wf_below hW.wf) (fun d z e w => by have := hW.b y (.head _) d z e w; walk_at "om") fun cs2 is2' B2 E2 => ?_
        walk_at "wp"
        have htl2 := (List.getElem?_eq_some_iff.mp l4).1
        refine wk_told H hp htl (Nat.le_trans l1 E2.len) (fun i hi => ?_) (by rw [hsucc]; exact B2) (fun j m => ?_) ?_ (fun m => ?_) fun cs is q => hZ cs is _ q
        · rw [E2.keep i (Nat.lt_of_lt_of_le hi l1) fun m => Nat.not_le_of_lt hi (l3 i m)]; exact l2 i hi
        · rcases List.mem_cons.mp m with rfl | m
          · exact l3 _ (.head _)
          · rcases List.mem_cons.mp m with rfl | m
            · exact l3 _ (.tail _ (.head _))
            · rcases E2.new j m with z | z
              · exact l3 j (.tail _ (.tail _ z))
              · exact Nat.le_trans l1 z
        · rw [E2.keep _ htl2 l5]; exact l4
        · rcases List.mem_cons.mp m with z | m
          · exact l5 (by rw [z]; exact .head _)
          · rcases List.mem_cons.mp m with z | m
            · exact l5 (by rw [z]; exact .tail _ (.head _))
            · rcases E2.new _ m with z | z
              · exact l5 (.tail _ (.tail _ z))
              · exact Nat.not_le_of_lt htl2 z

theorem drop_next {t : List Nat} {p : Nat} {x : D} {r : List D} (h : x :: r = (t.drop p).map fun x => D.str [x]) : ∃ c, t[p]? = some c ∧ x = .str [c] ∧ r = (t.drop (p + 1)).map fun x => D.str [x] := by
  cases e : t[p]? with
  | none => rw [List.drop_eq_nil_of_le (List.getElem?_eq_none_iff.mp e)] at h; exact nomatch h
  | some c =>
    obtain ⟨h1, h2⟩ := List.getElem?_eq_some_iff.mp e
    rw [List.drop_eq_getElem_cons h1, h2] at h
    cases h
    exact ⟨c, rfl, rfl, rfl⟩
theorem c_law_walk (H : Prg K) {n t cells P X} (ht : t.length ≤ 2 ^ 17)
    (q : ∀ cs b so is tl, cells <+: cs → BR cs b so is (At t t.length) → cs[tl]? = some (.lst (toldD t t.length)) → tl ∉ b :: so :: is → (∀ j ∈ b :: so :: is, cells.length ≤ j) → P (.tup [.obj tl, .obj b]) cs) : K (n + 9) 291 [.str t] cells P X := by
  refine H.f291 rfl ?_
  unfold b_law_walk
  walk_at "wp"
  refine c_law_begin H fun cs b so is c1 B c2 => ?_
  walk_at "wp"
  refine s_forE (r_loc rfl ?_) mono_loc
  refine ⟨_, rfl, by rw [List.length_map]; exact Nat.le_trans ht (by decide), WkI t cells b so cs.length, ?_, ?_, ?_⟩
  · have hbl := (List.getElem?_eq_some_iff.mp B.d).1
    have hsl := (List.getElem?_eq_some_iff.mp B.s).1
    have hil : ∀ j ∈ is, j < cs.length := fun j m => by
      obtain ⟨x, e⟩ := B.it.mem m
      exact (List.getElem?_eq_some_iff.mp e).1
    have old : ∀ j, j < cs.length → (cs ++ [Cell.lst [D.bool true]])[j]? = cs[j]? := fun j h => List.getElem?_append_left h
    refine .mk (p := 0) (is := is) (Nat.zero_le _) rfl ⟨?_, fun i hi => ?_, ⟨(old b hbl).trans B.d, (old so hsl).trans B.s, B.it.mono fun j m => old j (hil j m), B.nd⟩, c2, ?_, ?_⟩
    · rw [List.length_append]; exact Nat.le_trans c1.length_le (Nat.le_add_right _ _)
    · obtain ⟨w, rfl⟩ := c1
      rw [List.append_assoc, List.getElem?_append_left hi]
    · rw [List.getElem?_append_right (Nat.le_refl _), Nat.sub_self]; rfl
    · intro m
      rcases List.mem_cons.mp m with m | m
      · exact absurd hbl (by rw [m]; exact Nat.lt_irrefl _)
      · rcases List.mem_cons.mp m with m | m
        · exact absurd hsl (by rw [m]; exact Nat.lt_irrefl _)
        · exact Nat.lt_irrefl _ (hil _ m)
  · rintro _ ⟨hp, hr, h⟩
    rename_i p cs' is' o
    obtain rfl : p = t.length := by
      have := congrArg List.length hr
      rw [List.length_map, List.length_drop] at this
      exact Nat.le_antisymm hp (Nat.le_of_sub_eq_zero this.symm)
    refine ⟨rfl, ?_⟩
    rw [seqP_n]
    unfold b_law_walk_3
    walk_at "wp"
    exact q cs' b so is' cs.length (prefix_of h.l1 h.l2) h.B h.l4 h.l5 h.l3
  · rintro x r _ k hk ⟨hp, hr, h⟩
    refine ⟨rfl, ?_⟩
    obtain ⟨c, hc, rfl, rfl⟩ := drop_next hr
    have hpl := (List.getElem?_eq_some_iff.mp hc).1
    exact wk_turn H (Nat.le_trans hp ht) c1.length_le hc h fun cs is o q => hk _ (.mk hpl rfl q)
end
section
variable {K : Nat → Call}


noncomputable def digitV (c : Nat) : Int := if 48 ≤ c ∧ c ≤ 57 then c - 48 else if 97 ≤ c ∧ c ≤ 122 then c - 87 else if 65 ≤ c ∧ c ≤ 90 then c - 55 else -1

theorem digit2 {n c : Nat} {cells : List Cell} {P : D → List Cell → Prop} {X : XP} (h : P (.int (if 65 ≤ c ∧ c ≤ 90 then (c : Int) - 55 else -1)) cells) : wpS (K n) b_digit_2 { loc := [some (D.str [c]), some (D.int c)], cells := cells } (fun fl σ => P fl.val σ.cells) X := by
  unfold b_digit_2
  walk_at "wp"
  refine t_split (fun h1 => ?_) (fun h1 => ?_) <;> walk_at "wp" <;> simp only [decide_eq_true_eq, decide_eq_false_iff_not] at h1
  · refine t_split (fun h2 => ?_) (fun h2 => ?_) <;> walk_at "wp" <;> simp only [decide_eq_true_eq, decide_eq_false_iff_not] at h2
    · refine v_sub ?_
      rw [if_pos (by walk_at "om")] at h; exact h
    · rw [if_neg (by walk_at "om")] at h
      unfold b_digit_1; walk_at "wp"; exact h
  · rw [if_neg (by walk_at "om")] at h
    unfold b_digit_1; walk_at "wp"; exact h

theorem digit3 {n c : Nat} {cells : List Cell} {P : D → List Cell → Prop} {X : XP} (h : P (.int (if 97 ≤ c ∧ c ≤ 122 then (c : Int) - 87 else if 65 ≤ c ∧ c ≤ 90 then (c : Int) - 55 else -1)) cells) : wpS (K n) b_digit_3 { loc := [some (D.str [c]), some (D.int c)], cells := cells } (fun fl σ => P fl.val σ.cells) X := by
  unfold b_digit_3
  walk_at "wp"
  refine t_split (fun h1 => ?_) (fun h1 => ?_) <;> walk_at "wp" <;> simp only [decide_eq_true_eq, decide_eq_false_iff_not] at h1
  · refine t_split (fun h2 => ?_) (fun h2 => ?_) <;> walk_at "wp" <;> simp only [decide_eq_true_eq, decide_eq_false_iff_not] at h2
    · refine v_sub ?_
      rw [if_pos (by walk_at "om")] at h; exact h
    · rw [if_neg (by walk_at "om")] at h
      exact digit2 h
  · rw [if_neg (by walk_at "om")] at h
    exact digit2 h

theorem c_digit (H : Prg K) {n c cells P X} (h : P (.int (digitV c)) cells) : K (n + 1) 52 [.str [c]] cells P X := by
  refine H.f52 rfl ?_
  unfold b_digit
  walk_at "wp"
  refine t_neg (by decide) ?_
  walk_at "wp"
  unfold b_digit_4
  walk_at "wp"
  unfold digitV at h
  refine t_split (fun h1 => ?_) (fun h1 => ?_) <;> walk_at "wp" <;> simp only [decide_eq_true_eq, decide_eq_false_iff_not] at h1
  · refine t_split (fun h2 => ?_) (fun h2 => ?_) <;> walk_at "wp" <;> simp only [decide_eq_true_eq, decide_eq_false_iff_not] at h2
    · refine v_sub ?_
      rw [if_pos (by walk_at "om")] at h; exact h
    · rw [if_neg (by walk_at "om")] at h
      exact digit3 h
  · rw [if_neg (by walk_at "om")] at h
    exact digit3 h

theorem c_is_gap (H : Prg K) {n c cells P X} (h : P (.bool (isGap c)) cells) : K (n + 1) 80 [.str [c]] cells P X := by
  refine H.f80 rfl ?_
  unfold b_is_gap
  walk_at "wp"
  simpa [isGap] using h

inductive Gaps (t : List Nat) (p : Nat) : Nat → Prop
  | nil : Gaps t p p
  | gap {k c : Nat} : Gaps t p k → t[k]? = some c → isGap c = true → Gaps t p (k + 1)
  | cont {k : Nat} : Gaps t p k → t[k]? = some 92 → t[k + 1]? = some 10 → Gaps t p (k + 2)

noncomputable def NoGap (t : List Nat) (q : Nat) : Prop := (∀ c, t[q]? = some c → isGap c = false) ∧ ¬(t[q]? = some 92 ∧ t[q + 1]? = some 10)

theorem Gaps.le {t : List Nat} {p q : Nat} (h : Gaps t p q) : p ≤ q := by induction h <;> walk_at "om"
theorem Gaps.same {t : List Nat} {p q : Nat} (h : Gaps t p q) (hn : NoGap t p) : q = p := by
  induction h with
  | nil => rfl
  | gap _ h1 h2 ih => subst ih; rw [hn.1 _ h1] at h2; cases h2
  | cont _ h1 h2 ih => subst ih; exact absurd ⟨h1, h2⟩ hn.2
theorem NoGap.atEnd {t : List Nat} {q : Nat} (h : t.length ≤ q) : NoGap t q := by
  have e : t[q]? = none := List.getElem?_eq_none_iff.mpr h
  exact ⟨fun c hc => (by rw [e] at hc; cases hc), fun hc => (by rw [e] at hc; cases hc.1)⟩

theorem char_at {t : List Nat} {k : Nat} (h : k < t.length) : ∃ c, t[k]? = some c := ⟨_, List.getElem?_eq_getElem h⟩
theorem lt_of_char {t : List Nat} {k c : Nat} (h : t[k]? = some c) : k < t.length := (List.getElem?_eq_some_iff.mp h).1

theorem c_skip_gaps (H : Prg K) {n t p cells P X} (ht : t.length ≤ 2 ^ 20) (hp : p ≤ t.length) (h : ∀ q, p ≤ q → q ≤ t.length → Gaps t p q → NoGap t q → P (.int (q : Nat)) cells) : K (n + 2) 87 [.str t, .int (p : Nat)] cells P X := by
  refine H.f87 rfl ?_
  unfold b_skip_gaps
  walk_at "wp"
  refine s_whl (fun m σ => ∃ k : Nat, p ≤ k ∧ k ≤ t.length ∧ Gaps t p k ∧ m = t.length - k ∧ σ = ⟨[some (.str t), some (.int k)], cells⟩) (t.length - p) ⟨p, Nat.le_refl _, hp, .nil, rfl, rfl⟩ ?_
  rintro m σ ⟨k, h1, h2, h3, rfl, rfl⟩
  walk_at "wp"
  refine t_split (fun hlt => ?_) (fun hlt => ?_)
  · replace hlt : k < t.length := by first | exact eq_of_beq hlt | exact ne_of_beq_false hlt | exact ltN hlt | exact nltN hlt | exact leN hlt | exact nleN hlt | exact eN hlt | exact neN hlt | exact nb1 hlt | exact nb2 hlt | simpa using hlt
    obtain ⟨c, hc⟩ := char_at hlt
    unfold b_skip_gaps_1
    walk_at "wp"
    refine c_is_gap H ?_
    walk_at "wp"
    refine t_split (fun hg => ?_) (fun hg => ?_)
    · walk_at "wp"
      exact ⟨_, by walk_at "om", k + 1, by walk_at "om", by walk_at "om", h3.gap hc hg, rfl, rfl⟩
    · walk_at "wp"
      rw [seg2_eq]
      refine t_split (fun hs => ?_) (fun hs => ?_)
      · walk_at "wp"
        simp only [Bool.and_eq_true, beq_iff_eq] at hs
        have := lt_of_char hs.2
        exact ⟨_, by walk_at "om", k + 2, by walk_at "om", by walk_at "om", h3.cont hs.1 hs.2, rfl, rfl⟩
      · walk_at "wp"
        refine h k h1 h2 h3 ⟨fun c' hc' => ?_, fun hs' => ?_⟩
        · rw [hc] at hc'; cases hc'; exact hg
        · rw [hs'.1, hs'.2] at hs; simp at hs
  · replace hlt : ¬ k < t.length := by first | exact eq_of_beq hlt | exact ne_of_beq_false hlt | exact ltN hlt | exact nltN hlt | exact leN hlt | exact nleN hlt | exact eN hlt | exact neN hlt | exact nb1 hlt | exact nb2 hlt | simpa using hlt
    walk_at "wp"
    unfold b_skip_gaps_2
    walk_at "wp"
    exact h k h1 h2 h3 (NoGap.atEnd (by walk_at "om"))
end
section
variable {K : Nat → Call}


theorem no_name_s {s : SS} {l : List Item} : ∀ r, Item.script s :: l ≠ .name :: r := by intro r h; cases h
theorem no_name_p {k : PK} {v : Int} {l : List Item} : ∀ r, Item.parts k v :: l ≠ .name :: r := by intro r h; cases h
theorem no_name_b {d : Int} {x : List Nat} {e : Bool} {l : List Item} : ∀ r, Item.brace d x e :: l ≠ .name :: r := by intro r h; cases h

theorem Is.comment {t : List Nat} {p c : Nat} {r : List Item} (h : Is t p (.script .comment :: r)) (hc : t[p]? = some c) (h92 : c ≠ 92) : Is t (p + 1) (.script (if c = 10 then .ahead else .comment) :: r) :=
  h.step hc h92 no_name_s (by by_cases q : c = 10 <;> simp [stepS, scriptS, q])
theorem Is.scriptH {t : List Nat} {p : Nat} {s : SS} {r : List Item} (h : Is t p (.script s :: r)) (hc : t[p]? = some 92) : IsH t (p + 1) (.script s :: r) := h.hold hc no_name_s
theorem IsH.comment {t : List Nat} {p c : Nat} {r : List Item} (h : IsH t p (.script .comment :: r)) (hc : t[p]? = some c) : Is t (p + 1) (.script .comment :: r) :=
  h.bent (l' := .script .comment :: r) hc no_name_s (by simp [bentS])

theorem isGap_facts {c : Nat} (h : isGap c = true) : c ≠ 92 ∧ c ≠ 10 ∧ c ≠ 59 ∧ c ≠ 35 ∧ c ≠ 93 ∧ c ≠ 34 ∧ c ≠ 123 ∧ c ≠ 36 ∧ c ≠ 91 := by
  unfold isGap at h
  simp only [Bool.or_eq_true, beq_iff_eq] at h
  walk_at "om"

theorem Is.gap {t : List Nat} {p c : Nat} {s : SS} {r : List Item} (h : Is t p (.script s :: r)) (hc : t[p]? = some c) (hg : isGap c = true) (hs : s ≠ .comment) : Is t (p + 1) (.script (if s = .ahead then .ahead else .gap) :: r) :=
  h.step hc (isGap_facts hg).1 no_name_s (by simp only [stepS, scriptS, if_neg hs, hg, if_true]; split <;> simp_all)
theorem IsH.contn {t : List Nat} {p : Nat} {s : SS} {r : List Item} (h : IsH t p (.script s :: r)) (hc : t[p]? = some 10) (hs : s ≠ .comment) : Is t (p + 1) (.script (if s = .ahead then .ahead else .gap) :: r) :=
  h.bent (l' := .script (if s = .ahead then .ahead else .gap) :: r) hc no_name_s (by simp [bentS, hs])

theorem Gaps.run {t : List Nat} {p q : Nat} {s : SS} {r : List Item} (g : Gaps t p q) (h : Is t p (.script s :: r)) (hs : s ≠ .comment) : q = p ∨ Is t q (.script (if s = .ahead then .ahead else .gap) :: r) := by
  induction g with
  | nil => exact .inl rfl
  | gap _ h1 h2 ih =>
    right
    rcases ih with rfl | ih
    · exact h.gap h1 h2 hs
    · have := ih.gap h1 h2 (by split <;> decide)
      by_cases q : s = .ahead <;> simpa [q] using this
  | cont _ h1 h2 ih =>
    right
    rcases ih with rfl | ih
    · exact (h.scriptH h1).contn h2 hs
    · have := (ih.scriptH h1).contn h2 (by split <;> decide)
      by_cases q : s = .ahead <;> simpa [q] using this
theorem Gaps.ahead {t : List Nat} {p q : Nat} {r : List Item} (g : Gaps t p q) (h : Is t p (.script .ahead :: r)) : Is t q (.script .ahead :: r) := by
  rcases g.run h (by decide) with rfl | g
  · exact h
  · exact g

noncomputable def ScrEnd (t : List Nat) (r : List Item) : Prop := ∃ s, (s = SS.ahead ∨ s = .comment) ∧ (Is t t.length (.script s :: r) ∨ IsH t t.length (.script s :: r))

theorem c_comment_behind (H : Prg K) {n t p cells P X} {r : List Item} (ht : t.length ≤ 2 ^ 20) (hp : t[p]? = some 35) (hs : Is t p (.script .ahead :: r))
    (h : ∀ q, p < q → q ≤ t.length → (Is t q (.script .ahead :: r) ∨ (q = t.length ∧ ScrEnd t r)) → P (.int (q : Nat)) cells) : K (n + 1) 94 [.str t, .int (p : Nat)] cells P X := by
  have hpl := lt_of_char hp
  have h1 : Is t (p + 1) (.script .comment :: r) := hs.step hp (by decide) no_name_s (by simp [stepS, scriptS, isGap])
  refine H.f94 rfl ?_
  unfold b_comment_behind
  walk_at "wp"
  refine s_whl (fun m σ => ∃ k : Nat, m = t.length + 1 - k ∧ σ = ⟨[some (.str t), some (.int k), some (.int t.length)], cells⟩ ∧ (k = p ∨ (p < k ∧ k ≤ t.length ∧ Is t k (.script .comment :: r)) ∨ (k = t.length + 1 ∧ IsH t t.length (.script .comment :: r)))) (t.length + 1 - p) ⟨p, rfl, rfl, .inl rfl⟩ ?_
  rintro m σ ⟨k, rfl, rfl, hk⟩
  walk_at "wp"
  refine t_split (fun hlt => ?_) (fun hlt => ?_)
  · replace hlt : k < t.length := by first | exact eq_of_beq hlt | exact ne_of_beq_false hlt | exact ltN hlt | exact nltN hlt | exact leN hlt | exact nleN hlt | exact eN hlt | exact neN hlt | exact nb1 hlt | exact nb2 hlt | simpa using hlt
    obtain ⟨c, hc⟩ := char_at hlt
    unfold b_comment_behind_1
    walk_at "wp"
    refine t_split (fun hb => ?_) (fun hb => ?_)
    · replace hb : c = 92 := by first | exact eq_of_beq hb | exact ne_of_beq_false hb | exact ltN hb | exact nltN hb | exact leN hb | exact nleN hb | exact eN hb | exact neN hb | exact nb1 hb | exact nb2 hb | simpa using hb
      subst hb
      walk_at "wp"
      refine ⟨_, ?_, k + 2, rfl, rfl, ?_⟩
      · walk_at "om"
      · rcases hk with rfl | ⟨h2, h3, h4⟩ | ⟨h2, h3⟩
        · rw [hp] at hc; cases hc
        · by_cases q : k + 1 < t.length
          · obtain ⟨c', hc'⟩ := char_at q
            exact .inr (.inl ⟨by walk_at "om", by walk_at "om", (h4.scriptH hc).comment hc'⟩)
          · have : t.length = k + 1 := by walk_at "om"
            exact .inr (.inr ⟨by walk_at "om", by rw [this]; exact h4.scriptH hc⟩)
        · walk_at "om"
    · replace hb : c ≠ 92 := by first | exact eq_of_beq hb | exact ne_of_beq_false hb | exact ltN hb | exact nltN hb | exact leN hb | exact nleN hb | exact eN hb | exact neN hb | exact nb1 hb | exact nb2 hb | simpa using hb
      walk_at "wp"
      refine t_split (fun hb2 => ?_) (fun hb2 => ?_)
      · replace hb2 : c = 10 := by first | exact eq_of_beq hb2 | exact ne_of_beq_false hb2 | exact ltN hb2 | exact nltN hb2 | exact leN hb2 | exact nleN hb2 | exact eN hb2 | exact neN hb2 | exact nb1 hb2 | exact nb2 hb2 | simpa using hb2
        subst hb2
        walk_at "wp"
        rcases hk with rfl | ⟨h2, h3, h4⟩ | ⟨h2, h3⟩
        · rw [hp] at hc; cases hc
        · exact h (k + 1) (by walk_at "om") (by walk_at "om") (.inl (h4.comment hc (by decide)))
        · walk_at "om"
      · replace hb2 : c ≠ 10 := by first | exact eq_of_beq hb2 | exact ne_of_beq_false hb2 | exact ltN hb2 | exact nltN hb2 | exact leN hb2 | exact nleN hb2 | exact eN hb2 | exact neN hb2 | exact nb1 hb2 | exact nb2 hb2 | simpa using hb2
        walk_at "wp"
        refine ⟨_, ?_, k + 1, rfl, rfl, ?_⟩
        · walk_at "om"
        · rcases hk with rfl | ⟨h2, h3, h4⟩ | ⟨h2, h3⟩
          · exact .inr (.inl ⟨by walk_at "om", by walk_at "om", h1⟩)
          · exact .inr (.inl ⟨by walk_at "om", by walk_at "om", by have := h4.comment hc hb; rwa [if_neg hb2] at this⟩)
          · walk_at "om"
  · replace hlt : ¬ k < t.length := by first | exact eq_of_beq hlt | exact ne_of_beq_false hlt | exact ltN hlt | exact nltN hlt | exact leN hlt | exact nleN hlt | exact eN hlt | exact neN hlt | exact nb1 hlt | exact nb2 hlt | simpa using hlt
    walk_at "wp"
    unfold b_comment_behind_2
    walk_at "wp"
    refine h t.length hpl (Nat.le_refl _) (.inr ⟨rfl, ?_⟩)
    rcases hk with rfl | ⟨h2, h3, h4⟩ | ⟨h2, h3⟩
    · walk_at "om"
    · exact ⟨.comment, .inr rfl, .inl (by rw [show t.length = k by walk_at "om"]; exact h4)⟩
    · exact ⟨.comment, .inr rfl, .inr h3⟩

noncomputable def Quiet (t : List Nat) (q : Nat) : Prop := NoGap t q ∧ t[q]? ≠ some 10 ∧ t[q]? ≠ some 59 ∧ t[q]? ≠ some 35

theorem c_skip_stay (H : Prg K) {n t p cells P X} (ht : t.length ≤ 2 ^ 20) (hp : p ≤ t.length) (hq : Quiet t p) (h : P (.int (p : Nat)) cells) : K (n + 3) 101 [.str t, .int (p : Nat)] cells P X := by
  refine H.f101 rfl ?_
  unfold b_skip_to_command
  walk_at "wp"
  refine c_skip_gaps H ht hp fun q h1 h2 h3 h4 => ?_
  obtain rfl := h3.same hq.1
  walk_at "wp"
  refine s_whl (fun m σ => σ = ⟨[some (.str t), some (.int q)], cells⟩) 0 rfl ?_
  rintro m σ rfl
  walk_at "wp"
  simp only [seg1_eq]
  refine t_neg ?_ ?_
  · obtain ⟨-, a, b, c⟩ := hq
    simp [a, b, c]
  walk_at "wp"
  unfold b_skip_to_command_3
  walk_at "wp"
  exact h

theorem c_skip_to_command (H : Prg K) {n t p cells P X} {r : List Item} (ht : t.length ≤ 2 ^ 20) (hp : p ≤ t.length) (hs : Is t p (.script .ahead :: r))
    (h : ∀ q, p ≤ q → q ≤ t.length → Quiet t q → ((q < t.length ∧ Is t q (.script .ahead :: r)) ∨ (q = t.length ∧ ScrEnd t r)) → P (.int (q : Nat)) cells) : K (n + 3) 101 [.str t, .int (p : Nat)] cells P X := by
  refine H.f101 rfl ?_
  unfold b_skip_to_command
  walk_at "wp"
  refine c_skip_gaps H ht hp fun q h1 h2 h3 h4 => ?_
  have hs1 := h3.ahead hs
  clear h3
  walk_at "wp"
  refine s_whl (fun m σ => ∃ k : Nat, m = t.length - k ∧ p ≤ k ∧ k ≤ t.length ∧ NoGap t k ∧ (Is t k (.script .ahead :: r) ∨ (k = t.length ∧ ScrEnd t r)) ∧ σ = ⟨[some (.str t), some (.int k)], cells⟩) (t.length - q) ⟨q, rfl, h1, h2, h4, .inl hs1, rfl⟩ ?_
  clear hs1 h4 h1 h2 q
  rintro m σ ⟨k, rfl, h1, h2, h3, h4, rfl⟩
  walk_at "wp"
  simp only [seg1_eq]
  refine t_split (fun hin => ?_) (fun hin => ?_)
  · obtain ⟨c, hc⟩ : ∃ c, t[k]? = some c := by
      cases q : t[k]? with
      | none => rw [q] at hin; simp at hin
      | some c => exact ⟨c, rfl⟩
    have hkl := lt_of_char hc
    rw [hc] at hin
    have hin : c = 10 ∨ c = 59 ∨ c = 35 := by simpa [or_assoc] using hin
    have h4 : Is t k (.script .ahead :: r) := h4.resolve_right (by walk_at "om")
    unfold b_skip_to_command_2
    walk_at "wp"
    refine t_split (fun hb => ?_) (fun hb => ?_)
    · replace hb : c = 35 := by first | exact eq_of_beq hb | exact ne_of_beq_false hb | exact ltN hb | exact nltN hb | exact leN hb | exact nleN hb | exact eN hb | exact neN hb | exact nb1 hb | exact nb2 hb | simpa using hb
      subst hb
      walk_at "wp"
      refine c_comment_behind H ht hc h4 fun q g1 g2 g3 => ?_
      walk_at "wp"
      unfold b_skip_to_command_1
      walk_at "wp"
      refine c_skip_gaps H ht g2 fun q' k1 k2 k3 k4 => ?_
      walk_at "wp"
      refine ⟨_, ?_, q', rfl, by walk_at "om", k2, k4, ?_, rfl⟩
      · walk_at "om"
      · rcases g3 with g3 | ⟨rfl, g3⟩
        · exact .inl (k3.ahead g3)
        · exact .inr ⟨by walk_at "om", g3⟩
    · replace hb : c ≠ 35 := by first | exact eq_of_beq hb | exact ne_of_beq_false hb | exact ltN hb | exact nltN hb | exact leN hb | exact nleN hb | exact eN hb | exact neN hb | exact nb1 hb | exact nb2 hb | simpa using hb
      walk_at "wp"
      unfold b_skip_to_command_1
      walk_at "wp"
      refine c_skip_gaps H ht (by walk_at "om") fun q' k1 k2 k3 k4 => ?_
      walk_at "wp"
      refine ⟨_, ?_, q', rfl, by walk_at "om", k2, k4, .inl (k3.ahead ?_), rfl⟩
      · walk_at "om"
      · refine h4.step hc (by walk_at "om") no_name_s ?_
        rcases hin with rfl | rfl | rfl
        · simp [stepS, scriptS, isGap]
        · simp [stepS, scriptS, isGap]
        · exact absurd rfl hb
  · walk_at "wp"
    unfold b_skip_to_command_3
    walk_at "wp"
    refine h k h1 h2 ⟨h3, ?_⟩ ?_
    · refine ⟨fun q => ?_, fun q => ?_, fun q => ?_⟩ <;> (rw [q] at hin; simp at hin)
    · rcases h4 with h4 | ⟨rfl, h4⟩
      · by_cases q : k < t.length
        · exact .inl ⟨q, h4⟩
        · have : k = t.length := by walk_at "om"
          subst this
          exact .inr ⟨rfl, .ahead, .inl rfl, .inl h4⟩
      · exact .inr ⟨rfl, h4⟩
end
section
variable {K : Nat → Call}


theorem isNm_digit (c : Nat) : isNm c = (c == 95 || decide (0 ≤ digitV c)) := by
  unfold isNm digitV
  rw [Bool.eq_iff_iff]
  simp only [Bool.or_eq_true, Bool.and_eq_true, decide_eq_true_eq, beq_iff_eq]
  constructor
  · intro h
    by_cases q : c = 95
    · exact .inl q
    · right
      split
      · walk_at "om"
      · split
        · walk_at "om"
        · split
          · walk_at "om"
          · walk_at "om"
  · intro h
    rcases h with h | h
    · exact .inr h
    · left
      split at h
      · walk_at "om"
      · split at h
        · walk_at "om"
        · split at h
          · walk_at "om"
          · walk_at "om"
theorem isNm_facts {c : Nat} (h : isNm c = true) : c ≠ 92 ∧ c ≠ 123 ∧ c ≠ 40 ∧ c ≠ 58 := by
  unfold isNm at h
  simp only [Bool.or_eq_true, Bool.and_eq_true, decide_eq_true_eq, beq_iff_eq] at h
  walk_at "om"

noncomputable def Calm (t : List Nat) (q : Nat) (v : Int) : Prop :=
  v = -1 ∨ (0 ≤ v ∧ v ≤ 3 ∧ (t[q]? = some 123 → v ≠ 0) ∧ (t[q]? = some 40 → v = 2) ∧ (∀ c, t[q]? = some c → isNm c = true → v = 2) ∧ (t[q]? = some 58 → v ≤ 1 ∧ t[q + 1]? ≠ some 58))

theorem Is.nameChar {t : List Nat} {p c : Nat} {k : PK} {v : Int} {r : List Item} (h : Is t p (.parts k v :: r)) (hc : t[p]? = some c) (hn : isNm c = true) (hv : 0 ≤ v) (h2 : v ≠ 2) : Is t (p + 1) (.parts k 1 :: r) := by
  obtain ⟨f1, f2, f3, f4⟩ := isNm_facts hn
  exact h.step hc f1 no_name_p (by simp [stepS, partsS, goesOn, hv, h2, hn, f2, f3, f4])
theorem Is.colon {t : List Nat} {p : Nat} {k : PK} {v : Int} {r : List Item} (h : Is t p (.parts k v :: r)) (hc : t[p]? = some 58) (hv : 0 ≤ v) : Is t (p + 1) (.parts k (if v ≥ 2 then 3 else 2) :: r) :=
  h.step hc (by decide) no_name_p (by simp [stepS, partsS, goesOn, hv])

inductive NmV (t : List Nat) (p j : Nat) : Int → Prop
  | start (h : j = p) : NmV t p j 0
  | word (h : p < j) : NmV t p j 1
  | cols (h : p < j) (h2 : t[j]? ≠ some 58) : NmV t p j 3
theorem NmV.out {t : List Nat} {p j : Nat} {v : Int} (h : NmV t p j v) : (j = p ∧ v = 0) ∨ (p < j ∧ (v = 1 ∨ v = 3)) := by
  cases h with
  | start h => exact .inl ⟨h, rfl⟩
  | word h => exact .inr ⟨h, .inl rfl⟩
  | cols h => exact .inr ⟨h, .inr rfl⟩
theorem NmV.two {t : List Nat} {p j : Nat} {v : Int} (h : NmV t p j v) : 0 ≤ v ∧ v ≠ 2 := by
  cases h <;> exact ⟨by decide, by decide⟩
theorem NmV.col {t : List Nat} {p j : Nat} {v : Int} (h : NmV t p j v) (hc : t[j]? = some 58) : v ≤ 1 := by
  cases h with
  | cols h h2 => exact absurd hc h2
  | _ => decide
noncomputable abbrev stN (t : List Nat) (j : Nat) (cells : List Cell) : St := ⟨[some (.str t), some (.int j)], cells⟩
inductive NmI (t : List Nat) (p : Nat) (k : PK) (r : List Item) (cells : List Cell) : Nat → St → Prop
  | mk {j : Nat} {v : Int} (h1 : p ≤ j) (h2 : j ≤ t.length) (h3 : Is t j (.parts k v :: r)) (h4 : NmV t p j v) : NmI t p k r cells (t.length - j) (stN t j cells)
theorem NmI.of {t : List Nat} {p n j : Nat} {k : PK} {r : List Item} {cells : List Cell} {v : Int} (h1 : p ≤ j) (h2 : j ≤ t.length) (h3 : Is t j (.parts k v :: r)) (h4 : NmV t p j v) (hn : n < j) : ∃ m, m < t.length - n ∧ NmI t p k r cells m (stN t j cells) :=
  ⟨_, Nat.sub_lt_sub_left (Nat.lt_of_lt_of_le hn h2) hn, .mk h1 h2 h3 h4⟩
inductive ColI (t : List Nat) (a : Nat) (k : PK) (r : List Item) (cells : List Cell) : Nat → St → Prop
  | mk {i : Nat} (g1 : a ≤ i) (g2 : i ≤ t.length) (g3 : Is t i (.parts k 3 :: r)) : ColI t a k r cells (t.length - i) (stN t i cells)

theorem rn_colons {K : Call} {X : XP} {Z : Fl → St → Prop} {t : List Nat} {p j : Nat} {k : PK} {r : List Item} {cells : List Cell} (ht : t.length ≤ 2 ^ 20) (h1 : p ≤ j) (h2 : j + 2 ≤ t.length) (h3 : Is t (j + 2) (.parts k 3 :: r)) (hZ : ∀ σ, (∃ m, m < t.length - j ∧ NmI t p k r cells m σ) → Z .next σ) :
    wpS K (.whl (.cmp .eq (.slice (.loc 0) (.loc 1) (.bin .add (.loc 1) (.cst (.int 1)))) (.cst (.str [58]))) b_read_name_1) (stN t (j + 2) cells) Z X := by
  refine s_whl (ColI t (j + 2) k r cells) (t.length - (j + 2)) (.mk (Nat.le_refl _) h2 h3) ?_
  rintro _ _ ⟨g1, g2, g3⟩
  rename_i i
  walk_at "wp"
  rw [seg1_eq]
  refine t_split (fun hi => ?_) (fun hi => ?_)
  · replace hi : t[i]? = some 58 := eq_of_beq hi
    have hl := lt_of_char hi
    unfold b_read_name_1
    walk_at "wp"
    have := g3.colon hi (by decide)
    rw [if_pos (by decide)] at this
    exact ⟨_, Nat.sub_lt_sub_left hl (Nat.lt_succ_self _), .mk (Nat.le_succ_of_le g1) hl this⟩
  · replace hi : t[i]? ≠ some 58 := ne_of_beq_false hi
    walk_at "wp"
    have hj : j < i := Nat.lt_of_succ_lt g1
    exact hZ _ (NmI.of (Nat.le_trans h1 (Nat.le_of_lt hj)) g2 g3 (.cols (Nat.lt_of_le_of_lt h1 hj) hi) hj)

theorem rn_turn (H : Prg K) {n : Nat} {X : XP} {Z : Fl → St → Prop} {t : List Nat} {p j : Nat} {k : PK} {r : List Item} {cells : List Cell} {v : Int} (ht : t.length ≤ 2 ^ 20) (hlt : j < t.length) (h1 : p ≤ j) (h3 : Is t j (.parts k v :: r)) (h4 : NmV t p j v)
    (hZ : ∀ σ, (∃ m, m < t.length - j ∧ NmI t p k r cells m σ) → Z .next σ) (hR : (∀ c, t[j]? = some c → isNm c = false) → (t[j]? = some 58 → v ≤ 1 ∧ t[j + 1]? ≠ some 58) → Z (.ret (.int (j : Nat))) (stN t j cells)) :
    wpS (K (n + 1)) b_read_name_2 (stN t j cells) Z X := by
  obtain ⟨c, hc⟩ := char_at hlt
  obtain ⟨hv0, hv2⟩ := h4.two
  have nm : isNm c = true → Z .next (stN t (j + 1) cells) := fun hn => hZ _ (NmI.of (Nat.le_succ_of_le h1) hlt (h3.nameChar hc hn hv0 hv2) (.word (Nat.lt_succ_of_le h1)) (Nat.lt_succ_self _))
  have other : isNm c = false → wpS (K (n + 1)) (.ite (.cmp .eq (.slice (.loc 0) (.loc 1) (.bin .add (.loc 1) (.cst (.int 2)))) (.cst (.str [58, 58]))) (.seq (.aug 1 .add (.cst (.int 2)))
  (.whl (.cmp .eq (.slice (.loc 0) (.loc 1) (.bin .add (.loc 1) (.cst (.int 1)))) (.cst (.str [58]))) b_read_name_1)) (.ret (.loc 1))) (stN t j cells) Z X := fun hn => by
    walk_at "wp"
    rw [seg2_eq]
    refine t_split (fun hb => ?_) (fun hb => ?_)
    · simp only [Bool.and_eq_true, beq_iff_eq] at hb
      walk_at "wp"
      have k1 := h3.colon hb.1 hv0
      rw [if_neg (by have := h4.col hb.1; walk_at "om")] at k1
      have k2 := k1.colon hb.2 (by decide)
      rw [if_pos (by decide)] at k2
      exact rn_colons ht h1 (lt_of_char hb.2) k2 hZ
    · walk_at "wp"
      exact hR (fun c' hc' => by rw [hc] at hc'; cases hc'; exact hn) fun h58 => ⟨h4.col h58, fun h58' => by rw [h58, h58'] at hb; exact nomatch hb⟩
  unfold b_read_name_2
  walk_at "wp"
  refine t_split (fun hb => ?_) (fun hb => ?_)
  · walk_at "wp"
    exact nm (by rw [isNm_digit, hb]; rfl)
  · walk_at "wp"
    refine c_digit H ?_
    walk_at "wp"
    rw [isNm_digit, hb, Bool.false_or] at nm other
    refine t_split (fun hb2 => ?_) (fun hb2 => ?_)
    · walk_at "wp"
      exact nm hb2
    · exact other hb2

theorem c_read_name (H : Prg K) {n t p cells P X} {k : PK} {r : List Item} (ht : t.length ≤ 2 ^ 20) (hp : p ≤ t.length) (hs : Is t p (.parts k 0 :: r))
    (h : ∀ q v, p ≤ q → q ≤ t.length → Is t q (.parts k v :: r) → ((q = p ∧ v = 0) ∨ (p < q ∧ (v = 1 ∨ v = 3))) → (∀ c, t[q]? = some c → isNm c = false) → (t[q]? = some 58 → v ≤ 1 ∧ t[q + 1]? ≠ some 58) → P (.int (q : Nat)) cells) :
    K (n + 2) 108 [.str t, .int (p : Nat)] cells P X := by
  refine H.f108 rfl ?_
  unfold b_read_name
  walk_at "wp"
  refine s_whl (NmI t p k r cells) (t.length - p) (.mk (Nat.le_refl _) hp hs (.start rfl)) ?_
  rintro _ _ ⟨h1, h2, h3, h4⟩
  rename_i j v
  walk_at "wp"
  refine t_split (fun hlt => ?_) (fun hlt => ?_)
  · exact rn_turn H ht (ltN hlt) h1 h3 h4 (fun _ q => q) fun a b => h j v h1 h2 h3 h4.out a b
  · walk_at "wp"
    unfold b_read_name_3
    walk_at "wp"
    have e : t[j]? = none := List.getElem?_eq_none_iff.mpr (Nat.le_of_not_lt (nltN hlt))
    exact h j v h1 h2 h3 h4.out (fun c hc => by rw [e] at hc; exact nn hc) (fun q => by rw [e] at q; exact nn q)

noncomputable def isHex (c : Nat) : Bool := decide (0 ≤ digitV c) && decide (digitV c ≤ 15)

structure HexAt (t : List Nat) (a q : Nat) (v : Int) : Prop where
  h2 : q ≤ t.length
  h3 : 0 ≤ v
  h4 : v ≤ 1114111
  h5 : ∀ j d, a ≤ j → j < q → t[j]? = some d → isHex d = true
theorem HexAt.step {t : List Nat} {a q d : Nat} {v w : Int} (h : HexAt t a q v) (hd : t[q]? = some d) (x : isHex d = true) (h3 : 0 ≤ w) (h4 : w ≤ 1114111) : HexAt t a (q + 1) w :=
  ⟨lt_of_char hd, h3, h4, fun j d' g1 g2 g3 => by
    by_cases g : j = q
    · subst g; rw [hd] at g3; cases g3; exact x
    · exact h.h5 j d' g1 (Nat.lt_of_le_of_ne (Nat.le_of_lt_succ g2) g) g3⟩
theorem isHex_of {d : Nat} {m : Int} (hm : m ≤ 15) (h1 : decide (digitV d < 0) = false) (h2 : decide (digitV d > m) = false) : isHex d = true ∧ 0 ≤ digitV d ∧ digitV d ≤ m := by
  have a : 0 ≤ digitV d := Int.not_lt.mp (of_decide_eq_false h1)
  have b : digitV d ≤ m := Int.not_lt.mp (of_decide_eq_false h2)
  refine ⟨?_, a, b⟩
  unfold isHex
  rw [decide_eq_true a, decide_eq_true (Int.le_trans b hm)]; rfl

noncomputable abbrev stX (t : List Nat) (p : Nat) (most : Int) (q : Nat) (v : Int) (o : Option D) (cells : List Cell) : St := ⟨[some (.str t), some (.int p), some (.int most), some (.int q), some (.int v), o], cells⟩
inductive HexI (t : List Nat) (p : Nat) (most : Int) (cells : List Cell) : Nat → St → Prop
  | mk {q : Nat} {v : Int} {o : Option D} (h1 : p + 1 ≤ q) (h : HexAt t (p + 1) q v) : HexI t p most cells (t.length - q) (stX t p most q v o cells)

theorem hex_fin {K : Call} {t : List Nat} {p q c : Nat} {most v : Int} {o : Option D} {cells : List Cell} {Z : Fl → St → Prop} {X : XP} (ht : t.length ≤ 2 ^ 20) (hp : t[p]? = some c) (h : HexAt t (p + 1) q v) (hR : ∀ x σ, σ.cells = cells → Z (.ret (.tup [.str [x], .int (q : Nat)])) σ) :
    wpS K b_hex_sign_4 (stX t p most q v o cells) Z X := by
  have hpl := lt_of_char hp
  unfold b_hex_sign_4
  walk_at "wp"
  refine t_split (fun hb => ?_) (fun hb => ?_)
  · walk_at "wp"
    exact hR c _ rfl
  · walk_at "wp"
    unfold b_hex_sign_3
    walk_at "wp"
    refine ⟨v.toNat, by rw [Int.toNat_of_nonneg h.h3], Int.toNat_le.mpr h.h4, ?_⟩
    walk_at "wp"
    exact hR v.toNat _ rfl
theorem hex_turn (H : Prg K) {n : Nat} {t : List Nat} {p q : Nat} {most v : Int} {o : Option D} {cells : List Cell} {Z : Fl → St → Prop} {X : XP} (ht : t.length ≤ 2 ^ 20) (h1 : p + 1 ≤ q) (h : HexAt t (p + 1) q v) (hlt : q < t.length) (hv : v ≤ 69631)
    (hZ : ∀ σ, (∃ m, m < t.length - q ∧ HexI t p most cells m σ) → Z .next σ) (hB : ∀ o, Z .brk (stX t p most q v o cells)) : wpS (K (n + 1)) b_hex_sign_2 (stX t p most q v o cells) Z X := by
  obtain ⟨d, hd⟩ := char_at hlt
  unfold b_hex_sign_2
  walk_at "wp"
  refine c_digit H ?_
  walk_at "wp"
  refine t_split (fun he => ?_) (fun he => ?_)
  · walk_at "wp"; exact hB _
  · walk_at "wp"
    refine t_split (fun hf => ?_) (fun hf => ?_)
    · walk_at "wp"; exact hB _
    · walk_at "wp"
      unfold b_hex_sign_1
      walk_at "wp"
      refine v_mul (by decide) ?_
      walk_at "wp"
      refine v_add ?_
      walk_at "wp"
      obtain ⟨x, g1, g2⟩ := isHex_of (by decide) he hf
      have h3 := h.h3
      exact hZ _ ⟨_, Nat.sub_lt_sub_left hlt (Nat.lt_succ_self _), .mk (Nat.le_succ_of_le h1) (h.step hd x (by walk_at "om") (by walk_at "om"))⟩

theorem hex_main (H : Prg K) {n : Nat} {t : List Nat} {p c : Nat} {most : Int} {cells : List Cell} {P : D → List Cell → Prop} {X : XP} (ht : t.length ≤ 2 ^ 20) (hp : t[p]? = some c) (h : ∀ x q, p + 1 ≤ q → q ≤ t.length → (∀ j d, p + 1 ≤ j → j < q → t[j]? = some d → isHex d = true) → P (.tup [.str [x], .int (q : Nat)]) cells) :
    wpS (K (n + 1)) b_hex_sign_5 { loc := [some (.str t), some (.int p), some (.int most), none, none, none], cells := cells } (fun fl σ => P fl.val σ.cells) X := by
  unfold b_hex_sign_5
  walk_at "wp"
  refine s_whl (HexI t p most cells) (t.length - (p + 1)) (.mk (Nat.le_refl _) ⟨lt_of_char hp, Int.le_refl _, by decide, fun j d h1 h2 => absurd h1 (Nat.not_le_of_lt h2)⟩) ?_
  rintro _ _ ⟨h1, h0⟩
  rename_i q v o
  have fin : ∀ o, wpS (K (n + 1)) b_hex_sign_4 (stX t p most q v o cells) (fun fl σ => P fl.val σ.cells) X := fun o => hex_fin ht hp h0 fun x σ e => by
    show P _ σ.cells
    rw [e]
    exact h x q h1 h0.h2 h0.h5
  have hpl := lt_of_char hp
  walk_at "wp"
  refine t_split (fun ha => ?_) (fun ha => ?_)
  · walk_at "wp"
    refine t_split (fun hb => ?_) (fun hb => ?_)
    · walk_at "wp"
      refine t_split (fun hc => ?_) (fun hc => ?_)
      · exact hex_turn H ht h1 h0 (ltN hb) (of_decide_eq_true hc) (fun _ q => q) fin
      · walk_at "wp"; exact fin _
    · walk_at "wp"; exact fin _
  · walk_at "wp"; exact fin _

theorem c_hex_sign (H : Prg K) {n t p c cells P X} (ht : t.length ≤ 2 ^ 20) (hp : t[p]? = some c) (h : ∀ x q, p + 1 ≤ q → q ≤ t.length → (∀ j d, p + 1 ≤ j → j < q → t[j]? = some d → isHex d = true) → P (.tup [.str [x], .int (q : Nat)]) cells) :
    K (n + 2) 59 [.str t, .int (p : Nat)] cells P X := by
  have hpl := lt_of_char hp
  refine H.f59 rfl ?_
  unfold b_hex_sign
  walk_at "wp"
  refine t_split (fun ha => ?_) (fun ha => ?_)
  · walk_at "wp"
    refine v_add ?_
    walk_at "wp"
    exact hex_main H ht hp h
  · walk_at "wp"
    refine t_split (fun hb => ?_) (fun hb => ?_)
    · walk_at "wp"
      refine v_add ?_
      walk_at "wp"
      exact hex_main H ht hp h
    · walk_at "wp"
      exact hex_main H ht hp h

noncomputable abbrev stO (t : List Nat) (p q : Nat) (v : Int) (o : Option D) (cells : List Cell) : St := ⟨[some (.str t), some (.int p), some (.int q), some (.int v), o], cells⟩
inductive OctI (t : List Nat) (p : Nat) (cells : List Cell) : Nat → St → Prop
  | mk {q : Nat} {v : Int} {o : Option D} (h1 : p ≤ q) (h0 : q = p → v = 0) (h : HexAt t (p + 1) q v) : OctI t p cells (t.length - q) (stO t p q v o cells)

theorem oct_turn (H : Prg K) {n : Nat} {t : List Nat} {p q c : Nat} {v : Int} {o : Option D} {cells : List Cell} {Z : Fl → St → Prop} {X : XP} (ht : t.length ≤ 2 ^ 20) (hp : t[p]? = some c) (ho : 48 ≤ c ∧ c ≤ 55) (h1 : p ≤ q) (h0 : HexAt t (p + 1) q v) (hlt : q < t.length) (hv : v < 32)
    (hZ : ∀ σ, (∃ m, m < t.length - q ∧ OctI t p cells m σ) → Z .next σ) (hB : p < q → ∀ o, Z .brk (stO t p q v o cells)) : wpS (K (n + 1)) b_octal_sign_2 (stO t p q v o cells) Z X := by
  obtain ⟨d, hd⟩ := char_at hlt
  have dc : q = p → 0 ≤ digitV d ∧ digitV d ≤ 7 := fun g => by
    rw [g, hp] at hd; cases hd
    unfold digitV; rw [if_pos (by walk_at "om")]; walk_at "om"
  have lt : ¬ q = p → p < q := fun g => Nat.lt_of_le_of_ne h1 (Ne.symm g)
  unfold b_octal_sign_2
  walk_at "wp"
  refine c_digit H ?_
  walk_at "wp"
  refine t_split (fun he => ?_) (fun he => ?_)
  · walk_at "wp"; exact hB (lt fun g => Int.not_lt.mpr (dc g).1 (of_decide_eq_true he)) _
  · walk_at "wp"
    refine t_split (fun hf => ?_) (fun hf => ?_)
    · walk_at "wp"; exact hB (lt fun g => Int.not_lt.mpr (dc g).2 (of_decide_eq_true hf)) _
    · walk_at "wp"
      unfold b_octal_sign_1
      walk_at "wp"
      refine v_mul (by decide) ?_
      walk_at "wp"
      refine v_add ?_
      walk_at "wp"
      obtain ⟨x, g1, g2⟩ := isHex_of (by decide) he hf
      have h3 := h0.h3
      exact hZ _ ⟨_, Nat.sub_lt_sub_left hlt (Nat.lt_succ_self _), .mk (Nat.le_succ_of_le h1) (fun g => absurd g (Nat.ne_of_gt (Nat.lt_succ_of_le h1))) (h0.step hd x (by walk_at "om") (by walk_at "om"))⟩

theorem c_octal_sign (H : Prg K) {n t p c cells P X} (ht : t.length ≤ 2 ^ 20) (hp : t[p]? = some c) (ho : 48 ≤ c ∧ c ≤ 55) (h : ∀ x q, p + 1 ≤ q → q ≤ t.length → (∀ j d, p + 1 ≤ j → j < q → t[j]? = some d → isHex d = true) → P (.tup [.str [x], .int (q : Nat)]) cells) :
    K (n + 2) 66 [.str t, .int (p : Nat)] cells P X := by
  have hpl := lt_of_char hp
  refine H.f66 rfl ?_
  unfold b_octal_sign
  walk_at "wp"
  refine s_whl (OctI t p cells) (t.length - p) (.mk (Nat.le_refl _) (fun _ => rfl) ⟨Nat.le_of_lt hpl, Int.le_refl _, by decide, fun j d h1 h2 => absurd (Nat.lt_of_succ_le h1) (Nat.lt_asymm h2)⟩) ?_
  rintro _ _ ⟨h1, hz, h0⟩
  rename_i q v o
  have fin : p < q → ∀ o, wpS (K (n + 1)) b_octal_sign_3 (stO t p q v o cells) (fun fl σ => P fl.val σ.cells) X := fun hq o => by
    unfold b_octal_sign_3
    walk_at "wp"
    refine ⟨v.toNat, by rw [Int.toNat_of_nonneg h0.h3], Int.toNat_le.mpr h0.h4, ?_⟩
    walk_at "wp"
    exact h v.toNat q hq h0.h2 h0.h5
  have lt : ¬ q = p → p < q := fun g => Nat.lt_of_le_of_ne h1 (Ne.symm g)
  walk_at "wp"
  refine t_split (fun ha => ?_) (fun ha => ?_)
  · walk_at "wp"
    refine t_split (fun hb => ?_) (fun hb => ?_)
    · walk_at "wp"
      refine t_split (fun hc => ?_) (fun hc => ?_)
      · exact oct_turn H ht hp ho h1 h0 (ltN hb) (of_decide_eq_true hc) (fun _ q => q) fin
      · walk_at "wp"; exact fin (lt fun g => of_decide_eq_false hc (by rw [hz g]; decide)) _
    · walk_at "wp"; exact fin (lt fun g => nltN hb (g ▸ hpl)) _
  · walk_at "wp"; exact fin (lt fun g => nltN ha (by rw [g]; exact Nat.lt_add_of_pos_right (by decide))) _

theorem findFrom_lt {x : Nat} : ∀ {l : List Nat} {i j : Nat}, findFrom x l i = some j → j < i + l.length
  | [], _, _, h => nn h
  | y :: l, i, j, h => by
    unfold findFrom at h
    by_cases q : y = x
    · rw [if_pos q] at h; cases h
      exact Nat.lt_add_of_pos_right (Nat.succ_pos _)
    · rw [if_neg q] at h
      have := findFrom_lt h
      rw [List.length_cons]; walk_at "om"
theorem find7 (x : Nat) : findD [97, 98, 102, 110, 114, 116, 118] x 0 = -1 ∨ (∃ k : Nat, k < 7 ∧ findD [97, 98, 102, 110, 114, 116, 118] x 0 = k) := by
  unfold findD
  cases e : findFrom x (List.drop 0 [97, 98, 102, 110, 114, 116, 118]) 0 with
  | none => exact .inl rfl
  | some k => exact .inr ⟨k, Nat.lt_of_lt_of_le (findFrom_lt e) (by decide), rfl⟩

noncomputable def BackOk (t : List Nat) (p q : Nat) : Prop := (p + 1 = t.length ∧ q = p + 1) ∨ (p + 2 ≤ q ∧ q ≤ t.length ∧ ∀ j d, p + 2 ≤ j → j < q → t[j]? = some d → isHex d = true ∨ (t[p + 1]? = some 10 ∧ (d = 32 ∨ d = 9)))

noncomputable abbrev stL (t : List Nat) (p : Nat) (kn : Int) (q : Nat) (cells : List Cell) : St := ⟨[some (.str t), some (.int p), some (.str [10]), some (.int kn), some (.int q)], cells⟩
inductive LnI (t : List Nat) (p : Nat) (kn : Int) (cells : List Cell) : Nat → St → Prop
  | mk {q : Nat} (h1 : p + 2 ≤ q) (h2 : q ≤ t.length) (h3 : ∀ j d, p + 2 ≤ j → j < q → t[j]? = some d → d = 32 ∨ d = 9) : LnI t p kn cells (t.length - q) (stL t p kn q cells)

theorem back_line {K : Call} {t : List Nat} {p : Nat} {kn : Int} {cells : List Cell} {Z : Fl → St → Prop} {X : XP} (ht : t.length ≤ 2 ^ 20) (hc : t[p + 1]? = some 10) (hR : ∀ x q σ, σ.cells = cells → BackOk t p q → Z (.ret (.tup [.str [x], .int (q : Nat)])) σ) :
    wpS K (.seq (.whl (.cmp .inn (.slice (.loc 0) (.loc 4) (.bin .add (.loc 4) (.cst (.int 1)))) (.tup (.cons (.cst (.str [32])) (.cons (.cst (.str [9])) .nil)))) b_backslash_1) b_backslash_2) (stL t p kn (p + 2) cells) Z X := by
  have hpl := lt_of_char hc
  refine s_seq (s_whl (LnI t p kn cells) (t.length - (p + 2)) (.mk (Nat.le_refl _) hpl fun j d h1 h2 => absurd h1 (Nat.not_le_of_lt h2)) ?_)
  rintro _ _ ⟨h1, h2, h3⟩
  rename_i q
  walk_at "wp"
  simp only [seg1_eq]
  refine t_split (fun hq => ?_) (fun hq => ?_)
  · obtain ⟨d, hd⟩ : ∃ d, t[q]? = some d := by
      cases g : t[q]? with
      | none => rw [g] at hq; exact nomatch hq
      | some c => exact ⟨c, rfl⟩
    rw [hd] at hq
    have hql := lt_of_char hd
    unfold b_backslash_1
    walk_at "wp"
    refine ⟨_, Nat.sub_lt_sub_left hql (Nat.lt_succ_self _), .mk (Nat.le_succ_of_le h1) hql fun j d' g1 g2 g3 => ?_⟩
    by_cases g : j = q
    · subst g; rw [hd] at g3; cases g3; simpa using hq
    · exact h3 j d' g1 (Nat.lt_of_le_of_ne (Nat.le_of_lt_succ g2) g) g3
  · walk_at "wp"
    unfold b_backslash_2
    walk_at "wp"
    exact hR _ _ _ rfl (.inr ⟨h1, h2, fun j d g1 g2 g3 => .inr ⟨hc, h3 j d g1 g2 g3⟩⟩)

theorem back_two {t : List Nat} {p : Nat} (h : p + 1 < t.length) : BackOk t p (p + 2) := .inr ⟨Nat.le_refl _, h, fun j d h1 h2 => absurd h1 (Nat.not_le_of_lt h2)⟩
theorem back_5 (H : Prg K) {n : Nat} {t : List Nat} {p c : Nat} {kn : Int} {o : Option D} {cells : List Cell} {P : D → List Cell → Prop} {X : XP} (ht : t.length ≤ 2 ^ 20) (hc : t[p + 1]? = some c) (h : ∀ x q, BackOk t p q → P (.tup [.str [x], .int (q : Nat)]) cells) :
    wpS (K (n + 2)) b_backslash_5 ⟨[some (.str t), some (.int p), some (.str [c]), some (.int kn), o], cells⟩ (fun fl σ => P fl.val σ.cells) X := by
  have hpl := lt_of_char hc
  unfold b_backslash_5
  walk_at "wp"
  refine t_split (fun hb2 => ?_) (fun hb2 => ?_)
  · walk_at "wp"
    refine c_hex_sign H ht hc fun x q g1 g2 g3 => ?_
    walk_at "wp"
    exact h x q (.inr ⟨g1, g2, fun j d k1 k2 k3 => .inl (g3 j d k1 k2 k3)⟩)
  · walk_at "wp"
    unfold b_backslash_4
    walk_at "wp"
    refine t_split (fun hb3 => ?_) (fun hb3 => ?_)
    · walk_at "wp"
      refine c_octal_sign H ht hc ?_ fun x q g1 g2 g3 => ?_
      · simp only [Bool.or_eq_true, beq_iff_eq, List.cons.injEq, and_true, Bool.or_false] at hb3
        walk_at "om"
      walk_at "wp"
      exact h x q (.inr ⟨g1, g2, fun j d k1 k2 k3 => .inl (g3 j d k1 k2 k3)⟩)
    · walk_at "wp"
      unfold b_backslash_3
      walk_at "wp"
      exact h _ _ (back_two hpl)

theorem c_backslash (H : Prg K) {n t p cells P X} (ht : t.length ≤ 2 ^ 20) (hp : p < t.length) (h : ∀ x q, BackOk t p q → P (.tup [.str [x], .int (q : Nat)]) cells) :
    K (n + 3) 73 [.str t, .int (p : Nat)] cells P X := by
  refine H.f73 rfl ?_
  unfold b_backslash
  have e : (t.take (p + 2)).drop (p + 1) = (t[p + 1]?).toList := seg1 t (p + 1)
  walk_at "wp"
  rw [e]
  cases hc : t[p + 1]? with
  | none =>
    have : p + 1 = t.length := Nat.le_antisymm hp (List.getElem?_eq_none_iff.mp hc)
    refine t_pos rfl ?_
    walk_at "wp"
    exact h _ _ (.inl ⟨this, rfl⟩)
  | some c =>
    have hpl := lt_of_char hc
    refine t_neg rfl ?_
    show wpS (K (n + 2)) b_backslash_7 ⟨[some (.str t), some (.int p), some (.str [c]), none, none], cells⟩ _ X
    walk_at "wp"
    unfold b_backslash_7
    walk_at "wp"
    refine t_split (fun ha => ?_) (fun ha => ?_)
    · obtain ⟨k, hk, ek⟩ : ∃ k : Nat, k < 7 ∧ findD [97, 98, 102, 110, 114, 116, 118] c 0 = k := by
        rcases find7 c with q | q
        · rw [q] at ha; exact nomatch ha
        · exact q
      rw [ek]
      walk_at "wp"
      refine v_sub_str (x := [7, 8, 12, 10, 13, 9, 11][k]) (List.getElem?_eq_getElem _) (Nat.lt_trans hk (by decide)) ?_
      walk_at "wp"
      exact h _ _ (back_two hpl)
    · clear ha
      walk_at "wp"
      generalize findD [97, 98, 102, 110, 114, 116, 118] c 0 = kn
      unfold b_backslash_6
      walk_at "wp"
      refine t_split (fun hb => ?_) (fun hb => ?_)
      · obtain rfl : c = 10 := eq_of_beq hb
        walk_at "wp"
        refine back_line ht hc fun x q σ e g => ?_
        show P _ σ.cells
        rw [e]
        exact h x q g
      · walk_at "wp"
        exact back_5 H ht hc h
end
section
variable {K : Nat → Call}


noncomputable def StopC (t : List Nat) (q : Nat) : Prop := t[q]? = none ∨ t[q]? = some 10 ∨ t[q]? = some 59 ∨ ¬NoGap t q

theorem c_is_expanded (H : Prg K) {n t p cells P X} (ht : t.length ≤ 2 ^ 20) (hp : p < t.length)
    (h1 : t[p]? = some 123 → t[p + 1]? = some 42 → t[p + 2]? = some 125 → NoGap t (p + 3) → (∃ c, t[p + 3]? = some c ∧ c ≠ 10 ∧ c ≠ 59) → P (.bool true) cells)
    (h2 : (t[p]? = some 123 → t[p + 1]? = some 42 → t[p + 2]? = some 125 → StopC t (p + 3)) → P (.bool false) cells) : K (n + 3) 150 [.str t, .int (p : Nat)] cells P X := by
  refine H.f150 rfl ?_
  unfold b_is_expanded
  walk_at "wp"
  rw [seg3_eq]
  refine t_split (fun ha => ?_) (fun ha => ?_)
  · walk_at "wp"
    refine h2 fun a b c => ?_
    rw [a, b, c] at ha; simp at ha
  · replace ha : t[p]? = some 123 ∧ t[p + 1]? = some 42 ∧ t[p + 2]? = some 125 := by first | exact eq_of_beq ha | exact ne_of_beq_false ha | exact ltN ha | exact nltN ha | exact leN ha | exact nleN ha | exact eN ha | exact neN ha | exact nb1 ha | exact nb2 ha | simpa using ha
    obtain ⟨a, b, c⟩ := ha
    have hl := lt_of_char c
    walk_at "wp"
    unfold b_is_expanded_2
    walk_at "wp"
    simp only [seg1_nil, seg1_eq]
    refine t_split (fun hb => ?_) (fun hb => ?_)
    · walk_at "wp"
      refine h2 fun _ _ _ => ?_
      simp only [Bool.or_eq_true, beq_iff_eq, Bool.or_false] at hb
      rcases hb with hb | hb | hb
      · exact .inl hb
      · exact .inr (.inl hb)
      · exact .inr (.inr (.inl hb))
    · simp only [Bool.or_eq_false_iff, beq_eq_false_iff_ne, ne_eq, Bool.or_false] at hb
      walk_at "wp"
      unfold b_is_expanded_1
      walk_at "wp"
      refine c_skip_gaps H ht (by walk_at "om") fun q g1 g2 g3 g4 => ?_
      walk_at "wp"
      by_cases e : NoGap t (p + 3)
      · obtain rfl := g3.same e
        rw [show (((p + 3 : Nat) : Int) == ((p + 3 : Nat) : Int)) = true from by simp]
        refine h1 a b c e ?_
        cases f : t[p + 3]? with
        | none => exact absurd f hb.1
        | some d => exact ⟨d, rfl, fun q => hb.2.1 (by rw [f, q]), fun q => hb.2.2 (by rw [f, q])⟩
      · have : q ≠ p + 3 := fun z => by subst z; exact e g4
        rw [show ((q : Int) == ((p + 3 : Nat) : Int)) = false from by simp; walk_at "om"]
        exact h2 fun _ _ _ => .inr (.inr (.inr e))

noncomputable def stopsOf (b : Bool) : List D := if b then [.str [32], .str [9], .str [11], .str [12], .str [13], .str [10], .str [59], .str [93]] else [.str [32], .str [9], .str [11], .str [12], .str [13], .str [10], .str [59]]
theorem c_bare_stops (H : Prg K) {n b cells P X} (h : P (.tup (stopsOf b)) cells) : K (n + 1) 143 [.bool b] cells P X := by
  refine H.f143 rfl ?_
  unfold b_bare_stops
  unfold stopsOf at h
  walk_at "wp"
  cases b
  · refine t_F ?_
    walk_at "wp"
    unfold b_bare_stops_1
    walk_at "wp"
    exact h
  · refine t_T ?_
    walk_at "wp"
    exact h

theorem shape_two {x y : Item} {r : List Item} (hx : ∀ v, x = .parts .bare v → r ≠ []) : shapeOk (x :: y :: r) = false := by
  cases r with
  | cons z r => rfl
  | nil =>
    unfold shapeOk
    split
    · rename_i q; cases q
    · rename_i q; cases q
    · rename_i q; cases q; exact absurd rfl (hx _ rfl)
    · rfl
theorem top_not {x : Item} {r : List Item} (hx : x ≠ .script .behind) : topBehind (x :: r) = false := by
  unfold topBehind
  split
  · rename_i q; cases q; exact absurd rfl hx
  · rfl
theorem not_right {t : List Nat} {x y : Item} {r : List Item} {h cn : Bool} (e : At t t.length = ⟨x :: y :: r, h, cn, false⟩) (hx : ∀ v, x = .parts .bare v → r ≠ []) (hb : x = .script .behind → h = false) : isRight (At t t.length) = false := by
  rw [e]
  have f : isFaulty ⟨x :: y :: r, h, cn, false⟩ = false := by
    unfold isFaulty
    by_cases q : x = .script .behind
    · simp [hb q]
    · simp [top_not q]
  unfold isRight
  rw [f, if_neg (by decide), shape_two hx]; rfl

theorem Is.brace {t : List Nat} {k c : Nat} {d : Int} {x : List Nat} {e : Bool} {r : List Item} (h : Is t k (.brace d x e :: r)) (hc : t[k]? = some c) (h92 : c ≠ 92) (hd : d + (if c = 123 then 1 else if c = 125 then -1 else 0) ≠ 0) :
    Is t (k + 1) (.brace (d + (if c = 123 then 1 else if c = 125 then -1 else 0)) (x ++ [c]) e :: r) :=
  h.step hc h92 no_name_b (by simp only [stepS, braceS]; rw [if_neg hd])
theorem Is.braceEnd {t : List Nat} {k : Nat} {x : List Nat} {e : Bool} {r : List Item} (h : Is t k (.brace 1 x e :: r)) (hc : t[k]? = some 125) :
    Is t (k + 1) (setTop (if x = [42] ∧ e = false then .star else .behind) r) :=
  h.step hc (by decide) no_name_b (by simp [stepS, braceS])
theorem Is.braceH {t : List Nat} {k : Nat} {d : Int} {x : List Nat} {e : Bool} {r : List Item} (h : Is t k (.brace d x e :: r)) (hc : t[k]? = some 92) : IsH t (k + 1) (.brace d noStar e :: r) := h.hold hc no_name_b
theorem IsH.brace {t : List Nat} {k c : Nat} {d : Int} {x : List Nat} {e : Bool} {r : List Item} (h : IsH t k (.brace d x e :: r)) (hc : t[k]? = some c) : Is t (k + 1) (.brace d noStar e :: r) :=
  h.bent (l' := .brace d x e :: r) hc no_name_b rfl

theorem braceRun {t : List Nat} {d : Int} {e : Bool} {r : List Item} (hd : 0 < d) {a : Nat} : ∀ (m : Nat) {x : List Nat}, Is t a (.brace d x e :: r) → a + m ≤ t.length → (∀ j c, a ≤ j → j < a + m → t[j]? = some c → c ≠ 92 ∧ c ≠ 123 ∧ c ≠ 125) →
    ∃ y, Is t (a + m) (.brace d (x ++ y) e :: r)
  | 0, x, h, _, _ => ⟨[], by simpa using h⟩
  | m + 1, x, h, hl, hc => by
    obtain ⟨y, hy⟩ := braceRun hd m h (by walk_at "om") fun j c g1 g2 => hc j c g1 (by walk_at "om")
    obtain ⟨c, hcc⟩ := char_at (show a + m < t.length by walk_at "om")
    obtain ⟨c1, c2, c3⟩ := hc (a + m) c (by walk_at "om") (by walk_at "om") hcc
    have := hy.brace hcc c1 (by rw [if_neg c2, if_neg c3]; walk_at "om")
    rw [if_neg c2, if_neg c3, Int.add_zero] at this
    exact ⟨y ++ [c], by simpa [Nat.add_assoc] using this⟩

theorem isHex_facts {c : Nat} (h : isHex c = true) : c ≠ 92 ∧ c ≠ 123 ∧ c ≠ 125 ∧ c ≠ 36 ∧ c ≠ 91 ∧ c ≠ 34 ∧ c ≠ 41 ∧ isGap c = false ∧ c ≠ 10 ∧ c ≠ 59 ∧ c ≠ 93 := by
  have : (48 ≤ c ∧ c ≤ 57) ∨ (97 ≤ c ∧ c ≤ 102) ∨ (65 ≤ c ∧ c ≤ 70) := by
    unfold isHex digitV at h
    simp only [Bool.and_eq_true, decide_eq_true_eq] at h
    obtain ⟨h1, h2⟩ := h
    split at h1
    · exact .inl (by assumption)
    · split at h1
      · rw [if_neg (by assumption), if_pos (by assumption)] at h2; walk_at "om"
      · split at h1
        · rw [if_neg (by assumption), if_neg (by assumption), if_pos (by assumption)] at h2; walk_at "om"
        · walk_at "om"
  refine ⟨by walk_at "om", by walk_at "om", by walk_at "om", by walk_at "om", by walk_at "om", by walk_at "om", by walk_at "om", ?_, by walk_at "om", by walk_at "om", by walk_at "om"⟩
  unfold isGap
  simp only [Bool.or_eq_false_iff, beq_eq_false_iff_ne]
  walk_at "om"

noncomputable def TxtOk (t : List Nat) (p k : Nat) (x : List Nat) : Prop := x = (t.take k).drop (p + 1) ∨ 7 ≤ x.length

theorem TxtOk.next {t : List Nat} {p k c : Nat} {x : List Nat} (h : TxtOk t p k x) (hk : p + 1 ≤ k) (hc : t[k]? = some c) : TxtOk t p (k + 1) (x ++ [c]) := by
  rcases h with rfl | h
  · left
    have := lt_of_char hc
    rw [List.take_add_one, hc, Option.toList_some, List.drop_append_of_le_length (by simp; walk_at "om")]
  · right; simp; walk_at "om"
theorem TxtOk.star {t : List Nat} {p k : Nat} {x : List Nat} (h : TxtOk t p k x) (hk : k ≤ t.length) (hx : x = [42]) : k = p + 2 ∧ t[p + 1]? = some 42 := by
  subst hx
  rcases h with h | h
  · have hl := congrArg List.length h
    simp only [List.length_cons, List.length_nil, List.length_drop, List.length_take] at hl
    have hk2 : k = p + 2 := by walk_at "om"
    subst hk2
    refine ⟨rfl, ?_⟩
    have e : (t.take (p + 2)).drop (p + 1) = (t[p + 1]?).toList := seg1 t (p + 1)
    rw [e] at h
    cases q : t[p + 1]? with
    | none => rw [q] at h; cases h
    | some c => rw [q] at h; simp at h; rw [h]
  · simp at h

noncomputable def mCloseBrace : List Nat := [109, 105, 115, 115, 105, 110, 103, 32, 99, 108, 111, 115, 101, 45, 98, 114, 97, 99, 101]

inductive BrAt (t : List Nat) (p : Nat) (e : Bool) (l : List Item) (d : Int) : Nat → Prop
  | at {k : Nat} {x : List Nat} (hk : k ≤ t.length) (tx : TxtOk t p k x) (hI : Is t k (.brace d x e :: l)) : BrAt t p e l d k
  | done {x : List Nat} (hI : IsH t t.length (.brace d x e :: l)) : BrAt t p e l d (t.length + 1)
noncomputable abbrev stB (t : List Nat) (p b k : Nat) (made : List Nat) (d : Int) (o7 o8 : Option D) (cells : List Cell) : St := ⟨[some (.str t), some (.int p), some (.int t.length), some (.int b), some (.int k), some (.str made), some (.int d), o7, o8], cells⟩
inductive BrI (t : List Nat) (p : Nat) (cells : List Cell) (e : Bool) (l : List Item) : Nat → St → Prop
  | mk {b k : Nat} {made : List Nat} {d : Int} {o7 o8 : Option D} (h1 : p + 1 ≤ b) (h2 : b ≤ k) (h3 : made.length ≤ b) (h4 : 0 < d) (h5 : BrAt t p e l d k) : BrI t p cells e l (t.length + 1 - k) (stB t p b k made d o7 o8 cells)
inductive BrJ (t : List Nat) (p : Nat) (cells : List Cell) (e : Bool) (l : List Item) (k b : Nat) (made : List Nat) (d : Int) (o7 o8 : Option D) : Nat → St → Prop
  | mk {j : Nat} {x : List Nat} (g1 : k ≤ j) (g2 : j ≤ t.length) (g3 : TxtOk t p j x) (g4 : Is t j (.brace d x e :: l)) : BrJ t p cells e l k b made d o7 o8 (t.length - j) (stB t p b j made d o7 o8 cells)
theorem BrI.of {t : List Nat} {p : Nat} {cells : List Cell} {e : Bool} {l : List Item} {b k n : Nat} {made : List Nat} {d : Int} {o7 o8 : Option D} (h1 : p + 1 ≤ b) (h2 : b ≤ k) (h3 : made.length ≤ b) (h4 : 0 < d) (h5 : BrAt t p e l d k) (hn : n < k) (hl : n < t.length + 1) :
    ∃ m, m < t.length + 1 - n ∧ BrI t p cells e l m (stB t p b k made d o7 o8 cells) := ⟨_, Nat.sub_lt_sub_left hl hn, .mk h1 h2 h3 h4 h5⟩

theorem br_inner {K : Call} {X : XP} {t : List Nat} {p : Nat} {cells : List Cell} {e : Bool} {l : List Item} {b k : Nat} {made : List Nat} {d : Int} {o7 o8 : Option D} {x : List Nat} {c : Nat} (ht : t.length ≤ 2 ^ 20) (h1 : p + 1 ≤ b) (h2 : b ≤ k) (h3 : made.length ≤ b) (h4 : 0 < d) (hlt : k < t.length) (hc : t[k]? = some c) (ha : c ≠ 123) (hb : c ≠ 125) (hf : c ≠ 92)
    (tx : TxtOk t p k x) (hI : Is t k (.brace d x e :: l)) {Z : Fl → St → Prop} (hZ : ∀ σ, (∃ m, m < t.length + 1 - k ∧ BrI t p cells e l m σ) → Z .next σ) :
    wpS K (.whl (.and (.cmp .lt (.loc 4) (.loc 2)) (.cmp .notIn (.sub (.loc 0) (.loc 4)) (.cst (.str [123, 125, 92])))) b_braces_1) (stB t p b k made d o7 o8 cells) Z X := by
  refine s_whl (BrJ t p cells e l k b made d o7 o8) (t.length - k) (.mk (Nat.le_refl _) (Nat.le_of_lt hlt) tx hI) ?_
  rintro _ _ ⟨g1, g2, g3, g4⟩
  rename_i j x'
  have leave : j ≠ k → Z .next (stB t p b j made d o7 o8 cells) := fun hj => hZ _ (BrI.of h1 (Nat.le_trans h2 g1) h3 h4 (.at g2 g3 g4) (Nat.lt_of_le_of_ne g1 (Ne.symm hj)) (Nat.lt_succ_of_lt hlt))
  walk_at "wp"
  refine t_split (fun hj => ?_) (fun hj => ?_)
  · replace hj : j < t.length := ltN hj
    obtain ⟨c', hc'⟩ := char_at hj
    walk_at "wp"
    refine t_split (fun hm => ?_) (fun hm => ?_)
    · replace hm : c' ≠ 123 ∧ c' ≠ 125 ∧ c' ≠ 92 := by simpa using hm
      unfold b_braces_1
      walk_at "wp"
      refine ⟨_, Nat.sub_lt_sub_left hj (Nat.lt_succ_self _), .mk (Nat.le_succ_of_le g1) hj (g3.next (Nat.le_trans h1 (Nat.le_trans h2 g1)) hc') ?_⟩
      have := g4.brace hc' hm.2.2 (by rw [if_neg hm.1, if_neg hm.2.1]; walk_at "om")
      rwa [if_neg hm.1, if_neg hm.2.1, Int.add_zero] at this
    · walk_at "wp"
      refine leave fun z => ?_
      subst z
      rw [hc] at hc'; cases hc'
      replace hm : c ≠ 123 → c ≠ 125 → c = 92 := by simpa using hm
      exact hf (hm ha hb)
  · replace hj : ¬ j < t.length := nltN hj
    walk_at "wp"
    exact leave fun z => hj (z ▸ hlt)

theorem br_turn (H : Prg K) {n : Nat} {t : List Nat} {p : Nat} {cells : List Cell} {e : Bool} {s : SS} {r : List Item} {X : XP} {b k : Nat} {made : List Nat} {d : Int} {o7 o8 : Option D} {x : List Nat} {Z : Fl → St → Prop} (ht : t.length ≤ 2 ^ 20) (hlt : k < t.length)
    (h1 : p + 1 ≤ b) (h2 : b ≤ k) (h3 : made.length ≤ b) (h4 : 0 < d) (tx : TxtOk t p k x) (hI : Is t k (.brace d x e :: .script s :: r))
    (hZ : ∀ σ, (∃ m, m < t.length + 1 - k ∧ BrI t p cells e (.script s :: r) m σ) → Z .next σ)
    (hR : ∀ made σ, σ.cells = cells → (Is t (k + 1) (.script .behind :: r) ∨ (Is t (k + 1) (.script .star :: r) ∧ e = false ∧ k + 1 = p + 3 ∧ t[p + 1]? = some 42 ∧ t[p + 2]? = some 125)) → Z (.ret (.tup [.str made, .int ((k + 1 : Nat) : Int)])) σ) :
    wpS (K (n + 3)) b_braces_2 (stB t p b k made d o7 o8 cells) Z X := by
  have hpk : p + 1 ≤ k := Nat.le_trans h1 h2
  have hl1 : k < t.length + 1 := Nat.lt_succ_of_lt hlt
  obtain ⟨c, hc⟩ := char_at hlt
  have up : ∀ d', 0 < d' → Is t (k + 1) (.brace d' (x ++ [c]) e :: .script s :: r) → ∃ m, m < t.length + 1 - k ∧ BrI t p cells e (.script s :: r) m (stB t p b (k + 1) made d' o7 o8 cells) := fun d' g i => BrI.of h1 (Nat.le_succ_of_le h2) h3 g (.at hlt (tx.next hpk hc) i) (Nat.lt_succ_self _) hl1
  unfold b_braces_2
  walk_at "wp"
  refine t_split (fun ha => ?_) (fun ha => ?_)
  · obtain rfl : c = 123 := eq_of_beq ha
    walk_at "wp"
    refine v_add ?_
    walk_at "wp"
    refine hZ _ (up _ (by walk_at "om") ?_)
    have := hI.brace hc (by decide) (by simp; walk_at "om")
    simpa using this
  · replace ha : c ≠ 123 := ne_of_beq_false ha
    walk_at "wp"
    refine t_split (fun hb => ?_) (fun hb => ?_)
    · obtain rfl : c = 125 := eq_of_beq hb
      walk_at "wp"
      refine v_sub ?_
      walk_at "wp"
      refine t_split (fun hz => ?_) (fun hz => ?_)
      · have hz : d = 1 := by
          have : d - 1 = 0 := eq_of_beq hz
          walk_at "om"
        subst hz
        walk_at "wp"
        refine v_cat ?_ ?_
        · simp only [List.length_append, List.length_drop, List.length_take]; walk_at "om"
        walk_at "wp"
        have hend := hI.braceEnd hc
        refine hR _ _ rfl ?_
        by_cases q : x = [42] ∧ e = false
        · rw [if_pos q] at hend
          obtain ⟨g1, g2⟩ := tx.star (Nat.le_of_lt hlt) q.1
          subst g1
          exact .inr ⟨hend, q.2, rfl, g2, hc⟩
        · rw [if_neg q] at hend
          exact .inl hend
      · replace hz : d - 1 ≠ 0 := ne_of_beq_false hz
        walk_at "wp"
        refine hZ _ (up _ (by walk_at "om") ?_)
        have := hI.brace hc (by decide) (by simp; walk_at "om")
        simpa [Int.sub_eq_add_neg] using this
    · replace hb : c ≠ 125 := ne_of_beq_false hb
      walk_at "wp"
      rw [seg2_eq]
      refine t_split (fun hd => ?_) (fun hd => ?_)
      · simp only [Bool.and_eq_true, beq_iff_eq] at hd
        have hl2 := lt_of_char hd.2
        have i1 := (hI.braceH hd.1).brace hd.2
        walk_at "wp"
        refine c_backslash H ht hlt fun y q hq => ?_
        walk_at "wp"
        refine v_cat ?_ ?_
        · simp only [List.length_append, List.length_drop, List.length_take, List.length_cons, List.length_nil]; walk_at "om"
        walk_at "wp"
        refine v_cat ?_ ?_
        · simp only [List.length_append, List.length_drop, List.length_take, List.length_cons, List.length_nil]; walk_at "om"
        walk_at "wp"
        rcases hq with hq | ⟨q1, q2, q3⟩
        · walk_at "om"
        obtain ⟨y', hy⟩ := braceRun h4 (q - (k + 2)) i1 (by walk_at "om") fun j c' g1 g2 g3 => by
          rcases q3 j c' g1 (by walk_at "om") g3 with z | ⟨_, z⟩
          · obtain ⟨z1, z2, z3, _⟩ := isHex_facts z; exact ⟨z1, z2, z3⟩
          · walk_at "om"
        rw [show k + 1 + 1 + (q - (k + 2)) = q from Nat.add_sub_cancel' q1] at hy
        exact hZ _ (BrI.of (by walk_at "om") (Nat.le_refl _) (by simp only [List.length_append, List.length_drop, List.length_take, List.length_cons, List.length_nil]; walk_at "om") h4 (.at q2 (.inr (by simp [noStar])) hy) (by walk_at "om") hl1)
      · walk_at "wp"
        refine t_split (fun hf => ?_) (fun hf => ?_)
        · obtain rfl : c = 92 := eq_of_beq hf
          walk_at "wp"
          refine hZ _ (BrI.of h1 (Nat.le_trans h2 (Nat.le_add_right _ _)) h3 h4 ?_ (by walk_at "om") hl1)
          by_cases g : k + 1 < t.length
          · obtain ⟨c', hc'⟩ := char_at g
            exact .at g (.inr (by simp [noStar])) ((hI.braceH hc).brace hc')
          · have : t.length = k + 1 := by walk_at "om"
            rw [show k + 2 = t.length + 1 by rw [this]]
            exact .done (by rw [this]; exact hI.braceH hc)
        · replace hf : c ≠ 92 := ne_of_beq_false hf
          walk_at "wp"
          exact br_inner ht h1 h2 h3 h4 hlt hc ha hb hf tx hI hZ

theorem c_braces (H : Prg K) {n t p cells P X} {e : Bool} {s : SS} {r : List Item} (ht : t.length ≤ 2 ^ 20) (hp : p < t.length) (hs : Is t (p + 1) (.brace 1 [] e :: .script s :: r))
    (hX : isRight (At t t.length) = false → X mCloseBrace cells)
    (h : ∀ made q, p + 2 ≤ q → q ≤ t.length → (Is t q (.script .behind :: r) ∨ (Is t q (.script .star :: r) ∧ e = false ∧ q = p + 3 ∧ t[p + 1]? = some 42 ∧ t[p + 2]? = some 125)) → P (.tup [.str made, .int (q : Nat)]) cells) :
    K (n + 4) 129 [.str t, .int (p : Nat)] cells P X := by
  refine H.f129 rfl ?_
  unfold b_braces
  walk_at "wp"
  refine s_whl (BrI t p cells e (.script s :: r)) (t.length + 1 - (p + 1)) (.mk (Nat.le_refl _) (Nat.le_refl _) (Nat.zero_le _) (by decide) (.at hp (.inl (by rw [List.drop_eq_nil_of_le (by simp; walk_at "om")])) hs)) ?_
  rintro _ _ ⟨h1, h2, h3, h4, h5⟩
  rename_i b k made d o7 o8
  walk_at "wp"
  refine t_split (fun hlt => ?_) (fun hlt => ?_)
  · replace hlt : k < t.length := ltN hlt
    cases h5 with
    | done => exact absurd hlt (by walk_at "om")
    | «at» hk tx hI =>
      refine br_turn H ht hlt h1 h2 h3 h4 tx hI (fun _ q => q) fun _ σ q g => ?_
      show P _ σ.cells
      rw [q]
      exact h _ _ (by walk_at "om") hlt g
  · replace hlt : ¬ k < t.length := nltN hlt
    walk_at "wp"
    unfold b_braces_3
    walk_at "wp"
    refine hX ?_
    cases h5 with
    | «at» g1 tx g2 =>
      obtain ⟨cn, g2⟩ := g2
      obtain rfl : k = t.length := Nat.le_antisymm g1 (Nat.le_of_not_lt hlt)
      exact not_right g2 (fun v q => by cases q) (fun q => by cases q)
    | done g2 =>
      obtain ⟨cn, g2⟩ := g2
      exact not_right g2 (fun v q => by cases q) (fun q => by cases q)
end
section
variable {K : Nat → Call}

noncomputable def isStop (k : PK) (l : List Item) (c : Nat) : Bool := match k with
  | .bare => isGap c || c == 10 || c == 59 || (c == 93 && decide (l.length > 1))
  | .quote => c == 34
  | .index => c == 41

noncomputable def Virt (t : List Nat) (l : List Item) (p : Nat) : Prop := ∃ s r, l = .script s :: r ∧ (s = .ahead ∨ s = .gap ∨ s = .star) ∧ Is t p l ∧ t[p]? ≠ some 34 ∧ t[p]? ≠ some 123 ∧ (s = .ahead → t[p]? ≠ some 35)
noncomputable def VirtH (t : List Nat) (l : List Item) (p : Nat) : Prop := ∃ s r, l = .script s :: r ∧ (s = .ahead ∨ s = .gap ∨ s = .star) ∧ IsH t p l
noncomputable def Rd (t : List Nat) (k : PK) (l : List Item) (p : Nat) : Prop := (∃ v, Is t p (.parts k v :: l) ∧ Calm t p v) ∨ (k = .bare ∧ Virt t l p)
noncomputable def RdH (t : List Nat) (k : PK) (l : List Item) (p : Nat) : Prop := IsH t p (.parts k (-1) :: l) ∨ (k = .bare ∧ VirtH t l p)

theorem calm_minus (t : List Nat) (p : Nat) : Calm t p (-1) := .inl rfl

theorem Calm.none {t : List Nat} {p c : Nat} {v : Int} {k : PK} {l : List Item} (h : Calm t p v) (hc : t[p]? = some c) (h58 : c ≠ 58) : (if v ≥ 0 then goesOn k v l c else Option.none) = Option.none := by
  rcases h with rfl | ⟨h1, h2, h3, h4, h5, h6⟩
  · rfl
  · rw [if_pos h1]
    unfold goesOn
    have a1 : ¬ (c = 123 ∧ v = 0) := fun q => h3 (by rw [hc, q.1]) q.2
    have a2 : ¬ (c = 40 ∧ v ≠ 2) := fun q => q.2 (h4 (by rw [hc, q.1]))
    have a3 : ¬ (v ≠ 2 ∧ isNm c = true) := fun q => q.1 (h5 c hc q.2)
    rw [if_neg a1, if_neg a2, if_neg h58, if_neg a3]

theorem Is.partsCalm {t : List Nat} {p c : Nat} {v : Int} {k : PK} {l l' : List Item} (h : Is t p (.parts k v :: l)) (hv : Calm t p v) (hc : t[p]? = some c) (h92 : c ≠ 92) (h58 : c ≠ 58) (e : partsS0 k l c = (l', false)) : Is t (p + 1) l' :=
  h.step hc h92 no_name_p (by simp only [stepS, partsS, hv.none hc h58]; exact e)

theorem partsS0_plain {k : PK} {l : List Item} {c : Nat} (h : isStop k l c = false) : partsS0 k l c = (plainParts k l c, false) := by
  unfold partsS0
  unfold isStop at h
  cases k with
  | bare =>
    simp only [Bool.or_eq_false_iff, Bool.and_eq_false_iff, beq_eq_false_iff_ne, decide_eq_false_iff_not, ne_eq] at h
    rw [if_neg (by simp [h]; exact fun q => by have := h.2; walk_at "om"), if_neg (by simp), if_neg (by simp)]
  | quote =>
    simp only [beq_eq_false_iff_ne, ne_eq] at h
    rw [if_neg (by simp), if_neg (by simp [h]), if_neg (by simp)]
  | index =>
    simp only [beq_eq_false_iff_ne, ne_eq] at h
    rw [if_neg (by simp), if_neg (by simp), if_neg (by simp [h])]

theorem scriptS_virt {s : SS} {r : List Item} {c : Nat} (hs : s = .ahead ∨ s = .gap ∨ s = .star) (h : isStop .bare (.script s :: r) c = false) (h34 : c ≠ 34) (h123 : c ≠ 123) (h35 : s = .ahead → c ≠ 35) :
    scriptS s r c = (plainParts .bare (.script s :: r) c, false) := by
  unfold scriptS
  unfold isStop at h
  simp only [Bool.or_eq_false_iff, Bool.and_eq_false_iff, beq_eq_false_iff_ne, decide_eq_false_iff_not, ne_eq, List.length_cons] at h
  obtain ⟨⟨⟨h1, h2⟩, h3⟩, h4⟩ := h
  have nc : s ≠ .comment := by rcases hs with rfl | rfl | rfl <;> decide
  have nb : s ≠ .behind := by rcases hs with rfl | rfl | rfl <;> decide
  rw [if_neg nc, if_neg (by simp [h1]), if_neg (by walk_at "om"), if_neg (fun q => ?_), if_neg (fun q => h35 q.1 q.2), if_neg nb, if_neg h34, if_neg h123]
  rcases h4 with h4 | h4
  · exact h4 q.1
  · apply h4
    have := List.length_pos_iff.mpr q.2
    walk_at "om"

theorem Rd.step {t : List Nat} {p c : Nat} {k : PK} {l : List Item} (h : Rd t k l p) (hc : t[p]? = some c) (h92 : c ≠ 92) (h58 : c ≠ 58) (hs : isStop k l c = false) : Is t (p + 1) (plainParts k l c) := by
  rcases h with ⟨v, h, hv⟩ | ⟨rfl, s, r, rfl, hss, h, a, b, d⟩
  · exact h.partsCalm hv hc h92 h58 (partsS0_plain hs)
  · rw [hc] at a b d
    exact h.step hc h92 no_name_s (scriptS_virt hss hs (fun q => a (by rw [q])) (fun q => b (by rw [q])) (fun q z => d q (by rw [z])))

theorem Rd.dollar {t : List Nat} {p : Nat} {k : PK} {l : List Item} (h : Rd t k l p) (hc : t[p]? = some 36) : Is t (p + 1) (.parts k 0 :: l) :=
  h.step hc (by decide) (by decide) (by cases k <;> simp [isStop, isGap])
theorem Rd.bracket {t : List Nat} {p : Nat} {k : PK} {l : List Item} (h : Rd t k l p) (hc : t[p]? = some 91) : Is t (p + 1) (.script .ahead :: .parts k (-1) :: l) :=
  h.step hc (by decide) (by decide) (by cases k <;> simp [isStop, isGap])
theorem Rd.back {t : List Nat} {p : Nat} {k : PK} {l : List Item} (h : Rd t k l p) (hc : t[p]? = some 92) : RdH t k l (p + 1) := by
  rcases h with ⟨v, h, hv⟩ | ⟨rfl, s, r, rfl, hss, h, a, b, d⟩
  · exact .inl (h.hold hc no_name_p)
  · exact .inr ⟨rfl, s, r, rfl, hss, h.scriptH hc⟩
theorem Rd.plain {t : List Nat} {p c : Nat} {k : PK} {l : List Item} (h : Rd t k l p) (hc : t[p]? = some c) (h92 : c ≠ 92) (h36 : c ≠ 36) (h91 : c ≠ 91) (hs : isStop k l c = false) : ∃ v, Is t (p + 1) (.parts k v :: l) ∧ Calm t (p + 1) v := by
  by_cases h58 : c = 58
  · subst h58
    rcases h with ⟨v, h, hv⟩ | ⟨rfl, s, r, rfl, hss, h, a, b, d⟩
    · rcases hv with rfl | ⟨h1, h2, h3, h4, h5, h6⟩
      · have : Is t (p + 1) (.parts k (-1) :: l) := h.step hc (by decide) no_name_p (by
          simp only [stepS, partsS]
          rw [if_neg (by decide), partsS0_plain hs]; simp [plainParts])
        exact ⟨_, this, calm_minus _ _⟩
      · obtain ⟨v1, v2⟩ := h6 hc
        have := h.colon hc h1
        rw [if_neg (by walk_at "om")] at this
        exact ⟨2, this, .inr ⟨by decide, by decide, fun _ => by decide, fun _ => rfl, fun _ _ _ => rfl, fun q => absurd q v2⟩⟩
    · rw [hc] at a b d
      have := h.step hc h92 no_name_s (scriptS_virt hss hs (by decide) (by decide) (fun q z => by cases z))
      exact ⟨-1, by simpa [plainParts] using this, calm_minus _ _⟩
  · have := h.step hc h92 h58 hs
    unfold plainParts at this
    rw [if_neg h36, if_neg h91] at this
    exact ⟨_, this, calm_minus _ _⟩

theorem RdH.next {t : List Nat} {p c : Nat} {k : PK} {l : List Item} (h : RdH t k l p) (hc : t[p]? = some c) (hk : k = .bare → c ≠ 10) : Is t (p + 1) (.parts k (-1) :: l) := by
  rcases h with h | ⟨rfl, s, r, rfl, hss, h⟩
  · refine h.bent (l' := .parts k (-1) :: l) hc no_name_p ?_
    cases k with
    | bare => simp [bentS, hk rfl]
    | quote => rfl
    | index => rfl
  · refine h.bent (l' := .parts .bare (-1) :: .script s :: r) hc no_name_s ?_
    rcases hss with rfl | rfl | rfl <;> simp [bentS, hk rfl]

theorem harmless {t : List Nat} {k : PK} {l : List Item} {a : Nat} : ∀ (m : Nat), Is t a (.parts k (-1) :: l) → a + m ≤ t.length → (∀ j c, a ≤ j → j < a + m → t[j]? = some c → isHex c = true ∨ (k ≠ .bare ∧ (c = 32 ∨ c = 9))) → Is t (a + m) (.parts k (-1) :: l)
  | 0, h, _, _ => h
  | m + 1, h, hl, hc => by
    have ih := harmless m h (by walk_at "om") fun j c g1 g2 => hc j c g1 (by walk_at "om")
    obtain ⟨c, hcc⟩ := char_at (show a + m < t.length by walk_at "om")
    have q := hc (a + m) c (by walk_at "om") (by walk_at "om") hcc
    have q3 : c ≠ 92 ∧ c ≠ 36 ∧ c ≠ 91 ∧ c ≠ 58 ∧ isStop k l c = false := by
      rcases q with q | ⟨q, z⟩
      · obtain ⟨f1, f2, f3, f4, f5, f6, f7, f8, f9, f10, f11⟩ := isHex_facts q
        refine ⟨f1, f4, f5, ?_, ?_⟩
        · intro w; subst w; revert q; decide
        · cases k <;> simp [isStop, f6, f7, f8, f9, f10, f11]
      · rcases z with rfl | rfl <;> (refine ⟨by decide, by decide, by decide, by decide, ?_⟩; cases k <;> first | exact absurd rfl q | rfl)
    have := ih.partsCalm (calm_minus _ _) hcc q3.1 q3.2.2.2.1 (partsS0_plain q3.2.2.2.2)
    unfold plainParts at this
    rw [if_neg q3.2.1, if_neg q3.2.2.1] at this
    exact this

noncomputable def EndOK (t : List Nat) (r : List Item) : Prop := ∃ stk h cn, At t t.length = ⟨stk, h, cn, false⟩ ∧ ((∃ s, stk = .script s :: r ∧ (s = .behind → h = false)) ∨ (∃ v s, stk = .parts .bare v :: .script s :: r))

theorem EndOK.wrong {t : List Nat} {r : List Item} (h : EndOK t r) (hr : r ≠ []) : isRight (At t t.length) = false := by
  obtain ⟨stk, hh, cn, e, h⟩ := h
  cases r with
  | nil => exact absurd rfl hr
  | cons y r =>
    rcases h with ⟨s, rfl, hs⟩ | ⟨v, s, rfl⟩
    · exact not_right e (fun v q => by cases q) (fun q => by cases q; exact hs rfl)
    · exact not_right e (fun v q => by simp) (fun q => by cases q)
theorem EndOK.right {t : List Nat} (h : EndOK t []) : isRight (At t t.length) = !(At t t.length).cont ∧ ∃ i, (At t t.length).stk.head? = some i ∧ i ≠ .name := by
  obtain ⟨stk, hh, cn, e, h⟩ := h
  rw [e]
  rcases h with ⟨s, rfl, hs⟩ | ⟨v, s, rfl⟩
  · refine ⟨?_, _, rfl, by intro q; cases q⟩
    have f : isFaulty ⟨[.script s], hh, cn, false⟩ = false := by
      unfold isFaulty
      by_cases q : s = .behind
      · simp [hs q]
      · simp [top_not (r := []) (show Item.script s ≠ .script .behind from fun z => q (by cases z; rfl))]
    unfold isRight; rw [f]; rfl
  · refine ⟨?_, _, rfl, by intro q; cases q⟩
    have f : isFaulty ⟨[.parts .bare v, .script s], hh, cn, false⟩ = false := by
      unfold isFaulty; simp [top_not (r := [.script s]) (show Item.parts .bare v ≠ .script .behind from fun z => by cases z)]
    unfold isRight; rw [f]; rfl

theorem ScrEnd.ok {t : List Nat} {r : List Item} (h : ScrEnd t r) : EndOK t r := by
  obtain ⟨s, hs, ⟨cn, h⟩ | ⟨cn, h⟩⟩ := h
  · exact ⟨_, _, _, h, .inl ⟨s, rfl, fun _ => rfl⟩⟩
  · exact ⟨_, _, _, h, .inl ⟨s, rfl, fun q => by rcases hs with rfl | rfl <;> cases q⟩⟩

noncomputable def StopQ (t : List Nat) (r : List Item) (q : Nat) : Prop := (∃ c, t[q]? = some c ∧ (isGap c = true ∨ c = 10 ∨ c = 59 ∨ (c = 93 ∧ r ≠ []))) ∨ (t[q]? = some 92 ∧ t[q + 1]? = some 10)

noncomputable def InCmd (t : List Nat) (r : List Item) (q : Nat) : Prop := Is t q (.script .behind :: r) ∨ (StopQ t r q ∧ (Is t q (.script .star :: r) ∨ ∃ v s, Is t q (.parts .bare v :: .script s :: r) ∧ Calm t q v))
noncomputable def WEnd (t : List Nat) (r : List Item) (q : Nat) : Prop := (q < t.length ∧ InCmd t r q) ∨ (q = t.length ∧ EndOK t r)

theorem bareStop {t : List Nat} {q c : Nat} {v : Int} {s : SS} {r : List Item} (h : Is t q (.parts .bare v :: .script s :: r)) (hv : Calm t q v) (hc : t[q]? = some c) (hs : isGap c = true ∨ c = 10 ∨ c = 59 ∨ (c = 93 ∧ r ≠ [])) {l' : List Item}
    (e : scriptS .gap r c = (l', false)) : Is t (q + 1) l' := by
  have h92 : c ≠ 92 := by
    rcases hs with h | h | h | h
    · exact (isGap_facts h).1
    · walk_at "om"
    · walk_at "om"
    · walk_at "om"
  have h58 : c ≠ 58 := by
    rcases hs with h | h | h | h
    · intro q; subst q; exact absurd h (by decide)
    · walk_at "om"
    · walk_at "om"
    · walk_at "om"
  refine h.partsCalm hv hc h92 h58 ?_
  unfold partsS0
  rw [if_pos]
  · exact e
  · refine ⟨rfl, ?_⟩
    rcases hs with h | h | h | h
    · exact .inl h
    · exact .inr (.inl h)
    · exact .inr (.inr (.inl h))
    · refine .inr (.inr (.inr ⟨h.1, ?_⟩))
      have := List.length_pos_iff.mpr h.2
      simp only [List.length_cons]; walk_at "om"

theorem scriptS_gap {s : SS} {r : List Item} {c : Nat} (hs : s ≠ .comment) (hg : isGap c = true) : scriptS s r c = (.script (if s = .ahead then .ahead else .gap) :: r, false) := by
  unfold scriptS; rw [if_neg hs, if_pos hg]; split <;> simp_all
theorem scriptS_line {s : SS} {r : List Item} {c : Nat} (hs : s ≠ .comment) (hc : c = 10 ∨ c = 59) : scriptS s r c = (.script .ahead :: r, false) := by
  unfold scriptS; rw [if_neg hs, if_neg (by rcases hc with rfl | rfl <;> decide), if_pos hc]
theorem scriptS_close {s : SS} {r : List Item} (hs : s ≠ .comment) (hr : r ≠ []) : scriptS s r 93 = (r, false) := by
  unfold scriptS; rw [if_neg hs, if_neg (by decide), if_neg (by decide), if_pos ⟨rfl, hr⟩]

theorem InCmd.gaps {t : List Nat} {r : List Item} {q q' : Nat} (h : InCmd t r q) (g : Gaps t q q') : q' = q ∨ Is t q' (.script .gap :: r) := by
  rcases h with h | ⟨hs, h | ⟨v, s, h, hv⟩⟩
  · exact g.run h (by decide)
  · exact g.run h (by decide)
  · induction g with
    | nil => exact .inl rfl
    | gap _ h1 h2 ih =>
      right
      rcases ih with rfl | ih
      · exact bareStop h hv h1 (.inl h2) (scriptS_gap (by decide) h2)
      · exact ih.gap h1 h2 (by decide)
    | cont _ h1 h2 ih =>
      right
      rcases ih with rfl | ih
      · exact (h.hold h1 no_name_p).bent (l' := .script .gap :: r) h2 no_name_p (by simp [bentS, offName, markBrace, setTop])
      · exact (ih.scriptH h1).contn h2 (by decide)

theorem InCmd.line {t : List Nat} {r : List Item} {q c : Nat} (h : InCmd t r q) (hc : t[q]? = some c) (hl : c = 10 ∨ c = 59) : Is t (q + 1) (.script .ahead :: r) := by
  have h92 : c ≠ 92 := by walk_at "om"
  rcases h with h | ⟨hs, h | ⟨v, s, h, hv⟩⟩
  · exact h.step hc h92 no_name_s (scriptS_line (by decide) hl)
  · exact h.step hc h92 no_name_s (scriptS_line (by decide) hl)
  · exact bareStop h hv hc (.inr (by walk_at "om")) (scriptS_line (by decide) hl)
theorem InCmd.close {t : List Nat} {r : List Item} {q : Nat} (h : InCmd t r q) (hc : t[q]? = some 93) (hr : r ≠ []) : Is t (q + 1) r := by
  rcases h with h | ⟨hs, h | ⟨v, s, h, hv⟩⟩
  · exact h.step hc (by decide) no_name_s (scriptS_close (by decide) hr)
  · exact h.step hc (by decide) no_name_s (scriptS_close (by decide) hr)
  · exact bareStop h hv hc (.inr (.inr (.inr ⟨rfl, hr⟩))) (scriptS_close (by decide) hr)
theorem InCmd.extra {t : List Nat} {r : List Item} {q c : Nat} (h : InCmd t r q) (hg : NoGap t q) (hc : t[q]? = some c) (h1 : c ≠ 10) (h2 : c ≠ 59) (h3 : r ≠ [] → c ≠ 93) : isRight (At t t.length) = true := by
  have hl := lt_of_char hc
  have h : Is t q (.script .behind :: r) := by
    rcases h with h | ⟨hs, _⟩
    · exact h
    · exfalso
      rcases hs with ⟨c', hc', hs⟩ | ⟨a, b⟩
      · rw [hc] at hc'; cases hc'
        rcases hs with hs | hs | hs | hs
        · rw [hg.1 _ hc] at hs; cases hs
        · exact h1 hs
        · exact h2 hs
        · exact h3 hs.2 hs.1
      · exact hg.2 ⟨a, b⟩
  by_cases h92 : c = 92
  · subst h92
    have hh := h.scriptH hc
    by_cases hl2 : q + 1 < t.length
    · obtain ⟨c', hc'⟩ := char_at hl2
      have : c' ≠ 10 := fun z => hg.2 ⟨hc, by rw [hc', z]⟩
      exact fault_right (hh.bentF (l' := .script .behind :: r) hc' no_name_s (by simp [bentS, this])) (by walk_at "om")
    · have e : t.length = q + 1 := by walk_at "om"
      obtain ⟨cn, hh⟩ := hh
      rw [e, hh]; rfl
  · refine fault_right (h.stepF (l' := .script .behind :: r) hc h92 no_name_s ?_) hl
    have a1 := hg.1 c hc
    simp only [stepS, scriptS]
    rw [if_neg (by decide), if_neg (by simp [a1]), if_neg (by walk_at "om"), if_neg (fun z => h3 z.2 z.1), if_neg (by simp), if_pos trivial]

noncomputable def mMissing : List Nat := [109, 105, 115, 115, 105, 110, 103]
noncomputable def XOk (t : List Nat) (c0 : List Cell) (X : XP) : Prop := ∀ msg c, c0 <+: c → isRight (At t t.length) = !(mMissing.isPrefixOf msg) → X msg c

noncomputable def PUPost (t : List Nat) (k : PK) (l : List Item) (p q : Nat) : Prop :=
  (q < t.length ∧ ((∃ v, Is t q (.parts k v :: l) ∧ Calm t q v) ∨ (k = .bare ∧ Virt t l q ∧ q = p)) ∧ ((∃ c, t[q]? = some c ∧ isStop k l c = true) ∨ (k = .bare ∧ t[q]? = some 92 ∧ t[q + 1]? = some 10))) ∨
  (q = t.length ∧ (Rd t k l q ∨ RdH t k l q))

noncomputable def PUok (K : Nat → Call) (t : List Nat) (c0 : List Cell) (X : XP) (lo : Nat) : Prop := ∀ n p k l st cells P, c0 <+: cells → lo ≤ p → p ≤ t.length → 4 * (t.length - p) + 10 ≤ n → Rd t k l p → (k = .bare → ∃ s r, l = .script s :: r) → (∀ c, inTup [c] st = some (isStop k l c)) →
  (∀ parts q cells', cells <+: cells' → p ≤ q → q ≤ t.length → PUPost t k l p q → P (.tup [.tup parts, .int (q : Nat)]) cells') → K n 136 [.str t, .int (p : Nat), .tup st] cells P X
end
section
variable {K : Nat → Call}


theorem findFrom_sp (x : Nat) : ∀ (l : List Nat) (i : Nat), (findFrom x l i = Option.none ∧ ∀ j : Nat, l[j]? ≠ some x) ∨ ∃ j : Nat, findFrom x l i = some (i + j) ∧ l[j]? = some x ∧ ∀ k : Nat, k < j → l[k]? ≠ some x
  | [], i => .inl ⟨rfl, fun j => by simp⟩
  | y :: r, i => by
    unfold findFrom
    split
    · rename_i h
      exact .inr ⟨0, by simp, by simp [h], fun k hk => absurd hk (Nat.not_lt_zero _)⟩
    · rename_i h
      rcases findFrom_sp x r (i + 1) with ⟨h1, h2⟩ | ⟨j, h1, h2, h3⟩
      · refine .inl ⟨h1, fun j => ?_⟩
        cases j with
        | zero => simpa using h
        | succ j => simpa using h2 j
      · refine .inr ⟨j + 1, by rw [h1]; congr 1; walk_at "om", by simpa using h2, fun k hk => ?_⟩
        cases k with
        | zero => simpa using h
        | succ k => simpa using h3 k (by walk_at "om")
theorem findD_sp (l : List Nat) (x s : Nat) : (findD l x s = -1 ∧ ∀ j : Nat, s ≤ j → l[j]? ≠ some x) ∨ ∃ q : Nat, findD l x s = q ∧ s ≤ q ∧ l[q]? = some x ∧ ∀ j : Nat, s ≤ j → j < q → l[j]? ≠ some x := by
  unfold findD
  rcases findFrom_sp x (l.drop s) s with ⟨h1, h2⟩ | ⟨j, h1, h2, h3⟩
  · rw [h1]
    refine .inl ⟨rfl, fun j hj => ?_⟩
    have := h2 (j - s)
    rwa [List.getElem?_drop, show s + (j - s) = j by walk_at "om"] at this
  · rw [h1]
    refine .inr ⟨s + j, rfl, by walk_at "om", by rwa [List.getElem?_drop] at h2, fun i g1 g2 => ?_⟩
    have := h3 (i - s) (by walk_at "om")
    rwa [List.getElem?_drop, show s + (i - s) = i by walk_at "om"] at this

theorem nameRun {t : List Nat} {r : List Item} {a : Nat} : ∀ (m : Nat), Is t a (.name :: r) → a + m ≤ t.length → (∀ j, a ≤ j → j < a + m → t[j]? ≠ some 125) → Is t (a + m) (.name :: r)
  | 0, h, _, _ => h
  | m + 1, h, hl, hc => by
    have ih := nameRun m h (by walk_at "om") fun j g1 g2 => hc j g1 (by walk_at "om")
    obtain ⟨c, hcc⟩ := char_at (show a + m < t.length by walk_at "om")
    have := ih.name hcc
    rw [if_neg (fun z => hc (a + m) (by walk_at "om") (by walk_at "om") (by rw [hcc, z]))] at this
    exact this

noncomputable def sText : List Nat := [116, 101, 120, 116]
noncomputable def PartOk (d : D) : Prop := ∃ kk rest, d = .tup (.str kk :: rest) ∧ (kk = sText → ∃ y, rest = [.str [y]])

noncomputable abbrev stV (t : List Nat) (p : Nat) (o3 o4 o5 : Option D) (cells : List Cell) : St := ⟨[some (.str t), some (.int p), some (.int ((p + 1 : Nat) : Int)), o3, o4, o5], cells⟩
noncomputable def VarPost (t : List Nat) (k : PK) (l : List Item) (p : Nat) (cells : List Cell) (P : D → List Cell → Prop) : Prop := ∀ part q v cells', cells <+: cells' → p + 1 ≤ q → q ≤ t.length → Is t q (.parts k v :: l) → Calm t q v → PartOk part → P (.tup [part, .int (q : Nat)]) cells'
theorem partVar {rest : List D} : PartOk (.tup (.str [118, 97, 114] :: rest)) := ⟨_, _, rfl, fun z => by cases z⟩

section
variable {n : Nat} {t : List Nat} {p : Nat} {cells c0 : List Cell} {P : D → List Cell → Prop} {X : XP} {k : PK} {l : List Item}
theorem var_brace {K : Call} {Z : Fl → St → Prop} (ht : t.length ≤ 2 ^ 20) (hc0 : c0 <+: cells) (hX : XOk t c0 X) (ha : t[p + 1]? = some 123) (hs : Is t (p + 1) (.parts k 0 :: l)) (hR : ∀ part q, p + 1 ≤ q → q ≤ t.length → Is t q (.parts k (-1) :: l) → PartOk part → ∀ σ, σ.cells = cells → Z (.ret (.tup [part, .int (q : Nat)])) σ) :
    if decide (findD t 125 (p + 1) < 0) = true then wpS K (.fail [109, 105, 115, 115, 105, 110, 103, 32, 99, 108, 111, 115, 101, 45, 98, 114, 97, 99, 101, 32, 102, 111, 114, 32, 118, 97, 114, 105, 97, 98, 108, 101, 32, 110, 97, 109, 101]) (stV t p (some (.int (findD t 125 (p + 1)))) none none cells) (seqP K b_variable_1 Z X) X else wpS K b_variable_1 (stV t p (some (.int (findD t 125 (p + 1)))) none none cells) Z X := by
  have hl := lt_of_char ha
  have i1 : Is t (p + 1 + 1) (.name :: .parts k (-1) :: l) := hs.step ha (by decide) no_name_p (by simp [stepS, partsS, goesOn])
  rcases findD_sp t 125 (p + 1) with ⟨e, g⟩ | ⟨q, e, g1, g2, g3⟩
  · rw [e]
    refine t_pos (by decide) ?_
    walk_at "wp"
    have i2 := nameRun (t.length - (p + 2)) i1 (by walk_at "om") fun j g1 g2 => g j (Nat.le_of_succ_le g1)
    rw [show p + 1 + 1 + (t.length - (p + 2)) = t.length from Nat.add_sub_cancel' hl] at i2
    obtain ⟨cn, i2⟩ := i2
    exact hX _ _ hc0 (by rw [not_right i2 (fun v q => by cases q) (fun q => by cases q)]; rfl)
  · rw [e]
    have hql := lt_of_char g2
    have hqp : p + 1 < q := Nat.lt_of_le_of_ne g1 fun z => by subst z; rw [ha] at g2; cases g2
    refine t_neg (decide_eq_false (Int.not_lt.mpr (Int.natCast_nonneg q))) ?_
    walk_at "wp"
    unfold b_variable_1
    walk_at "wp"
    have i2 := nameRun (q - (p + 2)) i1 (by walk_at "om") fun j z1 z2 => g3 j (Nat.le_of_succ_le z1) (by walk_at "om")
    rw [show p + 1 + 1 + (q - (p + 2)) = q from Nat.add_sub_cancel' hqp] at i2
    have i3 := i2.name g2
    rw [if_pos rfl] at i3
    exact hR _ (q + 1) (Nat.le_succ_of_le g1) hql i3 partVar _ rfl

theorem var_index {K : Call} {Z : Fl → St → Prop} {q q' : Nat} {parts : D} {cells' : List Cell} (ht : t.length ≤ 2 ^ 20) (hc : c0 <+: cells') (hX : XOk t c0 X) (hq : p + 1 ≤ q') (hq' : q' ≤ t.length) (c4 : PUPost t .index (.parts k (-1) :: l) (q + 1) q') (hR : ∀ part q, p + 1 ≤ q → q ≤ t.length → Is t q (.parts k (-1) :: l) → PartOk part → ∀ σ, σ.cells = cells' → Z (.ret (.tup [part, .int (q : Nat)])) σ) :
    if decide ((t.length : Int) ≤ (q' : Int)) = true then wpS K (.fail [109, 105, 115, 115, 105, 110, 103, 32, 41]) (stV t p (some (.int q')) (some (.int q)) (some parts) cells') (seqP K b_variable_2 Z X) X else wpS K b_variable_2 (stV t p (some (.int q')) (some (.int q)) (some parts) cells') Z X := by
  rcases c4 with ⟨d1, d2, d3⟩ | ⟨rfl, d2⟩
  · refine t_neg (decide_eq_false fun z => absurd d1 (Nat.not_lt.mpr (Int.ofNat_le.mp z))) ?_
    walk_at "wp"
    unfold b_variable_2
    walk_at "wp"
    obtain ⟨v', e1, e2⟩ : ∃ v, Is t q' (.parts .index v :: .parts k (-1) :: l) ∧ Calm t q' v := by
      rcases d2 with d2 | ⟨z, _⟩
      · exact d2
      · cases z
    obtain ⟨c, e3, e4⟩ : ∃ c, t[q']? = some c ∧ isStop .index (.parts k (-1) :: l) c = true := by
      rcases d3 with d3 | ⟨z, _⟩
      · exact d3
      · cases z
    obtain rfl : c = 41 := eq_of_beq e4
    exact hR _ (q' + 1) (Nat.le_succ_of_le hq) d1 (e1.partsCalm e2 e3 (by decide) (by decide) (by simp [partsS0])) partVar _ rfl
  · refine t_pos (decide_eq_true (Int.le_refl _)) ?_
    walk_at "wp"
    refine hX _ _ hc ?_
    have : isRight (At t t.length) = false := by
      rcases d2 with (⟨v', ⟨cn, e1⟩, _⟩ | ⟨z, _⟩) | (⟨cn, e1⟩ | ⟨z, _⟩)
      · exact not_right e1 (fun v q => by cases q) (fun q => by cases q)
      · cases z
      · exact not_right e1 (fun v q => by cases q) (fun q => by cases q)
      · cases z
    rw [this]; rfl

theorem var_5 (H : Prg K) {m : Nat} (ht : t.length ≤ 2 ^ 20) (hp : p < t.length) (hc0 : c0 <+: cells) (hU : PUok K t c0 X (p + 1)) (hX : XOk t c0 X) (hn : 4 * (t.length - p) + 3 ≤ m + 7) (ha : t[p + 1]? ≠ some 123) (hs : Is t (p + 1) (.parts k 0 :: l)) (h : VarPost t k l p cells P) :
    wpS (K (m + 6)) b_variable_5 (stV t p none none none cells) (fun fl σ => P fl.val σ.cells) X := by
  unfold b_variable_5
  walk_at "wp"
  refine c_read_name H ht hp hs fun q v q1 q2 q3 q4 q5 q6 => ?_
  have hv : 0 ≤ v ∧ v ≤ 3 ∧ v ≠ 2 := by
    rcases q4 with ⟨_, rfl⟩ | ⟨_, rfl | rfl⟩ <;> decide
  walk_at "wp"
  rw [seg1_eq]
  refine t_split (fun hb => ?_) (fun hb => ?_)
  · replace hb : t[q]? = some 40 := eq_of_beq hb
    have hql := lt_of_char hb
    have i1 : Is t (q + 1) (.parts .index (-1) :: .parts k (-1) :: l) := q3.step hb (by decide) no_name_p (by simp [stepS, partsS, goesOn, hv.1, hv.2.2])
    walk_at "wp"
    refine hU (m + 6) (q + 1) .index (.parts k (-1) :: l) [.str [41]] cells _ hc0 (Nat.le_succ_of_le q1) hql (by walk_at "om") (.inl ⟨-1, i1, calm_minus _ _⟩) (fun z => by cases z) (fun c => by simp [inTup_c, inTup_n, isStop]) fun parts q' cells' c1 c2 c3 c4 => ?_
    walk_at "wp"
    refine var_index (t := t) ht (hc0.trans c1) hX (Nat.le_trans q1 (Nat.le_of_succ_le c2)) c3 c4 fun part q'' g1 g2 g3 g4 σ e => ?_
    show P _ σ.cells
    rw [e]
    exact h _ _ _ _ c1 g1 g2 g3 (calm_minus _ _) g4
  · replace hb : t[q]? ≠ some 40 := ne_of_beq_false hb
    have calm : Calm t q v := .inr ⟨hv.1, hv.2.1, fun z => by
      rcases q4 with ⟨rfl, _⟩ | ⟨_, rfl | rfl⟩
      · exact absurd z ha
      · decide
      · decide, fun z => absurd z hb, fun c z1 z2 => (by rw [q5 c z1] at z2; cases z2), q6⟩
    walk_at "wp"
    unfold b_variable_4
    walk_at "wp"
    refine t_split (fun hc => ?_) (fun hc => ?_)
    · obtain rfl : q = p + 1 := eN hc
      walk_at "wp"
      exact h _ (p + 1) v cells (List.prefix_refl _) (Nat.le_refl _) q2 q3 calm ⟨_, _, rfl, fun z => ⟨36, rfl⟩⟩
    · walk_at "wp"
      unfold b_variable_3
      walk_at "wp"
      exact h _ q v cells (List.prefix_refl _) q1 q2 q3 calm partVar
end

theorem c_variable (H : Prg K) {n t p cells P X} {c0 : List Cell} {k : PK} {l : List Item} (ht : t.length ≤ 2 ^ 20) (hp : p < t.length) (hc0 : c0 <+: cells) (hU : PUok K t c0 X (p + 1)) (hX : XOk t c0 X) (hn : 4 * (t.length - p) + 3 ≤ n)
    (hs : Is t (p + 1) (.parts k 0 :: l)) (h : VarPost t k l p cells P) :
    K n 115 [.str t, .int (p : Nat)] cells P X := by
  obtain ⟨m, rfl⟩ : ∃ m, n = m + 7 := fuel_of hn hp
  refine H.f115 rfl ?_
  unfold b_variable
  walk_at "wp"
  rw [seg1_eq]
  refine t_split (fun ha => ?_) (fun ha => ?_)
  · replace ha : t[p + 1]? = some 123 := eq_of_beq ha
    walk_at "wp"
    refine ⟨125, p + 1, rfl, rfl, lt_of_char ha |> Nat.le_of_lt, ?_⟩
    walk_at "wp"
    refine (var_brace ht hc0 hX ha hs fun part q g1 g2 g3 g4 σ e => ?_)
    show P _ σ.cells
    rw [e]
    exact h _ _ _ _ (List.prefix_refl _) g1 g2 g3 (calm_minus _ _) g4
  · walk_at "wp"
    exact var_5 H ht hp hc0 hU hX hn (ne_of_beq_false ha) hs h
end
section
variable {K : Nat → Call}


theorem inTups {c : Nat} : ∀ l : List Nat, inTup [c] (l.map fun x => D.str [x]) = some (l.any fun x => c == x)
  | [] => rfl
  | x :: l => by
    rw [List.map_cons, inTup_c, inTups l, List.any_cons]
    exact congrArg (fun q => some (q || l.any fun x => c == x)) eqL1
theorem stops_is {nb : Bool} {s : SS} {r : List Item} (h : nb = true ↔ r ≠ []) (c : Nat) : inTup [c] (stopsOf nb) = some (isStop .bare (.script s :: r) c) := by
  cases nb with
  | true =>
    cases r with
    | nil => exact absurd rfl (h.mp rfl)
    | cons i r =>
      refine (inTups [32, 9, 11, 12, 13, 10, 59, 93]).trans (congrArg some ?_)
      show _ = (isGap c || c == 10 || c == 59 || (c == 93 && true))
      unfold isGap
      simp only [List.any_cons, List.any_nil, Bool.or_assoc, Bool.or_false, Bool.and_true]
  | false =>
    have hr : r = [] := by
      cases r with
      | nil => rfl
      | cons a b => exact absurd (h.mpr (by simp)) (by simp)
    subst hr
    refine (inTups [32, 9, 11, 12, 13, 10, 59]).trans (congrArg some ?_)
    show _ = (isGap c || c == 10 || c == 59 || (c == 93 && false))
    unfold isGap
    simp only [List.any_cons, List.any_nil, Bool.or_assoc, Bool.or_false, Bool.and_false]

theorem isStop_cases {s : SS} {r : List Item} {c : Nat} (h : isStop .bare (.script s :: r) c = true) : isGap c = true ∨ c = 10 ∨ c = 59 ∨ (c = 93 ∧ r ≠ []) := by
  simp only [isStop, Bool.or_eq_true, beq_iff_eq, Bool.and_eq_true, decide_eq_true_eq, List.length_cons] at h
  rcases h with ((h | h) | h) | h
  · exact .inl h
  · exact .inr (.inl h)
  · exact .inr (.inr (.inl h))
  · exact .inr (.inr (.inr ⟨h.1, fun z => by rw [z] at h; simp at h⟩))

theorem behind_wend {t : List Nat} {r : List Item} {q : Nat} (h : Is t q (.script .behind :: r)) (hq : q ≤ t.length) : WEnd t r q := by
  by_cases g : q < t.length
  · exact .inl ⟨g, .inl h⟩
  · have : q = t.length := by walk_at "om"
    subst this
    obtain ⟨cn, h⟩ := h
    exact .inr ⟨rfl, _, _, _, h, .inl ⟨_, rfl, fun _ => rfl⟩⟩
theorem star_wend {t : List Nat} {r : List Item} {q : Nat} (h : Is t q (.script .star :: r)) (hq : q ≤ t.length) (hs : q < t.length → StopQ t r q) : WEnd t r q := by
  by_cases g : q < t.length
  · exact .inl ⟨g, .inr ⟨hs g, .inl h⟩⟩
  · have : q = t.length := by walk_at "om"
    subst this
    obtain ⟨cn, h⟩ := h
    exact .inr ⟨rfl, _, _, _, h, .inl ⟨_, rfl, fun _ => rfl⟩⟩
theorem stopC_Q {t : List Nat} {r : List Item} {q : Nat} (h : StopC t q) (hq : q < t.length) : StopQ t r q := by
  obtain ⟨c, hc⟩ := char_at hq
  rcases h with h | h | h | h
  · rw [hc] at h; cases h
  · exact .inl ⟨10, h, .inr (.inl rfl)⟩
  · exact .inl ⟨59, h, .inr (.inr (.inl rfl))⟩
  · by_cases g : isGap c = true
    · exact .inl ⟨c, hc, .inl g⟩
    · right
      by_cases z : t[q]? = some 92 ∧ t[q + 1]? = some 10
      · exact z
      · refine absurd ⟨fun c' hc' => ?_, z⟩ h
        rw [hc] at hc'; cases hc'
        simpa using g

theorem bare_wend {t : List Nat} {s : SS} {r : List Item} {b q : Nat} (hs : s = .ahead ∨ s = .gap ∨ s = .star) (hb : ∀ c, t[b]? = some c → s ≠ .star → isStop .bare (.script s :: r) c = false) (hg : NoGap t b) (h : PUPost t .bare (.script s :: r) b q) : WEnd t r q := by
  rcases h with ⟨h1, h2, h3⟩ | ⟨rfl, h⟩
  · have hst : StopQ t r q := by
      rcases h3 with ⟨c, a1, a2⟩ | ⟨_, a1, a2⟩
      · exact .inl ⟨c, a1, isStop_cases a2⟩
      · exact .inr ⟨a1, a2⟩
    rcases h2 with ⟨v, h2, h4⟩ | ⟨_, ⟨s', r', e, h5, h6, _⟩, rfl⟩
    · exact .inl ⟨h1, .inr ⟨hst, .inr ⟨v, s, h2, h4⟩⟩⟩
    · cases e
      by_cases z : s = .star
      · subst z; exact .inl ⟨h1, .inr ⟨hst, .inl h6⟩⟩
      · exfalso
        rcases h3 with ⟨c, a1, a2⟩ | ⟨_, a1, a2⟩
        · rw [hb c a1 z] at a2; cases a2
        · exact hg.2 ⟨a1, a2⟩
  · refine .inr ⟨rfl, ?_⟩
    rcases h with (⟨v, ⟨cn, h⟩, _⟩ | ⟨_, s', r', e, h5, ⟨cn, h6⟩, _⟩) | (⟨cn, h⟩ | ⟨_, s', r', e, h5, ⟨cn, h6⟩⟩)
    · exact ⟨_, _, _, h, .inr ⟨v, s, rfl⟩⟩
    · cases e
      exact ⟨_, _, _, h6, .inl ⟨s, rfl, fun _ => rfl⟩⟩
    · exact ⟨_, _, _, h, .inr ⟨-1, s, rfl⟩⟩
    · cases e
      exact ⟨_, _, _, h6, .inl ⟨s, rfl, fun z => by rcases hs with rfl | rfl | rfl <;> cases z⟩⟩

theorem scriptS_brace {s : SS} {r : List Item} (hs : s = .ahead ∨ s = .gap ∨ s = .star) : scriptS s r 123 = (.brace 1 [] (decide (s = .star)) :: .script s :: r, false) := by
  rcases hs with rfl | rfl | rfl <;> simp [scriptS, isGap]
theorem scriptS_quote {s : SS} {r : List Item} (hs : s = .ahead ∨ s = .gap ∨ s = .star) : scriptS s r 34 = (.parts .quote (-1) :: .script s :: r, false) := by
  rcases hs with rfl | rfl | rfl <;> simp [scriptS, isGap]

theorem word_rest (H : Prg K) {n : Nat} {t : List Nat} {b c : Nat} {cells : List Cell} {P : D → List Cell → Prop} {X : XP} {c0 : List Cell} {s : SS} {r : List Item} {nb ex : Bool} (ht : t.length ≤ 2 ^ 20) (hc0 : c0 <+: cells) (hU : PUok K t c0 X b) (hX : XOk t c0 X) (hn : 4 * (t.length - b) + 10 ≤ n) (hnb : nb = true ↔ r ≠ [])
    (hc : t[b]? = some c) (hs : Is t b (.script s :: r)) (hss : s = .ahead ∨ s = .gap ∨ s = .star) (hg : NoGap t b) (hst : s ≠ .star → isStop .bare (.script s :: r) c = false) (h35 : s = .ahead → c ≠ 35)
    (hstar : s ≠ .star → t[b]? = some 123 → t[b + 1]? = some 42 → t[b + 2]? = some 125 → StopC t (b + 3))
    (h : ∀ d q cells', cells <+: cells' → b ≤ q → q ≤ t.length → WEnd t r q → (q = b → s = .star) → P (.tup [d, .int (q : Nat)]) cells') :
    wpS (K n) b_word_5 ⟨[some (.str t), some (.int (b : Nat)), some (.bool nb), some (.bool ex), none, none, none, none, none], cells⟩ (fun fl σ => P fl.val σ.cells) X := by
  have hbl := lt_of_char hc
  obtain ⟨m, rfl⟩ : ∃ m, n = m + 14 := ⟨n - 14, by walk_at "om"⟩
  unfold b_word_5
  walk_at "wp"
  have e : (t.take (b + 1)).drop b = [c] := by rw [seg1, hc]; rfl
  rw [e]
  refine t_split (fun ha => ?_) (fun ha => ?_)
  · replace ha : c = 123 := by first | exact eq_of_beq ha | exact ne_of_beq_false ha | exact ltN ha | exact nltN ha | exact leN ha | exact nleN ha | exact eN ha | exact neN ha | exact nb1 ha | exact nb2 ha | simpa using ha
    subst ha
    have i1 : Is t (b + 1) (.brace 1 [] (decide (s = .star)) :: .script s :: r) := hs.step hc (by decide) no_name_s (scriptS_brace hss)
    walk_at "wp"
    refine c_braces H ht hbl i1 (fun hr => hX _ _ hc0 (by rw [hr]; rfl)) fun made q q1 q2 q3 => ?_
    have we : WEnd t r q := by
      rcases q3 with q3 | ⟨q3, q4, rfl, q5, q6⟩
      · exact behind_wend q3 q2
      · refine star_wend q3 q2 fun hl => stopC_Q (hstar (by simpa using q4) hc q5 q6) hl
    walk_at "wp"
    refine t_split (fun hb => ?_) (fun hb => ?_)
    · walk_at "wp"
      exact h _ q cells (List.prefix_refl _) (by walk_at "om") q2 we (fun z => by walk_at "om")
    · walk_at "wp"
      unfold b_word_1
      walk_at "wp"
      exact h _ q cells (List.prefix_refl _) (by walk_at "om") q2 we (fun z => by walk_at "om")
  · replace ha : c ≠ 123 := by first | exact eq_of_beq ha | exact ne_of_beq_false ha | exact ltN ha | exact nltN ha | exact leN ha | exact nleN ha | exact eN ha | exact neN ha | exact nb1 ha | exact nb2 ha | simpa using ha
    walk_at "wp"
    unfold b_word_4
    walk_at "wp"
    refine t_split (fun hb => ?_) (fun hb => ?_)
    · replace hb : c = 34 := by first | exact eq_of_beq hb | exact ne_of_beq_false hb | exact ltN hb | exact nltN hb | exact leN hb | exact nleN hb | exact eN hb | exact neN hb | exact nb1 hb | exact nb2 hb | simpa using hb
      subst hb
      have i1 : Is t (b + 1) (.parts .quote (-1) :: .script s :: r) := hs.step hc (by decide) no_name_s (scriptS_quote hss)
      walk_at "wp"
      refine hU (m + 14) (b + 1) .quote (.script s :: r) [.str [34]] cells _ hc0 (by walk_at "om") hbl (by walk_at "om") (.inl ⟨-1, i1, calm_minus _ _⟩) (fun z => by cases z) (fun c => by simp [inTup_c, inTup_n, isStop]) fun parts q cells' c1 c2 c3 c4 => ?_
      walk_at "wp"
      rcases c4 with ⟨d1, d2, d3⟩ | ⟨rfl, d2⟩
      · refine t_neg (by simp; walk_at "om") ?_
        walk_at "wp"
        unfold b_word_2
        walk_at "wp"
        obtain ⟨v', e1, e2⟩ : ∃ v, Is t q (.parts .quote v :: .script s :: r) ∧ Calm t q v := by
          rcases d2 with d2 | ⟨z, _⟩
          · exact d2
          · cases z
        obtain ⟨c, e3, e4⟩ : ∃ c, t[q]? = some c ∧ isStop .quote (.script s :: r) c = true := by
          rcases d3 with d3 | ⟨z, _⟩
          · exact d3
          · cases z
        have e4 : c = 34 := by simpa [isStop] using e4
        subst e4
        have i2 : Is t (q + 1) (.script .behind :: r) := e1.partsCalm e2 e3 (by decide) (by decide) (by simp [partsS0, setTop])
        exact h _ (q + 1) cells' c1 (by walk_at "om") (by walk_at "om") (behind_wend i2 (by walk_at "om")) (fun z => by walk_at "om")
      · refine t_pos (by simp) ?_
        walk_at "wp"
        refine hX _ _ (hc0.trans c1) ?_
        have : isRight (At t t.length) = false := by
          rcases d2 with (⟨v', ⟨cn, e1⟩, _⟩ | ⟨z, _⟩) | (⟨cn, e1⟩ | ⟨z, _⟩)
          · exact not_right e1 (fun v q => by cases q) (fun q => by cases q)
          · cases z
          · exact not_right e1 (fun v q => by cases q) (fun q => by cases q)
          · cases z
        rw [this]; rfl
    · replace hb : c ≠ 34 := by first | exact eq_of_beq hb | exact ne_of_beq_false hb | exact ltN hb | exact nltN hb | exact leN hb | exact nleN hb | exact eN hb | exact neN hb | exact nb1 hb | exact nb2 hb | simpa using hb
      walk_at "wp"
      unfold b_word_3
      walk_at "wp"
      refine c_bare_stops H ?_
      walk_at "wp"
      refine hU (m + 14) b .bare (.script s :: r) (stopsOf nb) cells _ hc0 (Nat.le_refl _) (Nat.le_of_lt hbl) hn (.inr ⟨rfl, s, r, rfl, hss, hs, by rw [hc]; simpa using hb, by rw [hc]; simpa using ha, fun z => by rw [hc]; simpa using h35 z⟩) (fun _ => ⟨s, r, rfl⟩) (stops_is hnb) fun parts q cells' c1 c2 c3 c4 => ?_
      walk_at "wp"
      refine h _ q cells' c1 c2 c3 (bare_wend hss (fun c' hc' z => by rw [hc] at hc'; cases hc'; exact hst z) hg c4) fun z => ?_
      subst z
      rcases c4 with ⟨d1, d2, d3⟩ | ⟨d1, d2⟩
      · apply Classical.byContradiction
        intro w
        rcases d3 with ⟨c', a1, a2⟩ | ⟨_, a1, a2⟩
        · rw [hc] at a1; cases a1
          rw [hst w] at a2; cases a2
        · exact hg.2 ⟨a1, a2⟩
      · walk_at "om"

theorem PUok.mono {t : List Nat} {c0 : List Cell} {X : XP} {a b : Nat} (h : PUok K t c0 X a) (hab : a ≤ b) : PUok K t c0 X b := fun n p k l st cells P h0 h1 h2 h3 h4 h5 h6 h7 => h n p k l st cells P h0 (by walk_at "om") h2 h3 h4 h5 h6 h7

theorem c_word (H : Prg K) {n t p c cells P X} {c0 : List Cell} {s : SS} {r : List Item} {nb : Bool} (ht : t.length ≤ 2 ^ 20) (hc0 : c0 <+: cells) (hU : PUok K t c0 X p) (hX : XOk t c0 X) (hn : 4 * (t.length - p) + 11 ≤ n) (hnb : nb = true ↔ r ≠ [])
    (hc : t[p]? = some c) (hs : Is t p (.script s :: r)) (hss : s = .ahead ∨ s = .gap) (hg : NoGap t p) (hst : isStop .bare (.script s :: r) c = false) (h35 : s = .ahead → c ≠ 35)
    (h : ∀ d q cells', cells <+: cells' → p < q → q ≤ t.length → WEnd t r q → P (.tup [d, .int (q : Nat)]) cells') :
    K n 157 [.str t, .int (p : Nat), .bool nb] cells P X := by
  have hpl := lt_of_char hc
  obtain ⟨m, rfl⟩ : ∃ m, n = m + 15 := ⟨n - 15, by walk_at "om"⟩
  have hss' : s = .ahead ∨ s = .gap ∨ s = .star := hss.imp id .inl
  have ns : s ≠ .star := by rcases hss with rfl | rfl <;> decide
  refine H.f157 rfl ?_
  unfold b_word
  walk_at "wp"
  refine c_is_expanded H ht hpl (fun a1 a2 a3 a4 a5 => ?_) fun a1 => ?_
  · obtain ⟨c', b1, b2, b3⟩ := a5
    have i1 : Is t (p + 1) (.brace 1 [] (decide (s = .star)) :: .script s :: r) := hs.step a1 (by decide) no_name_s (scriptS_brace hss')
    rw [decide_eq_false ns] at i1
    have i2 := i1.brace a2 (by decide) (by decide)
    have i3 : Is t (p + 2 + 1) (.script .star :: r) := by
      have := Is.braceEnd (x := [42]) (e := false) (r := .script s :: r) i2 a3
      simpa [setTop] using this
    walk_at "wp"
    refine word_rest H ht hc0 (hU.mono (by walk_at "om")) hX (by walk_at "om") hnb b1 i3 (.inr (.inr rfl)) a4 (fun z => absurd rfl z) (fun z => by cases z) (fun z => absurd rfl z) fun d q cells' c1 c2 c3 c4 _ => ?_
    exact h d q cells' c1 (by walk_at "om") c3 c4
  · walk_at "wp"
    refine word_rest H ht hc0 hU hX (by walk_at "om") hnb hc hs hss' hg (fun _ => hst) h35 (fun _ => a1) fun d q cells' c1 c2 c3 c4 c5 => ?_
    exact h d q cells' c1 (by
      rcases Nat.lt_or_ge p q with z | z
      · exact z
      · exact absurd (c5 (by walk_at "om")) ns) c3 c4
end
section
variable {K : Nat → Call}


noncomputable def NextOK (t : List Nat) (r : List Item) (nx : Nat) : Prop := nx ≤ t.length ∧ (Is t nx (.script .ahead :: r) ∨ (nx = t.length ∧ EndOK t r) ∨ (r ≠ [] ∧ t[nx]? = some 93 ∧ Is t (nx + 1) r))

theorem prefix_set {cells cs : List Cell} {i : Nat} {x : Cell} (h : cells <+: cs) (hi : cells.length ≤ i) : cells <+: cs.set i x := by
  obtain ⟨r, rfl⟩ := h
  rw [List.set_append_right _ _ hi]
  exact List.prefix_append _ _
theorem prefix_get {cs cs' : List Cell} {i : Nat} {x : Cell} (h : cs <+: cs') (e : cs[i]? = some x) : cs'[i]? = some x := by
  obtain ⟨r, rfl⟩ := h
  rw [List.getElem?_append_left (List.getElem?_eq_some_iff.mp e).1]; exact e
theorem get_set {cs : List Cell} {i : Nat} {x y : Cell} (e : cs[i]? = some x) : (cs.set i y)[i]? = some y := by
  rw [List.getElem?_set_self (List.getElem?_eq_some_iff.mp e).1]
theorem get_new {cs : List Cell} {x : Cell} : (cs ++ [x])[cs.length]? = some x := by simp

noncomputable def nextPost (t : List Nat) (r : List Item) (cells : List Cell) (p : Nat) (P : D → List Cell → Prop) : Prop := ∀ x1 x2 x3 nx cells', cells <+: cells' → p < nx → NextOK t r nx → P (.tup [x1, x2, x3, .int (nx : Nat)]) cells'

noncomputable def WordAt (t : List Nat) (r : List Item) (s : SS) (k : Nat) : Prop := ∀ c, t[k]? = some c → isStop .bare (.script s :: r) c = false ∧ (s = .ahead → c ≠ 35)
theorem wordAt {t : List Nat} {r : List Item} {s : SS} {k c : Nat} (hc : t[k]? = some c) (h0 : isGap c = false) (h1 : c ≠ 10) (h2 : c ≠ 59) (h3 : r ≠ [] → c ≠ 93) (h4 : s = .ahead → c ≠ 35) : WordAt t r s k := fun c' hc' => by
  rw [hc] at hc'; cases hc'
  refine ⟨?_, h4⟩
  show (isGap c || c == 10 || c == 59 || (c == 93 && decide ((Item.script s :: r).length > 1))) = false
  rw [h0, beq_false_of_ne h1, beq_false_of_ne h2]
  cases r with
  | nil => exact Bool.and_false _
  | cons i r => rw [beq_false_of_ne (h3 (List.cons_ne_nil _ _))]; rfl
noncomputable abbrev stC (t : List Nat) (o : Option D) (nb : Bool) (b k : Nat) (cl : Nat) (o7 o8 : Option D) (cs : List Cell) : St := ⟨[some (.str t), o, some (.bool nb), some (.int b), some (.int t.length), some (.obj cl), some (.int k), o7, o8], cs⟩
inductive CmdI (t : List Nat) (cells : List Cell) (r : List Item) (nb : Bool) (b : Nat) (o : Option D) : Nat → St → Prop
  | mk {k : Nat} {s : SS} {ws : List D} {cs : List Cell} {o7 o8 : Option D} (h1 : b ≤ k) (h2 : k < t.length) (h3 : cells <+: cs) (h4 : cs[cells.length]? = some (.lst ws)) (h5 : ws.length ≤ k) (h6 : Is t k (.script s :: r)) (h7 : s = .ahead ∨ s = .gap) (h8 : NoGap t k) (h9 : WordAt t r s k) :
    CmdI t cells r nb b o (t.length - k) (stC t o nb b k cells.length o7 o8 cs)

theorem cmd_last {K : Call} {X : XP} {Z : Fl → St → Prop} {t : List Nat} {c0 cells cs : List Cell} {r : List Item} {nb : Bool} {b k q q' : Nat} {o : Option D} {d : D} {ws : List D} {c' : Nat} (ht : t.length ≤ 2 ^ 20) (hX : XOk t c0 X) (hc0 : c0 <+: cs) (hk : b ≤ k) (hkq : k < q) (hqq : q ≤ q') (hz : q' < t.length) (hc' : t[q']? = some c')
    (a2 : InCmd t r q) (inner : q' = q ∨ Is t q' (.script .gap :: r)) (p1 : cells <+: cs) (p2 : cs[cells.length]? = some (.lst ws)) (wl : ws.length ≤ q') (e4 : NoGap t q') (n10 : c' ≠ 10) (n59 : c' ≠ 59) (n93 : r ≠ [] → c' ≠ 93)
    (hZ : ∀ σ, (∃ m, m < t.length - k ∧ CmdI t cells r nb b o m σ) → Z .next σ) :
    wpS K b_command_at_2 (stC t o nb b q' cells.length (some d) (some (.int q)) cs) Z X := by
  unfold b_command_at_2
  walk_at "wp"
  refine t_split (fun hy => ?_) (fun hy => ?_)
  · obtain rfl : q' = q := eN hy
    have hr := a2.extra e4 hc' n10 n59 n93
    obtain ⟨cq, hcq⟩ := char_at (show q' - 1 < t.length by walk_at "om")
    walk_at "wp"
    refine t_split (fun _ => ?_) (fun _ => ?_)
    · walk_at "wp"
      exact hX _ _ hc0 (by rw [hr]; rfl)
    · walk_at "wp"
      unfold b_command_at_1
      walk_at "wp"
      exact hX _ _ hc0 (by rw [hr]; rfl)
  · have z := inner.resolve_left (neN hy)
    walk_at "wp"
    exact hZ _ ⟨_, Nat.sub_lt_sub_left (Nat.lt_trans (Nat.lt_of_lt_of_le hkq hqq) hz) (Nat.lt_of_lt_of_le hkq hqq), .mk (Nat.le_trans hk (Nat.le_of_lt (Nat.lt_of_lt_of_le hkq hqq))) hz p1 p2 wl z (.inr rfl) e4 (wordAt hc' (e4.1 c' hc') n10 n59 n93 fun w => nomatch w)⟩

theorem cmd_4 {K : Call} {X : XP} {Z : Fl → St → Prop} {t : List Nat} {c0 cells cs : List Cell} {r : List Item} {nb : Bool} {b k q q' : Nat} {o : Option D} {d : D} {ws : List D} (ht : t.length ≤ 2 ^ 20) (hX : XOk t c0 X) (hc0 : c0 <+: cs) (hnb : nb = true ↔ r ≠ []) (hk : b ≤ k) (hkq : k < q) (hqq : q ≤ q') (hz : q' < t.length)
    (a2 : InCmd t r q) (inner : q' = q ∨ Is t q' (.script .gap :: r)) (p1 : cells <+: cs) (p2 : cs[cells.length]? = some (.lst ws)) (wl : ws.length ≤ q') (e4 : NoGap t q')
    (hZ : ∀ σ, (∃ m, m < t.length - k ∧ CmdI t cells r nb b o m σ) → Z .next σ) (hR : ∀ x1 x2 x3 nx σ, σ.cells = cs → b < nx → NextOK t r nx → Z (.ret (.tup [x1, x2, x3, .int (nx : Nat)])) σ) :
    wpS K b_command_at_4 (stC t o nb b q' cells.length (some d) (some (.int q)) cs) Z X := by
  obtain ⟨c', hc'⟩ := char_at hz
  have hbq : b < q' := Nat.lt_of_le_of_lt hk (Nat.lt_of_lt_of_le hkq hqq)
  have tup : ∀ {Q : List D → Prop}, Q ws → ∃ n l, D.obj cells.length = .obj n ∧ cs[n]? = some (.lst l) ∧ l.length ≤ 2 ^ 20 ∧ Q l := fun q => ⟨_, _, rfl, p2, Nat.le_trans wl (Nat.le_trans (Nat.le_of_lt hz) ht), q⟩
  unfold b_command_at_4
  walk_at "wp"
  refine t_split (fun hl => ?_) (fun hl => ?_)
  · replace hl : c' = 10 ∨ c' = 59 := by simpa using hl
    walk_at "wp"
    refine tup ?_
    walk_at "wp"
    refine hR _ _ _ (q' + 1) _ rfl (Nat.lt_succ_of_lt hbq) ⟨hz, .inl ?_⟩
    rcases inner with rfl | z
    · exact a2.line hc' hl
    · exact z.step hc' (by walk_at "om") no_name_s (scriptS_line (by decide) hl)
  · replace hl : c' ≠ 10 ∧ c' ≠ 59 := by simpa using hl
    walk_at "wp"
    unfold b_command_at_3
    walk_at "wp"
    refine t_split (fun hy => ?_) (fun hy => ?_)
    · subst hy
      have hr : r ≠ [] := hnb.mp rfl
      walk_at "wp"
      refine t_split (fun hx => ?_) (fun hx => ?_)
      · obtain rfl : c' = 93 := eq_of_beq hx
        walk_at "wp"
        refine tup ?_
        walk_at "wp"
        refine hR _ _ _ q' _ rfl hbq ⟨Nat.le_of_lt hz, .inr (.inr ⟨hr, hc', ?_⟩)⟩
        rcases inner with rfl | z
        · exact a2.close hc' hr
        · exact z.step hc' (by decide) no_name_s (scriptS_close (by decide) hr)
      · walk_at "wp"
        exact cmd_last ht hX hc0 hk hkq hqq hz hc' a2 inner p1 p2 wl e4 hl.1 hl.2 (fun _ => ne_of_beq_false hx) hZ
    · subst hy
      walk_at "wp"
      exact cmd_last ht hX hc0 hk hkq hqq hz hc' a2 inner p1 p2 wl e4 hl.1 hl.2 (fun w => nomatch hnb.mpr w) hZ

theorem cmd_turn (H : Prg K) {m : Nat} {X : XP} {Z : Fl → St → Prop} {t : List Nat} {c0 cells cs : List Cell} {r : List Item} {nb : Bool} {b k : Nat} {o o7 o8 : Option D} {s : SS} {ws : List D} (ht : t.length ≤ 2 ^ 20) (hc0 : c0 <+: cells) (hU : PUok K t c0 X b) (hX : XOk t c0 X) (hn : 4 * (t.length - k) + 11 ≤ m + 15) (hnb : nb = true ↔ r ≠ [])
    (h1 : b ≤ k) (h2 : k < t.length) (h3 : cells <+: cs) (h4 : cs[cells.length]? = some (.lst ws)) (h5 : ws.length ≤ k) (h6 : Is t k (.script s :: r)) (h7 : s = .ahead ∨ s = .gap) (h8 : NoGap t k) (h9 : WordAt t r s k)
    (hZ : ∀ σ, (∃ m, m < t.length - k ∧ CmdI t cells r nb b o m σ) → Z .next σ) (hR : ∀ x1 x2 x3 nx σ, cells <+: σ.cells → b < nx → NextOK t r nx → Z (.ret (.tup [x1, x2, x3, .int (nx : Nat)])) σ) :
    wpS (K (m + 15)) b_command_at_5 (stC t o nb b k cells.length o7 o8 cs) Z X := by
  obtain ⟨c, hc⟩ := char_at h2
  obtain ⟨g1, g2⟩ := h9 c hc
  unfold b_command_at_5
  walk_at "wp"
  refine c_word H ht (hc0.trans h3) (hU.mono h1) hX hn hnb hc h6 h7 h8 g1 g2 fun d q cs' c1 c2 c3 c4 => ?_
  have h4' := prefix_get c1 h4
  have hws : ws.length ≤ 2 ^ 20 := Nat.le_trans h5 (Nat.le_trans (Nat.le_of_lt h2) ht)
  walk_at "wp"
  refine ⟨_, ws, rfl, h4', ?_⟩
  walk_at "wp"
  refine ⟨ws, h4', hws, ?_⟩
  have p1 : cells <+: cs'.set cells.length (.lst (ws ++ [d])) := prefix_set (h3.trans c1) (Nat.le_refl _)
  have p2 : (cs'.set cells.length (.lst (ws ++ [d])))[cells.length]? = some (.lst (ws ++ [d])) := get_set h4'
  generalize cs'.set cells.length (.lst (ws ++ [d])) = cs2 at p1 p2
  have wl : (ws ++ [d]).length ≤ q := by rw [List.length_append]; exact Nat.le_trans (Nat.succ_le_succ h5) c2
  generalize ws ++ [d] = ws2 at p2 wl
  walk_at "wp"
  refine c_skip_gaps H ht c3 fun q' e1 e2 e3 e4 => ?_
  walk_at "wp"
  refine t_split (fun hz => ?_) (fun hz => ?_)
  · obtain rfl : q' = t.length := Nat.le_antisymm e2 (leN hz)
    walk_at "wp"
    refine ⟨_, _, rfl, p2, Nat.le_trans wl (Nat.le_trans e1 ht), ?_⟩
    walk_at "wp"
    refine hR _ _ _ t.length _ p1 (Nat.lt_of_le_of_lt h1 h2) ⟨Nat.le_refl _, .inr (.inl ⟨rfl, ?_⟩)⟩
    rcases c4 with ⟨a1, a2⟩ | ⟨_, a2⟩
    · rcases a2.gaps e3 with z | ⟨cn, z⟩
      · exact absurd z (by walk_at "om")
      · exact ⟨_, _, _, z, .inl ⟨_, rfl, fun _ => rfl⟩⟩
    · exact a2
  · replace hz : q' < t.length := Nat.lt_of_not_le (nleN hz)
    obtain ⟨a1, a2⟩ : q < t.length ∧ InCmd t r q := c4.resolve_right fun z => absurd z.1 (Nat.ne_of_lt (Nat.lt_of_le_of_lt e1 hz))
    walk_at "wp"
    exact cmd_4 ht hX (hc0.trans p1) hnb h1 c2 e1 hz a2 (a2.gaps e3) p1 p2 (Nat.le_trans wl e1) e4 hZ fun x1 x2 x3 nx σ q => hR x1 x2 x3 nx σ (q ▸ p1)

theorem cmd_core (H : Prg K) {n : Nat} {t : List Nat} {b : Nat} {cells : List Cell} {P : D → List Cell → Prop} {X : XP} {c0 : List Cell} {r : List Item} {nb : Bool} {o : Option D} (ht : t.length ≤ 2 ^ 20) (hc0 : c0 <+: cells) (hU : PUok K t c0 X b) (hX : XOk t c0 X) (hn : 4 * (t.length - b) + 11 ≤ n) (hnb : nb = true ↔ r ≠ [])
    (hb : b < t.length) (hq : Quiet t b) (hs : Is t b (.script .ahead :: r)) (h93 : r ≠ [] → t[b]? ≠ some 93) (h : nextPost t r cells b P) :
    wpS (K n) b_command_at_6 ⟨[some (.str t), o, some (.bool nb), some (.int (b : Nat)), some (.int t.length), none, none, none, none], cells⟩ (fun fl σ => P fl.val σ.cells) X := by
  obtain ⟨m, rfl⟩ : ∃ m, n = m + 15 := fuel_of hn hb
  obtain ⟨c, hc⟩ := char_at hb
  obtain ⟨q1, q2, q3, q4⟩ := hq
  have ne : ∀ {x}, t[b]? ≠ some x → c ≠ x := fun q z => q (z ▸ hc)
  unfold b_command_at_6
  walk_at "wp"
  refine s_whl (CmdI t cells r nb b o) (t.length - b) (.mk (Nat.le_refl _) hb (List.prefix_append _ _) get_new (Nat.zero_le _) hs (.inl rfl) q1 (wordAt hc (q1.1 c hc) (ne q2) (ne q3) (fun w => ne (h93 w)) fun _ => ne q4)) ?_
  rintro _ _ ⟨h1, h2, h3, h4, h5, h6, h7, h8, h9⟩
  walk_at "wp"
  exact cmd_turn H ht hc0 hU hX (fuel_mono hn h1) hnb h1 h2 h3 h4 h5 h6 h7 h8 h9 (fun _ q => q) fun x1 x2 x3 nx σ p => h x1 x2 x3 nx σ.cells p
end
section
variable {K : Nat → Call}


theorem v_sub_tupL {c : List Cell} {l : List D} {k : Nat} {i : Int} {x : D} {Q : D → Prop} (hi : i = (k : Int)) (e : l[k]? = some x) (hk : k < 2 ^ 40) (h : Q x) : ∃ d, subD c (.tup l) (.int i) = some d ∧ Q d := by
  subst hi; exact v_sub_tup e hk h

theorem quiet_93 {t : List Nat} {p : Nat} (h : t[p]? = some 93) : Quiet t p := by
  refine ⟨⟨fun c hc => ?_, fun z => ?_⟩, ?_, ?_, ?_⟩
  · rw [h] at hc; cases hc; rfl
  · rw [h] at z; cases z.1
  · rw [h]; simp
  · rw [h]; simp
  · rw [h]; simp
theorem quiet_end {t : List Nat} {p : Nat} (h : t.length ≤ p) : Quiet t p := by
  have e : t[p]? = none := List.getElem?_eq_none_iff.mpr h
  exact ⟨NoGap.atEnd h, by rw [e]; simp, by rw [e]; simp, by rw [e]; simp⟩

theorem c_command_nested (H : Prg K) {n t p cells P X} {c0 : List Cell} {r : List Item} (ht : t.length ≤ 2 ^ 20) (hc0 : c0 <+: cells) (hU : PUok K t c0 X p) (hX : XOk t c0 X) (hn : 4 * (t.length - p) + 12 ≤ n) (hr : r ≠ [])
    (hp : p < t.length) (hq : Quiet t p) (hs : Is t p (.script .ahead :: r)) (h93 : t[p]? ≠ some 93) (h : nextPost t r cells p P) : K n 165 [.str t, .int (p : Nat), .bool true] cells P X := by
  obtain ⟨m, rfl⟩ : ∃ m, n = m + 16 := fuel_of hn hp
  obtain ⟨c, hc⟩ := char_at hp
  refine H.f165 rfl ?_
  unfold b_command_at
  walk_at "wp"
  refine c_skip_stay H ht (Nat.le_of_lt hp) hq ?_
  walk_at "wp"
  refine t_neg (by simp; walk_at "om") ?_
  walk_at "wp"
  refine t_neg ?_ ?_
  · rw [hc] at h93; simpa using h93
  walk_at "wp"
  exact cmd_core H ht hc0 hU hX (by walk_at "om") (by simp [hr]) hp hq hs (fun _ => h93) h

theorem c_command_top (H : Prg K) {n t p cells P X} {c0 : List Cell} (ht : t.length ≤ 2 ^ 20) (hc0 : c0 <+: cells) (hU : PUok K t c0 X p) (hX : XOk t c0 X) (hn : 4 * (t.length - p) + 12 ≤ n)
    (hp : p ≤ t.length) (hs : Is t p [.script .ahead] ∨ (p = t.length ∧ EndOK t [])) (h : nextPost t [] cells p P) (h0 : EndOK t [] → P .none cells) : K n 165 [.str t, .int (p : Nat)] cells P X := by
  obtain ⟨m, rfl⟩ : ∃ m, n = m + 12 := fuel0 hn
  refine H.f165d rfl ?_
  unfold b_command_at
  walk_at "wp"
  have cont : ∀ q : Nat, p ≤ q → q ≤ t.length → Quiet t q → ((q < t.length ∧ Is t q [.script .ahead]) ∨ (q = t.length ∧ EndOK t [])) →
      wpS (K (m + 11)) (.seq (.asg 4 (.len (.loc 0))) (.seq (.ite (.or (.cmp .ge (.loc 3) (.loc 4)) (.and (.loc 2) (.cmp .eq (.sub (.loc 0) (.loc 3)) (.cst (.str [93]))))) (.ret (.cst .none)) .skip) b_command_at_6))
        ⟨[some (.str t), some (.int (p : Nat)), some (.bool false), some (.int (q : Nat)), none, none, none, none, none], cells⟩ (fun fl σ => P fl.val σ.cells) X := fun q h1 h2 h3 h4 => by
    walk_at "wp"
    rcases h4 with ⟨h4, h5⟩ | ⟨rfl, h5⟩
    · refine t_neg (by simp; walk_at "om") ?_
      walk_at "wp"
      exact cmd_core H ht hc0 (hU.mono h1) hX (by walk_at "om") (by simp) h4 h3 h5 (fun z => absurd rfl z) fun x1 x2 x3 nx cells' a1 a2 a3 => h x1 x2 x3 nx cells' a1 (by walk_at "om") a3
    · refine t_pos (by simp) ?_
      walk_at "wp"
      exact h0 h5
  rcases hs with hs | ⟨rfl, hs⟩
  · refine c_skip_to_command H ht hp hs fun q q1 q2 q3 q4 => ?_
    exact cont q q1 q2 q3 (q4.imp id fun z => ⟨z.1, z.2.ok⟩)
  · refine c_skip_stay H ht hp (quiet_end (Nat.le_refl _)) ?_
    exact cont _ hp (Nat.le_refl _) (quiet_end (Nat.le_refl _)) (.inr ⟨rfl, hs⟩)

inductive BkAt (t : List Nat) (r : List Item) (k : Nat) : Prop
  | close (h : t[k]? = some 93) (hI : Is t (k + 1) r)
  | more (hk : k < t.length) (h : t[k]? ≠ some 93) (hI : Is t k (.script .ahead :: r))
  | done (h : k = t.length) (hE : EndOK t r)
noncomputable abbrev stK (t : List Nat) (p k : Nat) (o : Option D) (cs : List Cell) : St := ⟨[some (.str t), some (.int (p : Nat)), some (.int ((p + 1 : Nat) : Int)), some (.int k), o], cs⟩
inductive BkI (t : List Nat) (p : Nat) (cells : List Cell) (r : List Item) : Nat → St → Prop
  | mk {k : Nat} {cs : List Cell} {o : Option D} (h1 : cells <+: cs) (h2 : p + 1 ≤ k) (h3 : k ≤ t.length) (h4 : Quiet t k) (h5 : BkAt t r k) : BkI t p cells r (t.length - k) (stK t p k o cs)
theorem bk_stand {t : List Nat} {r : List Item} {q : Nat} (hr : r ≠ []) (h3 : (q < t.length ∧ Is t q (.script .ahead :: r)) ∨ (q = t.length ∧ EndOK t r)) : BkAt t r q := by
  rcases h3 with ⟨h3, h4⟩ | h3
  · by_cases z : t[q]? = some 93
    · exact .close z (h4.step z (by decide) no_name_s (scriptS_close (by decide) hr))
    · exact .more h3 z h4
  · exact .done h3.1 h3.2

theorem bk_turn (H : Prg K) {m : Nat} {t : List Nat} {p k : Nat} {c0 cells cs : List Cell} {r : List Item} {X : XP} {o : Option D} {Z : Fl → St → Prop} (ht : t.length ≤ 2 ^ 20) (hc0 : c0 <+: cells) (hU : PUok K t c0 X k) (hX : XOk t c0 X) (hn : 4 * (t.length - k) + 12 ≤ m + 12) (hr : r ≠ [])
    (h1 : cells <+: cs) (h2 : p + 1 ≤ k) (h4 : Quiet t k) (hlt : k < t.length) (n93 : t[k]? ≠ some 93) (hI : Is t k (.script .ahead :: r)) (hZ : ∀ σ, (∃ m, m < t.length - k ∧ BkI t p cells r m σ) → Z .next σ) :
    wpS (K (m + 12)) b_brackets_1 (stK t p k o cs) Z X := by
  unfold b_brackets_1
  walk_at "wp"
  refine c_command_nested H ht (hc0.trans h1) hU hX hn hr hlt h4 hI n93 fun x1 x2 x3 nx cs' c1 c2 c3 => ?_
  walk_at "wp"
  refine v_sub_tupL (k := 3) rfl rfl (by decide) ?_
  walk_at "wp"
  obtain ⟨d1, d2⟩ := c3
  have fin : ∀ q' : Nat, nx ≤ q' → q' ≤ t.length → Quiet t q' → BkAt t r q' → Z .next (stK t p q' (some (.tup [x1, x2, x3, .int (nx : Nat)])) cs') := fun q' e1 e2 e3 e4 =>
    hZ _ ⟨_, Nat.sub_lt_sub_left hlt (Nat.lt_of_lt_of_le c2 e1), .mk (h1.trans c1) (Nat.le_trans h2 (Nat.le_of_lt (Nat.lt_of_lt_of_le c2 e1))) e2 e3 e4⟩
  rcases d2 with d2 | ⟨rfl, d2⟩ | ⟨_, d2, d3⟩
  · refine c_skip_to_command H ht d1 d2 fun q' e1 e2 e3 e4 => ?_
    walk_at "wp"
    exact fin q' e1 e2 e3 (bk_stand hr (e4.imp id fun z => ⟨z.1, z.2.ok⟩))
  · refine c_skip_stay H ht d1 (quiet_end (Nat.le_refl _)) ?_
    walk_at "wp"
    exact fin _ (Nat.le_refl _) d1 (quiet_end (Nat.le_refl _)) (.done rfl d2)
  · refine c_skip_stay H ht d1 (quiet_93 d2) ?_
    walk_at "wp"
    exact fin _ (Nat.le_refl _) d1 (quiet_93 d2) (.close d2 d3)

theorem bk_done {K : Call} {t : List Nat} {p k : Nat} {cs : List Cell} {X : XP} {o : Option D} {Z : Fl → St → Prop} (ht : t.length ≤ 2 ^ 20) (h2 : p + 1 ≤ k) (hlt : k < t.length) (h : ∀ x σ, σ.cells = cs → Z (.ret (.tup [.str x, .int ((k + 1 : Nat) : Int)])) σ) : wpS K b_brackets_3 (stK t p k o cs) Z X := by
  unfold b_brackets_3
  walk_at "wp"
  refine t_neg (by simp; walk_at "om") ?_
  walk_at "wp"
  unfold b_brackets_2
  walk_at "wp"
  exact h _ _ rfl

theorem c_brackets (H : Prg K) {n t p cells P X} {c0 : List Cell} {r : List Item} (ht : t.length ≤ 2 ^ 20) (hc0 : c0 <+: cells) (hU : PUok K t c0 X (p + 1)) (hX : XOk t c0 X) (hn : 4 * (t.length - p) + 9 ≤ n) (hr : r ≠ [])
    (hp : p < t.length) (hs : Is t (p + 1) (.script .ahead :: r)) (h : ∀ x q cells', cells <+: cells' → p + 2 ≤ q → q ≤ t.length → Is t q r → P (.tup [.str x, .int (q : Nat)]) cells') :
    K n 122 [.str t, .int (p : Nat)] cells P X := by
  obtain ⟨m, rfl⟩ : ∃ m, n = m + 13 := fuel_of hn hp
  refine H.f122 rfl ?_
  unfold b_brackets
  walk_at "wp"
  refine c_skip_to_command H ht hp hs fun q q1 q2 q3 q4 => ?_
  walk_at "wp"
  refine s_whl (BkI t p cells r) (t.length - q) (.mk (List.prefix_refl _) q1 q2 q3 (bk_stand hr (q4.imp id fun z => ⟨z.1, z.2.ok⟩))) ?_
  clear q4 q3 q2 q1 q
  rintro _ _ ⟨h1, h2, h3, h4, h5⟩
  rename_i k cs o
  walk_at "wp"
  refine t_split (fun hlt => ?_) (fun hlt => ?_)
  · replace hlt : k < t.length := ltN hlt
    obtain ⟨c, hc⟩ := char_at hlt
    walk_at "wp"
    refine t_split (fun hx => ?_) (fun hx => ?_)
    · replace hx : c ≠ 93 := nb1 hx
      cases h5 with
      | close h => exact absurd (Option.some.inj (hc.symm.trans h)) hx
      | done h => exact absurd h (Nat.ne_of_lt hlt)
      | more hk n93 hI => exact bk_turn H ht hc0 (hU.mono h2) hX (Nat.le_of_succ_le_succ (fuel_lt hn h2 hp)) hr h1 h2 h4 hlt n93 hI fun _ q => q
    · obtain rfl : c = 93 := nb2 hx
      walk_at "wp"
      cases h5 with
      | close h5 hI =>
        refine bk_done ht h2 hlt fun x σ q => ?_
        show P _ σ.cells
        rw [q]
        exact h _ (k + 1) cs h1 (Nat.succ_le_succ h2) hlt hI
      | done h => exact absurd h (Nat.ne_of_lt hlt)
      | more hk n93 hI => exact absurd hc n93
  · replace hlt : ¬ k < t.length := nltN hlt
    have hE : EndOK t r := by
      cases h5 with
      | close h => exact absurd (lt_of_char h) hlt
      | done h hE => exact hE
      | more hk => exact absurd hk hlt
    walk_at "wp"
    unfold b_brackets_3
    walk_at "wp"
    refine t_pos (by simp; walk_at "om") ?_
    walk_at "wp"
    exact hX _ _ (hc0.trans h1) (by rw [hE.wrong hr]; rfl)
end
section
variable {K : Nat → Call}


noncomputable def RdAt (t : List Nat) (k : PK) (l : List Item) (p j : Nat) : Prop := (∃ v, Is t j (.parts k v :: l) ∧ Calm t j v) ∨ (k = .bare ∧ Virt t l j ∧ j = p)
theorem RdAt.rd {t : List Nat} {k : PK} {l : List Item} {p j : Nat} (h : RdAt t k l p j) : Rd t k l j := h.imp id fun z => ⟨z.1, z.2.1⟩

noncomputable abbrev stP (t : List Nat) (j : Nat) (st : List D) (cl : Nat) (run : List Nat) (o6 o7 o8 o9 : Option D) (cs : List Cell) : St := ⟨[some (.str t), some (.int j), some (.tup st), some (.obj cl), some (.str run), some (.int t.length), o6, o7, o8, o9], cs⟩
structure PUAt (cells : List Cell) (p j : Nat) (run : List Nat) (cs : List Cell) (ps : List D) : Prop where
  h1 : cells <+: cs
  h2 : cs[cells.length]? = some (.lst ps)
  h3 : ps.length ≤ 2 * j
  h4 : run.length ≤ j
  h5 : p ≤ j
noncomputable def RdE (t : List Nat) (k : PK) (l : List Item) (p j : Nat) : Prop := RdAt t k l p j ∨ (j = t.length ∧ RdH t k l j)
inductive PUI (t : List Nat) (k : PK) (l : List Item) (st : List D) (cells : List Cell) (p : Nat) : Nat → St → Prop
  | mk {j : Nat} {run : List Nat} {ps : List D} {cs : List Cell} {o6 o7 o8 o9 : Option D} (h : PUAt cells p j run cs ps) (h6 : j ≤ t.length) (h7 : RdE t k l p j) : PUI t k l st cells p (t.length - j) (stP t j st cells.length run o6 o7 o8 o9 cs)
theorem PUI.of {t : List Nat} {k : PK} {l : List Item} {st : List D} {cells : List Cell} {p j q : Nat} {run : List Nat} {ps : List D} {cs : List Cell} {o6 o7 o8 o9 : Option D} (h : PUAt cells p q run cs ps) (h6 : q ≤ t.length) (h7 : RdE t k l p q) (hj : j < q) :
    ∃ m, m < t.length - j ∧ PUI t k l st cells p m (stP t q st cells.length run o6 o7 o8 o9 cs) := ⟨_, Nat.sub_lt_sub_left (Nat.lt_of_lt_of_le hj h6) hj, .mk h h6 h7⟩
theorem PUAt.add {cells cs : List Cell} {p j q : Nat} {run run' : List Nat} {ps : List D} {d : D} (h : PUAt cells p j run cs ps) (hq : j < q) (hr : run'.length ≤ q) : PUAt cells p q run' (cs.set cells.length (.lst (ps ++ [d]))) (ps ++ [d]) :=
  ⟨prefix_set h.h1 (Nat.le_refl _), get_set h.h2, by have := h.h3; rw [List.length_append, List.length_singleton]; walk_at "om", hr, Nat.le_trans h.h5 (Nat.le_of_lt hq)⟩

noncomputable def PartIs (d : D) (m : Nat) : Prop := ∃ kk rest, d = .tup (.str kk :: rest) ∧ (kk = sText → ∃ y, rest = [.str y] ∧ y.length ≤ m)

theorem pu_tail {K : Call} {t : List Nat} {k : PK} {l : List Item} {st : List D} {cells cs : List Cell} {p j q : Nat} {run : List Nat} {ps : List D} {d : D} {o7 o8 o9 : Option D} {Z : Fl → St → Prop} {X : XP}
    (ht : t.length ≤ 2 ^ 18) (h : PUAt cells p j run cs ps) (h6 : j < q) (h7 : q ≤ t.length) (hd : PartIs d (q - j)) (hR : RdE t k l p q) (hZ : ∀ σ, (∃ m, m < t.length - j ∧ PUI t k l st cells p m σ) → Z .next σ) :
    wpS K b_parts_until_5 (stP t q st cells.length run (some d) o7 o8 o9 cs) Z X := by
  obtain ⟨kk, rest, rfl, hk⟩ := hd
  have jt : j ≤ 2 ^ 18 := Nat.le_trans (Nat.le_of_lt (Nat.lt_of_lt_of_le h6 h7)) ht
  have pl : ps.length ≤ 2 ^ 19 := by have := h.h3; walk_at "om"
  have rl := h.h4
  unfold b_parts_until_5
  walk_at "wp"
  refine v_sub_tupL (k := 0) rfl rfl (by decide) ?_
  walk_at "wp"
  refine t_split (fun ha => ?_) (fun ha => ?_)
  · obtain ⟨y, rfl, hy⟩ := hk (eq_of_beq ha)
    walk_at "wp"
    refine v_sub_tupL (k := 1) rfl rfl (by decide) ?_
    walk_at "wp"
    have hl : (run ++ y).length ≤ q := by rw [List.length_append]; walk_at "om"
    refine v_cat (Nat.le_trans hl (Nat.le_trans h7 (Nat.le_trans ht (by decide)))) ?_
    walk_at "wp"
    exact hZ _ (PUI.of ⟨h.h1, h.h2, Nat.le_trans h.h3 (Nat.mul_le_mul_left 2 (Nat.le_of_lt h6)), hl, Nat.le_trans h.h5 (Nat.le_of_lt h6)⟩ h7 hR h6)
  · walk_at "wp"
    refine t_split (fun hb => ?_) (fun hb => ?_)
    · walk_at "wp"
      refine ⟨_, ps, rfl, h.h2, ?_⟩
      walk_at "wp"
      refine ⟨ps, h.h2, Nat.le_trans pl (by decide), ?_⟩
      have p1 : cells <+: cs.set cells.length (.lst (ps ++ [.tup [.str [116, 101, 120, 116], .str run]])) := prefix_set h.h1 (Nat.le_refl _)
      have p2 := get_set (y := .lst (ps ++ [.tup [.str [116, 101, 120, 116], .str run]])) h.h2
      have p3 : (ps ++ [D.tup [.str [116, 101, 120, 116], .str run]]).length ≤ 2 * j + 1 := by rw [List.length_append]; exact Nat.succ_le_succ h.h3
      generalize cs.set cells.length (.lst (ps ++ [.tup [.str [116, 101, 120, 116], .str run]])) = cs2 at p1 p2
      generalize ps ++ [D.tup [.str [116, 101, 120, 116], .str run]] = ps2 at p2 p3
      walk_at "wp"
      unfold b_parts_until_4
      walk_at "wp"
      refine ⟨_, ps2, rfl, p2, ?_⟩
      walk_at "wp"
      refine ⟨ps2, p2, by walk_at "om", ?_⟩
      walk_at "wp"
      exact hZ _ (PUI.of ⟨prefix_set p1 (Nat.le_refl _), get_set p2, by rw [List.length_append, List.length_singleton]; walk_at "om", Nat.zero_le _, Nat.le_trans h.h5 (Nat.le_of_lt h6)⟩ h7 hR h6)
    · walk_at "wp"
      unfold b_parts_until_4
      walk_at "wp"
      refine ⟨_, ps, rfl, h.h2, ?_⟩
      walk_at "wp"
      refine ⟨ps, h.h2, Nat.le_trans pl (by decide), ?_⟩
      walk_at "wp"
      exact hZ _ (PUI.of (h.add h6 (Nat.le_trans rl (Nat.le_of_lt h6))) h7 hR h6)

theorem pu_fin {n : Nat} {t : List Nat} {k : PK} {l : List Item} {st : List D} {cells cs : List Cell} {p q : Nat} {run : List Nat} {ps : List D} {o6 o7 o8 o9 : Option D} {P : D → List Cell → Prop} {X : XP}
    (ht : t.length ≤ 2 ^ 20) (h1 : cells <+: cs) (h2 : cs[cells.length]? = some (.lst ps)) (h3 : ps.length < 2 ^ 20) (h5 : p ≤ q) (h7 : q ≤ t.length) (hq : PUPost t k l p q)
    (h : ∀ parts q cells', cells <+: cells' → p ≤ q → q ≤ t.length → PUPost t k l p q → P (.tup [.tup parts, .int (q : Nat)]) cells') :
    wpS (K n) b_parts_until_8 ⟨[some (.str t), some (.int (q : Nat)), some (.tup st), some (.obj cells.length), some (.str run), some (.int t.length), o6, o7, o8, o9], cs⟩ (fun fl σ => P fl.val σ.cells) X := by
  unfold b_parts_until_8
  walk_at "wp"
  refine t_split (fun hb => ?_) (fun hb => ?_)
  · walk_at "wp"
    refine ⟨_, ps, rfl, h2, ?_⟩
    walk_at "wp"
    refine ⟨ps, h2, by walk_at "om", ?_⟩
    have p1 : cells <+: cs.set cells.length (.lst (ps ++ [.tup [.str [116, 101, 120, 116], .str run]])) := prefix_set h1 (Nat.le_refl _)
    have p2 := get_set (y := .lst (ps ++ [.tup [.str [116, 101, 120, 116], .str run]])) h2
    walk_at "wp"
    unfold b_parts_until_7
    walk_at "wp"
    refine ⟨_, _, rfl, p2, by simp; walk_at "om", ?_⟩
    walk_at "wp"
    exact h _ q _ p1 h5 h7 hq
  · walk_at "wp"
    unfold b_parts_until_7
    walk_at "wp"
    refine ⟨_, _, rfl, h2, by walk_at "om", ?_⟩
    walk_at "wp"
    exact h _ q _ h1 h5 h7 hq

theorem rdAt_of {t : List Nat} {k : PK} {l : List Item} {p j : Nat} (h : RdE t k l p j) (hlt : j < t.length) : RdAt t k l p j := h.resolve_right fun z => absurd z.1 (Nat.ne_of_lt hlt)

theorem pu_back (H : Prg K) {m : Nat} {t : List Nat} {k : PK} {l : List Item} {st : List D} {cells cs : List Cell} {p j : Nat} {run : List Nat} {ps : List D} {o6 o7 o8 o9 : Option D} {Z : Fl → St → Prop} {X : XP}
    (ht : t.length ≤ 2 ^ 18) (h : PUAt cells p j run cs ps) (hlt : j < t.length) (hc : t[j]? = some 92) (hR : RdAt t k l p j) (hk : k = .bare → t[j + 1]? ≠ some 10) (hZ : ∀ σ, (∃ m, m < t.length - j ∧ PUI t k l st cells p m σ) → Z .next σ) :
    wpS (K (m + 9)) b_parts_until_1 (stP t j st cells.length run o6 o7 o8 o9 cs) (seqP (K (m + 9)) b_parts_until_5 Z X) X := by
  have hH := hR.rd.back hc
  unfold b_parts_until_1
  walk_at "wp"
  refine c_backslash H (Nat.le_trans ht (by decide)) hlt fun x q hq => ?_
  walk_at "wp"
  rcases hq with ⟨q1, rfl⟩ | ⟨q1, q2, q3⟩
  · exact pu_tail ht h (Nat.lt_succ_self _) (Nat.le_of_eq q1) ⟨_, _, rfl, fun _ => ⟨[x], rfl, by simp⟩⟩ (.inr ⟨q1, hH⟩) hZ
  · obtain ⟨c', hc'⟩ := char_at (show j + 1 < t.length by walk_at "om")
    have i1 := hH.next hc' fun z w => hk z (by rw [hc', w])
    have i2 := harmless (q - (j + 2)) i1 (by walk_at "om") fun i d' g1 g2 g3 => by
      rcases q3 i d' g1 (by walk_at "om") g3 with z | ⟨z1, z2⟩
      · exact .inl z
      · exact .inr ⟨fun w => hk w z1, z2⟩
    rw [show j + 1 + 1 + (q - (j + 2)) = q from Nat.add_sub_cancel' q1] at i2
    exact pu_tail ht h (by walk_at "om") q2 ⟨_, _, rfl, fun _ => ⟨[x], rfl, by simp; walk_at "om"⟩⟩ (.inl (.inl ⟨-1, i2, calm_minus _ _⟩)) hZ

inductive PUJ (t : List Nat) (k : PK) (l : List Item) (st : List D) (cl : Nat) (j : Nat) (run : List Nat) (o6 o7 o8 : Option D) (cs : List Cell) : Nat → St → Prop
  | mk {i : Nat} (g1 : j ≤ i) (g2 : i ≤ t.length) (g3 : i = j ∨ ∃ v, Is t i (.parts k v :: l) ∧ Calm t i v) : PUJ t k l st cl j run o6 o7 o8 cs (t.length - i) (stP t i st cl run o6 o7 o8 (some (.int j)) cs)

theorem pu_plain {K : Call} {t : List Nat} {k : PK} {l : List Item} {st : List D} {cells cs : List Cell} {p j c : Nat} {run : List Nat} {ps : List D} {o6 o7 o8 : Option D} {Z : Fl → St → Prop} {X : XP}
    (ht : t.length ≤ 2 ^ 18) (h : PUAt cells p j run cs ps) (hlt : j < t.length) (hc : t[j]? = some c) (ha : c ≠ 36) (hb : c ≠ 91) (hd : c ≠ 92) (hs : isStop k l c = false) (hst : ∀ c, inTup [c] st = some (isStop k l c)) (hR : RdAt t k l p j) (hZ : ∀ σ, (∃ m, m < t.length - j ∧ PUI t k l st cells p m σ) → Z .next σ) :
    wpS K (.seq (.whl (.and (.cmp .lt (.loc 1) (.loc 5)) (.and (.cmp .notIn (.sub (.loc 0) (.loc 1)) (.cst (.str [36, 91, 92]))) (.cmp .notIn (.sub (.loc 0) (.loc 1)) (.loc 2)))) b_parts_until_2) b_parts_until_3) (stP t j st cells.length run o6 o7 o8 (some (.int j)) cs) (seqP K b_parts_until_5 Z X) X := by
  refine s_seq (s_whl (PUJ t k l st cells.length j run o6 o7 o8 cs) (t.length - j) (.mk (Nat.le_refl _) (Nat.le_of_lt hlt) (.inl rfl)) ?_)
  rintro _ _ ⟨g1, g2, g3⟩
  rename_i i
  have leave : i ≠ j → wpS K b_parts_until_3 (stP t i st cells.length run o6 o7 o8 (some (.int j)) cs) (seqP K b_parts_until_5 Z X) X := fun hij => by
    unfold b_parts_until_3
    walk_at "wp"
    exact pu_tail ht h (Nat.lt_of_le_of_ne g1 (Ne.symm hij)) g2 ⟨_, _, rfl, fun _ => ⟨_, rfl, by simp; walk_at "om"⟩⟩ (.inl (.inl (g3.resolve_left hij))) hZ
  walk_at "wp"
  refine t_split (fun hi => ?_) (fun hi => ?_)
  · replace hi : i < t.length := ltN hi
    obtain ⟨c', hc'⟩ := char_at hi
    have hRi : Rd t k l i := by
      rcases g3 with rfl | g3
      · exact hR.rd
      · exact .inl g3
    walk_at "wp"
    refine t_split (fun hx => ?_) (fun hx => ?_)
    · replace hx : c' ≠ 36 ∧ c' ≠ 91 ∧ c' ≠ 92 := by simpa using hx
      walk_at "wp"
      refine v_ninT (hst c') ?_
      walk_at "wp"
      refine t_split (fun hy => ?_) (fun hy => ?_)
      · replace hy : isStop k l c' = false := by simpa using hy
        unfold b_parts_until_2
        walk_at "wp"
        exact ⟨_, Nat.sub_lt_sub_left hi (Nat.lt_succ_self _), .mk (Nat.le_succ_of_le g1) hi (.inr (hRi.plain hc' hx.2.2 hx.1 hx.2.1 hy))⟩
      · walk_at "wp"
        refine leave fun z => ?_
        subst z
        rw [hc] at hc'; cases hc'
        rw [hs] at hy; exact nomatch hy
    · walk_at "wp"
      refine leave fun z => ?_
      subst z
      rw [hc] at hc'; cases hc'
      replace hx : c ≠ 36 → c ≠ 91 → c = 92 := by simpa using hx
      exact hd (hx ha hb)
  · walk_at "wp"
    exact leave fun z => nltN hi (z ▸ hlt)

theorem pu_turn (H : Prg K) {m : Nat} {t : List Nat} {c0 : List Cell} {k : PK} {l : List Item} {st : List D} {cells cs : List Cell} {p j c : Nat} {run : List Nat} {ps : List D} {o6 o7 o8 o9 : Option D} {Z : Fl → St → Prop} {X : XP}
    (ht : t.length ≤ 2 ^ 18) (hX : XOk t c0 X) (hU : PUok K t c0 X (p + 1)) (hc0 : c0 <+: cells) (hn : 4 * (t.length - j) + 10 ≤ m + 10) (h : PUAt cells p j run cs ps) (hlt : j < t.length) (hc : t[j]? = some c) (hs : isStop k l c = false) (hst : ∀ c, inTup [c] st = some (isStop k l c)) (hR : RdAt t k l p j)
    (hZ : ∀ σ, (∃ m, m < t.length - j ∧ PUI t k l st cells p m σ) → Z .next σ) (hB : PUPost t k l p j → Z .brk (stP t j st cells.length run o6 o7 o8 o9 cs)) :
    wpS (K (m + 9)) b_parts_until_6 (stP t j st cells.length run o6 o7 o8 o9 cs) Z X := by
  have ht20 : t.length ≤ 2 ^ 20 := Nat.le_trans ht (by decide)
  have hU' := hU.mono (Nat.succ_le_succ h.h5)
  have hc1 := hc0.trans h.h1
  unfold b_parts_until_6
  walk_at "wp"
  refine t_split (fun ha => ?_) (fun ha => ?_)
  · obtain rfl : c = 36 := eq_of_beq ha
    walk_at "wp"
    refine c_variable H ht20 hlt hc1 hU' hX (by walk_at "om") (hR.rd.dollar hc) fun part q v cs' c1 c2 c3 c4 c5 c6 => ?_
    walk_at "wp"
    refine pu_tail ht ⟨h.h1.trans c1, prefix_get c1 h.h2, h.h3, h.h4, h.h5⟩ c2 c3 ?_ (.inl (.inl ⟨v, c4, c5⟩)) hZ
    obtain ⟨kk, rest, e, f⟩ := c6
    refine ⟨kk, rest, e, fun z => ?_⟩
    obtain ⟨y, hy⟩ := f z
    exact ⟨[y], hy, Nat.sub_pos_of_lt c2⟩
  · replace ha : c ≠ 36 := ne_of_beq_false ha
    walk_at "wp"
    refine t_split (fun hb => ?_) (fun hb => ?_)
    · obtain rfl : c = 91 := eq_of_beq hb
      walk_at "wp"
      refine c_brackets H ht20 hc1 hU' hX (by walk_at "om") (List.cons_ne_nil _ _) hlt (hR.rd.bracket hc) fun x q cs' c1 c2 c3 c4 => ?_
      walk_at "wp"
      exact pu_tail ht ⟨h.h1.trans c1, prefix_get c1 h.h2, h.h3, h.h4, h.h5⟩ (Nat.lt_of_succ_lt c2) c3 ⟨_, _, rfl, fun z => by cases z⟩ (.inl (.inl ⟨-1, c4, calm_minus _ _⟩)) hZ
    · replace hb : c ≠ 91 := ne_of_beq_false hb
      walk_at "wp"
      refine t_split (fun hd => ?_) (fun hd => ?_)
      · obtain rfl : c = 92 := eq_of_beq hd
        walk_at "wp"
        refine v_inT (hst 32) ?_
        walk_at "wp"
        refine t_split (fun he => ?_) (fun he => ?_)
        · have hk : k = .bare := by
            revert he
            cases k <;> simp [isStop]
          walk_at "wp"
          rw [show (t.take (j + 2)).drop (j + 1) = (t[j + 1]?).toList from seg1 t (j + 1)]
          refine t_split (fun hf => ?_) (fun hf => ?_)
          · have hf : t[j + 1]? = some 10 := by
              cases z : t[j + 1]? with
              | none => rw [z] at hf; simp at hf
              | some w => rw [z] at hf; have : w = 10 := by simpa using hf
                          rw [this]
            walk_at "wp"
            exact hB (.inl ⟨hlt, hR, .inr ⟨hk, hc, hf⟩⟩)
          · have hf : t[j + 1]? ≠ some 10 := fun z => by rw [z] at hf; simp at hf
            walk_at "wp"
            exact pu_back H ht h hlt hc hR (fun _ => hf) hZ
        · have hk : k ≠ .bare := fun z => by subst z; simp [isStop, isGap] at he
          walk_at "wp"
          exact pu_back H ht h hlt hc hR (fun z => absurd z hk) hZ
      · walk_at "wp"
        exact pu_plain ht h hlt hc ha hb (ne_of_beq_false hd) hs hst hR hZ

theorem pu_step (H : Prg K) {t : List Nat} {c0 : List Cell} {X : XP} {p : Nat} (ht : t.length ≤ 2 ^ 18) (hX : XOk t c0 X) (hU : PUok K t c0 X (p + 1)) : PUok K t c0 X p := by
  intro n p' k l st cells P hc0 hp' hp hn hR hw hst h
  by_cases hpe : p' = p
  rotate_left
  · exact hU n p' k l st cells P hc0 (Nat.lt_of_le_of_ne hp' (Ne.symm hpe)) hp hn hR hw hst h
  subst hpe
  clear hp'
  obtain ⟨m, rfl⟩ : ∃ m, n = m + 10 := fuel0 hn
  refine H.f136 rfl ?_
  unfold b_parts_until
  walk_at "wp"
  refine s_whl (PUI t k l st cells p') (t.length - p') (.mk ⟨List.prefix_append _ _, get_new, Nat.zero_le _, Nat.zero_le _, Nat.le_refl _⟩ hp (.inl (hR.imp id fun z => ⟨z.1, z.2, rfl⟩))) ?_
  rintro _ _ ⟨h0, h6, h7⟩
  rename_i j run ps cs o6 o7 o8 o9
  have fin : PUPost t k l p' j → wpS (K (m + 9)) b_parts_until_8 (stP t j st cells.length run o6 o7 o8 o9 cs) (fun fl σ => P fl.val σ.cells) X := fun hq =>
    pu_fin (Nat.le_trans ht (by decide)) h0.h1 h0.h2 (by have := h0.h3; walk_at "om") h0.h5 h6 hq h
  walk_at "wp"
  refine t_split (fun hlt => ?_) (fun hlt => ?_)
  · replace hlt : j < t.length := ltN hlt
    obtain ⟨c, hc⟩ := char_at hlt
    walk_at "wp"
    refine v_ninT (hst c) ?_
    walk_at "wp"
    refine t_split (fun hs => ?_) (fun hs => ?_)
    · exact pu_turn H ht hX hU hc0 (fuel_mono hn h0.h5) h0 hlt hc (by simpa using hs) hst (rdAt_of h7 hlt) (fun _ q => q) fin
    · replace hs : isStop k l c = true := by simpa using hs
      walk_at "wp"
      exact fin (.inl ⟨hlt, rdAt_of h7 hlt, .inl ⟨c, hc, hs⟩⟩)
  · obtain rfl : j = t.length := Nat.le_antisymm h6 (Nat.le_of_not_lt (nltN hlt))
    walk_at "wp"
    exact fin (.inr ⟨rfl, h7.imp RdAt.rd fun z => z.2⟩)

theorem pu_all (H : Prg K) {t : List Nat} {c0 : List Cell} {X : XP} (ht : t.length ≤ 2 ^ 18) (hX : XOk t c0 X) : PUok K t c0 X 0 := by
  have : ∀ m p, t.length + 1 - p ≤ m → PUok K t c0 X p := by
    intro m
    induction m with
    | zero => intro p hm n p' k l st cells P h0 h1 h2; walk_at "om"
    | succ m ih => intro p hm; exact pu_step H ht hX (ih (p + 1) (by walk_at "om"))
  exact this _ 0 (Nat.le_refl _)
end
section
variable {K : Nat → Call}


theorem c_commands_of (H : Prg K) {n t cells P X} {c0 : List Cell} (ht : t.length ≤ 2 ^ 18) (hc0 : c0 <+: cells) (hX : XOk t c0 X) (hn : 4 * t.length + 13 ≤ n)
    (h : ∀ d cells', cells <+: cells' → EndOK t [] → P d cells') : K n 172 [.str t] cells P X := by
  obtain ⟨m, rfl⟩ : ∃ m, n = m + 13 := ⟨n - 13, by walk_at "om"⟩
  have ht20 : t.length ≤ 2 ^ 20 := by walk_at "om"
  have hU := pu_all H ht hX
  refine H.f172 rfl ?_
  unfold b_commands_of
  walk_at "wp"
  let I : Nat → St → Prop := fun m' σ => ∃ d, ∃ ws, ∃ cs, σ = ⟨[some (.str t), some (.obj cells.length), some d], cs⟩ ∧ cells <+: cs ∧ cs[cells.length]? = some (.lst ws) ∧
    ((m' = 0 ∧ d = .none ∧ EndOK t []) ∨ ∃ x1 x2 x3, ∃ nx : Nat, m' = t.length + 1 - nx ∧ d = .tup [x1, x2, x3, .int nx] ∧ ws.length ≤ nx ∧ NextOK t [] nx)
  have loop : ∀ m' σ, I m' σ → wpS (K (m + 12)) (.whl (.cmp .isNot (.loc 2) (.cst .none)) b_commands_of_1) σ (fun f σ1 => match f with
      | .next => wpS (K (m + 12)) b_commands_of_2 σ1 (fun fl σ => P fl.val σ.cells) X
      | f => P f.val σ1.cells) X := fun m' σ hI => by
    refine s_whl I m' hI ?_
    clear hI
    rintro m' σ ⟨d, ws, cs, rfl, h1, h2, h3⟩
    rcases h3 with ⟨rfl, rfl, h3⟩ | ⟨x1, x2, x3, nx, rfl, rfl, h3, h4, h5⟩
    · walk_at "wp"
      refine v_isNot rfl ?_
      walk_at "wp"
      refine t_neg rfl ?_
      walk_at "wp"
      unfold b_commands_of_2
      walk_at "wp"
      exact h _ _ h1 h3
    · walk_at "wp"
      refine v_isNot rfl ?_
      walk_at "wp"
      refine t_pos rfl ?_
      unfold b_commands_of_1
      walk_at "wp"
      refine ⟨_, ws, rfl, h2, ?_⟩
      walk_at "wp"
      refine ⟨ws, h2, by walk_at "om", ?_⟩
      walk_at "wp"
      refine v_sub_tupL (k := 3) rfl rfl (by decide) ?_
      walk_at "wp"
      have p1 : cells <+: cs.set cells.length (.lst (ws ++ [.tup [x1, x2, x3, .int nx]])) := prefix_set h1 (Nat.le_refl _)
      have p2 := get_set (y := .lst (ws ++ [.tup [x1, x2, x3, .int nx]])) h2
      have h5' : Is t nx [.script .ahead] ∨ (nx = t.length ∧ EndOK t []) := by
        rcases h5 with h5 | h5 | h5
        · exact .inl h5
        · exact .inr h5
        · exact absurd rfl h5.1
      refine c_command_top H ht20 (hc0.trans p1) (hU.mono (Nat.zero_le _)) hX (by walk_at "om") h4 h5' (fun y1 y2 y3 nx' cs' c1 c2 c3 => ?_) fun hE => ?_
      · walk_at "wp"
        refine ⟨_, ?_, _, _, cs', rfl, p1.trans c1, prefix_get c1 p2, .inr ⟨y1, y2, y3, nx', rfl, rfl, ?_, c3⟩⟩
        · have := c3.1; walk_at "om"
        · simp; walk_at "om"
      · walk_at "wp"
        exact ⟨0, by walk_at "om", _, _, _, rfl, p1, p2, .inl ⟨rfl, rfl, hE⟩⟩
  refine c_command_top (p := 0) H ht20 (hc0.trans (List.prefix_append _ _)) hU hX (by walk_at "om") (Nat.zero_le _) (.inl ⟨_, rfl⟩) (fun y1 y2 y3 nx' cs' c1 c2 c3 => ?_) fun hE => ?_
  · walk_at "wp"
    exact loop (t.length + 1 - nx') _ ⟨_, [], cs', rfl, (List.prefix_append _ _).trans c1, prefix_get c1 get_new, .inr ⟨y1, y2, y3, nx', rfl, rfl, Nat.zero_le _, c3⟩⟩
  · walk_at "wp"
    exact loop 0 _ ⟨_, [], _, rfl, List.prefix_append _ _, get_new, .inl ⟨rfl, rfl, hE⟩⟩
end
section
variable {K : Nat → Call}


noncomputable def Good (t : List Nat) (i : Nat) : Prop := (At t i).fault = false ∧ ∀ r, (At t i).stk ≠ .name :: r

theorem no_fault {t : List Nat} {i : Nat} (h : (At t (i + 1)).fault = false) : (At t i).fault = false := by
  cases q : (At t i).fault with
  | false => rfl
  | true => have := At_fault 1 i q; rw [h] at this; exact nomatch this
theorem Good.back {t : List Nat} {i c : Nat} (h : Good t (i + 1)) (hc : t[i]? = some c) (h125 : c ≠ 125) : Good t i := by
  have f := no_fault h.1
  refine ⟨f, fun r hr => ?_⟩
  apply h.2 r
  rw [At_succ hc, stp_no f]
  unfold take
  rw [hr]
  simp [h125]
theorem Good.flip {t : List Nat} {i : Nat} (h : Good t i) (hc : t[i]? = some 92) : (At t (i + 1)).held = !(At t i).held := by
  rw [At_succ hc, stp_no h.1, take_ne h.2]
  cases (At t i).held <;> rfl
theorem held_off {t : List Nat} {i c : Nat} (h : (At t i).fault = false) (hc : t[i]? = some c) (h92 : c ≠ 92) : (At t (i + 1)).held = false := by
  rw [At_succ hc, stp_no h]
  unfold take
  split
  · rfl
  · split
    · rfl
    · rfl
theorem cont_10 {t : List Nat} {i : Nat} (h : Good t i) (hc : t[i]? = some 10) : (At t (i + 1)).cont = (At t i).held := by
  rw [At_succ hc, stp_no h.1, take_ne h.2]
  cases (At t i).held <;> rfl
theorem cont_off {t : List Nat} {i c : Nat} (h : (At t i).fault = false) (hc : t[i]? = some c) (h10 : c ≠ 10) : (At t (i + 1)).cont = false := by
  rw [At_succ hc, stp_no h]
  unfold take
  split
  · simp [h10]
  · split
    · simp [h10]
    · split <;> rfl

theorem Good.backs {t : List Nat} {a : Nat} : ∀ m, (∀ i, a ≤ i → i < a + m → t[i]? = some 92) → Good t (a + m) → Good t a
  | 0, _, h => h
  | m + 1, hc, h => Good.backs m (fun i z1 z2 => hc i z1 (Nat.lt_succ_of_lt z2)) (Good.back h (hc (a + m) (Nat.le_add_right _ _) (Nat.lt_succ_self _)) (by decide))
theorem par_succ (m : Nat) : decide ((m + 1) % 2 = 1) = !decide (m % 2 = 1) := by
  rcases Nat.mod_two_eq_zero_or_one m with h | h
  · rw [Nat.add_mod, h]; rfl
  · rw [Nat.add_mod, h]; rfl
theorem held_run {t : List Nat} {a : Nat} : ∀ m, (∀ i, a ≤ i → i < a + m → t[i]? = some 92) → Good t (a + m) → (At t a).held = false → (At t (a + m)).held = decide (m % 2 = 1)
  | 0, _, _, h0 => h0
  | m + 1, hc, hg, h0 => by
    have hc1 := hc (a + m) (Nat.le_add_right _ _) (Nat.lt_succ_self _)
    have g1 : Good t (a + m) := Good.back hg hc1 (by decide)
    rw [par_succ, ← held_run m (fun i z1 z2 => hc i z1 (Nat.lt_succ_of_lt z2)) g1 h0]
    exact g1.flip hc1
theorem parity (j m : Nat) : ((((j + m : Nat) : Int) - (j : Int)).fmod 2 == 0) = !decide (m % 2 = 1) := by
  rw [show ((j + m : Nat) : Int) - (j : Int) = (m : Int) by walk_at "om", Int.fmod_eq_emod_of_nonneg _ (by decide)]
  rcases Nat.mod_two_eq_zero_or_one m with h | h
  · rw [show ((m : Int) % 2) = 0 by walk_at "om", h]; rfl
  · rw [show ((m : Int) % 2) = 1 by walk_at "om", h]; rfl

theorem good_end {t : List Nat} (h : EndOK t []) : Good t t.length := by
  obtain ⟨stk, hh, cn, e, h⟩ := h
  refine ⟨by rw [e], fun r hr => ?_⟩
  rw [e] at hr
  rcases h with ⟨s, rfl, _⟩ | ⟨v, s, rfl⟩ <;> cases hr

theorem last_nl (t : List Nat) : (t.drop (clamp t.length (-1)) == [10]) = true ↔ ∃ a, t.length = a + 1 ∧ t[a]? = some 10 := by
  rw [beq_iff_eq]
  cases hl : t.length with
  | zero =>
    have : t = [] := List.length_eq_zero_iff.mp hl
    subst this
    exact ⟨fun z => (nomatch z), fun ⟨a, z, _⟩ => (nomatch z)⟩
  | succ a =>
    have e1 : clamp (a + 1) (-1) = a := by
      unfold clamp; rw [if_pos (by decide)]
      walk_at "om"
    have ha : a < t.length := hl ▸ Nat.lt_succ_self a
    rw [e1]
    obtain ⟨c, hc⟩ := char_at ha
    obtain ⟨h1, h2⟩ := List.getElem?_eq_some_iff.mp hc
    rw [List.drop_eq_getElem_cons h1, h2, List.drop_eq_nil_of_le (Nat.le_of_eq hl)]
    constructor
    · intro z
      cases z
      exact ⟨a, rfl, hc⟩
    · rintro ⟨a', z1, z2⟩
      obtain rfl : a = a' := Nat.succ.inj z1
      rw [hc] at z2; cases z2; rfl
theorem cont_end {t : List Nat} (hg : Good t t.length) (ha : ¬ ∃ a, t.length = a + 1 ∧ t[a]? = some 10) : (At t t.length).cont = false := by
  cases hl : t.length with
  | zero => rfl
  | succ a =>
    obtain ⟨c, hc⟩ := char_at (show a < t.length from hl ▸ Nat.lt_succ_self a)
    exact cont_off (c := c) (no_fault (by rw [← hl]; exact hg.1)) hc fun z => ha ⟨a, hl, by rw [hc, z]⟩

noncomputable abbrev stE (t : List Nat) (a j : Nat) (cs : List Cell) : St := ⟨[some (.str t), none, some (.int a), some (.int j)], cs⟩
inductive IcI (t : List Nat) (a : Nat) (cs : List Cell) : Nat → St → Prop
  | mk {j d : Nat} (e : a = j + d) (h : ∀ i, j ≤ i → i < a → t[i]? = some 92) : IcI t a cs j (stE t a j cs)
theorem ic_fin {K : Call} {t : List Nat} {j d : Nat} {cs : List Cell} {P : D → List Cell → Prop} {X : XP} (h : ∀ i, j ≤ i → i < j + d → t[i]? = some 92) (hg : Good t (j + d)) (hh : (At t j).held = false) (hP : P (.bool (!(At t (j + d)).held)) cs) :
    wpS K b_is_complete_2 (stE t (j + d) j cs) (fun fl σ => P fl.val σ.cells) X := by
  unfold b_is_complete_2
  walk_at "wp"
  refine v_sub ?_
  walk_at "wp"
  refine v_mod (by decide) ?_
  walk_at "wp"
  rw [parity, ← held_run d h hg hh]
  exact hP
theorem ic_loop {K : Call} {t : List Nat} {a : Nat} {cs : List Cell} {P : D → List Cell → Prop} {X : XP} (ht : t.length ≤ 2 ^ 20) (hl : t.length = a + 1) (hga : Good t a) (hP : P (.bool (!(At t a).held)) cs) :
    wpS K (.seq (.whl (.and (.cmp .gt (.loc 3) (.cst (.int 0))) (.cmp .eq (.sub (.loc 0) (.bin .sub (.loc 3) (.cst (.int 1)))) (.cst (.str [92])))) b_is_complete_1) b_is_complete_2) (stE t a a cs) (fun fl σ => P fl.val σ.cells) X := by
  refine s_seq (s_whl (IcI t a cs) a (.mk (d := 0) rfl fun i z1 z2 => absurd z1 (Nat.not_le_of_lt z2)) ?_)
  rintro _ _ ⟨rfl, h⟩
  rename_i j d
  cases j with
  | zero =>
    walk_at "wp"
    refine t_F ?_
    walk_at "wp"
    exact ic_fin h hga rfl hP
  | succ j =>
    have hj : j < t.length := by walk_at "om"
    obtain ⟨c, hcc⟩ := char_at hj
    walk_at "wp"
    refine t_pos (decide_eq_true (Int.ofNat_lt.mpr (Nat.succ_pos j))) ?_
    walk_at "wp"
    rw [Nat.add_sub_cancel]
    walk_at "wp"
    refine t_split (fun hd => ?_) (fun hd => ?_)
    · obtain rfl : c = 92 := eq_of_beq hd
      unfold b_is_complete_1
      walk_at "wp"
      refine ⟨j, Nat.lt_succ_self _, .mk (d := d + 1) (by walk_at "om") fun i z1 z2 => ?_⟩
      rcases Nat.lt_or_eq_of_le z1 with q | rfl
      · exact h i q z2
      · exact hcc
    · walk_at "wp"
      exact ic_fin h hga (held_off (no_fault (Good.backs d h hga).1) hcc (ne_of_beq_false hd)) hP

theorem c_is_complete (H : Prg K) {n t cells P X} (ht : t.length ≤ 2 ^ 18) (hn : 4 * t.length + 14 ≤ n)
    (h : ∀ cells', cells <+: cells' → P (.bool (isRight (At t t.length))) cells') : K n 179 [.str t] cells P X := by
  obtain ⟨m, rfl⟩ : ∃ m, n = m + 14 := fuel0 hn
  have ht20 : t.length ≤ 2 ^ 20 := Nat.le_trans ht (by decide)
  refine H.f179 rfl ?_
  unfold b_is_complete
  refine s_seq (s_tryE ?_)
  walk_at "wp"
  refine c_commands_of (c0 := cells) H ht (List.prefix_refl _) (fun msg c hc hm => ?_) (Nat.le_of_succ_le_succ hn) fun d cs hcs hE => ?_
  · have := h c hc
    rw [hm] at this
    exact this
  obtain ⟨hr, -⟩ := hE.right
  have hg := good_end hE
  have h := h cs hcs
  rw [hr] at h
  walk_at "wp"
  refine ⟨_, rfl, Nat.le_trans ht (by decide), ?_⟩
  walk_at "wp"
  refine t_split (fun ha => ?_) (fun ha => ?_)
  · walk_at "wp"
    rw [cont_end hg fun z => nomatch (congrArg (!·) ((last_nl t).mpr z)).symm.trans ha] at h
    exact h
  · obtain ⟨a, hl, hc⟩ := (last_nl t).mp (by simpa using ha)
    have hga : Good t a := by
      rw [hl] at hg
      exact hg.back hc (by decide)
    rw [show (At t t.length).cont = (At t a).held by rw [hl]; exact cont_10 hga hc] at h
    walk_at "wp"
    unfold b_is_complete_3
    walk_at "wp"
    rw [show t.length - 1 = a by rw [hl]; rfl]
    exact ic_loop ht20 hl hga h
end
section
noncomputable def clItem : Item → List Nat
  | .brace d _ _ => List.replicate d.toNat 125
  | .parts .quote _ => [34]
  | .parts .index _ => [41]
  | .parts .bare _ => []
  | .name => [125]
  | .script s => if s = .comment then [10, 93] else [93]
noncomputable def cls : List Item → List Nat
  | [] => []
  | [_] => []
  | x :: y :: r => clItem x ++ cls (y :: r)

theorem run1 (b : Book) (c : Nat) : run b [c] = stp b c := rfl
theorem run2 (b : Book) (c d : Nat) : run b [c, d] = stp (stp b c) d := rfl
theorem runC (b : Book) (c : Nat) (l : List Nat) : run b (c :: l) = run (stp b c) l := rfl
theorem clS (s : SS) : clItem (.script s) = if s = .comment then [10, 93] else [93] := rfl
theorem run_app (b : Book) (l m : List Nat) : run b (l ++ m) = run (run b l) m := List.foldl_append ..

theorem stp_plain {l l' : List Item} {cn : Bool} {c : Nat} (hn : ∀ r, l ≠ .name :: r) (h92 : c ≠ 92) (e : stepS l c = (l', false)) : stp ⟨l, false, cn, false⟩ c = ⟨l', false, false, false⟩ := by
  rw [stp_no rfl, take_ne hn]; simp [h92, e]
theorem stp_name {r : List Item} {cn : Bool} : stp ⟨.name :: r, false, cn, false⟩ 125 = ⟨r, false, false, false⟩ := by
  rw [stp_no rfl]; unfold take; simp

inductive Rel2 : List Item → List Item → Prop
  | script {s s' : SS} {r : List Item} (h : s' = .comment → s = .comment) : Rel2 (.script s :: r) (.script s' :: r)
  | parts {k : PK} {v v' : Int} {r : List Item} : Rel2 (.parts k v :: r) (.parts k v' :: r)
  | name {r : List Item} : Rel2 (.name :: r) (.name :: r)
  | brace {d : Int} {x x' : List Nat} {e : Bool} {r : List Item} : Rel2 (.brace d x e :: r) (.brace d x' e :: r)
  | virt {v : Int} {s s' : SS} {r : List Item} (h : s' = .comment → s = .comment) : Rel2 (.script s :: r) (.parts .bare v :: .script s' :: r)
theorem Rel2.refl {x : Item} {r : List Item} : Rel2 (x :: r) (x :: r) := by
  cases x with
  | script s => exact .script id
  | parts k v => exact .parts
  | name => exact .name
  | brace d t e => exact .brace

theorem not_right2 {x y : Item} {r : List Item} {cn : Bool} (hx : ∀ v, x = .parts .bare v → r ≠ []) : isRight ⟨x :: y :: r, false, cn, false⟩ = false := by
  unfold isRight isFaulty
  simp only [Bool.false_and, Bool.or_false, Bool.false_eq_true, if_false, shape_two2 hx]
where
  shape_two2 {x y : Item} {r : List Item} (hx : ∀ v, x = .parts .bare v → r ≠ []) : shapeOk (x :: y :: r) = false := by
    cases r with
    | cons z r => rfl
    | nil =>
      unfold shapeOk
      split
      · rename_i q; cases q
      · rename_i q; cases q
      · rename_i q; cases q; exact absurd rfl (hx _ rfl)
      · rfl

theorem goesOn_none {k : PK} {v : Int} {r : List Item} {c : Nat} (h : c ≠ 123 ∧ c ≠ 40 ∧ c ≠ 58) (hn : isNm c = false) : (if v ≥ 0 then goesOn k v r c else none) = none := by
  split
  · unfold goesOn
    rw [if_neg (fun z => h.1 z.1), if_neg (fun z => h.2.1 z.1), if_neg h.2.2, if_neg (by simp [hn])]
  · rfl

theorem brace_run {e : Bool} {s : SS} {r : List Item} : ∀ (m : Nat) (x : List Nat) (cn : Bool), (∃ s', s' ≠ .comment ∧ run ⟨.brace ((m + 1 : Nat) : Int) x e :: .script s :: r, false, cn, false⟩ (List.replicate (m + 1) 125) = ⟨.script s' :: r, false, false, false⟩) ∧
    isRight (run ⟨.brace ((m + 1 : Nat) : Int) x e :: .script s :: r, false, cn, false⟩ (List.replicate m 125)) = false
  | 0, x, cn => by
    refine ⟨?_, not_right2 fun v q => by cases q⟩
    by_cases q : x = [42] ∧ e = false
    · exact ⟨.star, by decide, by
        rw [show List.replicate (0 + 1) 125 = [125] from rfl, run1]
        exact stp_plain (by intro r h; cases h) (by decide) (by simp [stepS, braceS, setTop, q])⟩
    · exact ⟨.behind, by decide, by
        rw [show List.replicate (0 + 1) 125 = [125] from rfl, run1]
        exact stp_plain (by intro r h; cases h) (by decide) (by simp only [stepS, braceS]; simp [setTop, q])⟩
  | m + 1, x, cn => by
    have st : stp ⟨.brace ((m + 1 + 1 : Nat) : Int) x e :: .script s :: r, false, cn, false⟩ 125 = ⟨.brace ((m + 1 : Nat) : Int) (x ++ [125]) e :: .script s :: r, false, false, false⟩ := by
      refine stp_plain (by intro r h; cases h) (by decide) ?_
      simp only [stepS, braceS]
      rw [show (((m + 1 + 1 : Nat) : Int) + if 125 = 123 then (1 : Int) else if True then -1 else 0) = ((m + 1 : Nat) : Int) from by simp; walk_at "om"]
      rw [if_neg (by walk_at "om")]
    obtain ⟨⟨s', h0, h1⟩, h2⟩ := brace_run m (x ++ [125]) false
    refine ⟨⟨s', h0, ?_⟩, ?_⟩
    · rw [List.replicate_succ, runC, st]; exact h1
    · rw [List.replicate_succ, runC, st]; exact h2

theorem close_script {s s' : SS} {y : Item} {r : List Item} {cn : Bool} (hs : s' = .comment → s = .comment) :
    run ⟨.script s' :: y :: r, false, cn, false⟩ (clItem (.script s)) = ⟨y :: r, false, false, false⟩ ∧ isRight (run ⟨.script s' :: y :: r, false, cn, false⟩ (clItem (.script s)).dropLast) = false := by
  have nn : ∀ {s : SS}, ∀ r', Item.script s :: y :: r ≠ .name :: r' := by intro s r' h; cases h
  have c93 : ∀ {s : SS} {cn : Bool}, s ≠ .comment → stp ⟨.script s :: y :: r, false, cn, false⟩ 93 = ⟨y :: r, false, false, false⟩ := fun {s cn} h => stp_plain nn (by decide) (scriptS_close h (by simp))
  rw [clS]
  by_cases q : s = .comment
  · rw [if_pos q]
    have c10 : stp ⟨.script s' :: y :: r, false, cn, false⟩ 10 = ⟨.script .ahead :: y :: r, false, false, false⟩ := stp_plain nn (by decide) (by
      simp only [stepS, scriptS]
      by_cases w : s' = .comment
      · rw [if_pos w, if_pos trivial]
      · have := scriptS_line (r := y :: r) w (c := 10) (.inl rfl)
        unfold scriptS at this
        exact this)
    refine ⟨?_, ?_⟩
    · rw [run2, c10]; exact c93 (by decide)
    · rw [show ([10, 93] : List Nat).dropLast = [10] from rfl, run1, c10]; exact not_right2 fun v q => by cases q
  · rw [if_neg q]
    exact ⟨c93 fun w => q (hs w), not_right2 fun v q => by cases q⟩

theorem close_bare {v : Int} {s s' : SS} {y : Item} {r : List Item} {cn : Bool} :
    run ⟨.parts .bare v :: .script s' :: y :: r, false, cn, false⟩ (clItem (.script s)) = ⟨y :: r, false, false, false⟩ ∧ isRight (run ⟨.parts .bare v :: .script s' :: y :: r, false, cn, false⟩ (clItem (.script s)).dropLast) = false := by
  have nn : ∀ r', Item.parts .bare v :: .script s' :: y :: r ≠ .name :: r' := by intro r' h; cases h
  have st : ∀ c l', c ≠ 92 → (c ≠ 123 ∧ c ≠ 40 ∧ c ≠ 58) → isNm c = false → (isGap c = true ∨ c = 10 ∨ c = 59 ∨ (c = 93 ∧ (Item.script s' :: y :: r).length > 1)) → scriptS .gap (y :: r) c = (l', false) →
      stp ⟨.parts .bare v :: .script s' :: y :: r, false, cn, false⟩ c = ⟨l', false, false, false⟩ := fun c l' h1 h2 h3 h4 h5 => stp_plain nn h1 (by
    simp only [stepS, partsS, goesOn_none h2 h3]
    unfold partsS0
    rw [if_pos ⟨rfl, h4⟩]; exact h5)
  have hl : (Item.script s' :: y :: r).length > 1 := by simp
  rw [clS]
  by_cases q : s = .comment
  · rw [if_pos q]
    have c10 := st 10 (.script .ahead :: y :: r) (by decide) (by decide) (by decide) (.inr (.inl rfl)) (by simp [scriptS, isGap])
    refine ⟨?_, ?_⟩
    · rw [run2, c10]
      have := (close_script (s := .ahead) (s' := .ahead) (y := y) (r := r) (cn := false) (fun h => h)).1
      rw [clS, if_neg (by decide), run1] at this
      exact this
    · rw [show ([10, 93] : List Nat).dropLast = [10] from rfl, run1, c10]; exact not_right2 fun v q => by cases q
  · rw [if_neg q]
    exact ⟨st 93 (y :: r) (by decide) (by decide) (by decide) (.inr (.inr (.inr ⟨rfl, hl⟩))) (by simp [scriptS, isGap]), not_right2 fun v q => by simp⟩

structure Closes (x : Item) (rest l : List Item) (cn : Bool) : Prop where
  ne : clItem x ≠ []
  run : ∃ l', run ⟨l, false, cn, false⟩ (clItem x) = ⟨l', false, false, false⟩ ∧ Rel2 rest l'
  no : isRight (Mine.run ⟨l, false, cn, false⟩ (clItem x).dropLast) = false
theorem cl_ne (s : SS) : clItem (.script s) ≠ [] := by rw [clS]; split <;> exact List.cons_ne_nil _ _
theorem close_quote {v v' : Int} {y : Item} {r : List Item} {cn : Bool} (hw : wf (.parts .quote v :: y :: r)) : Closes (.parts .quote v) (y :: r) (.parts .quote v' :: y :: r) cn := by
  cases y with
  | script s =>
    refine ⟨List.cons_ne_nil _ _, ⟨.script .behind :: r, (show stp ⟨.parts .quote v' :: .script s :: r, false, cn, false⟩ 34 = ⟨.script .behind :: r, false, false, false⟩ from stp_plain (by intro r h; cases h) (by decide) ?_), .script (by intro h; cases h)⟩, not_right2 fun v q => by cases q⟩
    simp only [stepS, partsS, goesOn_none (c := 34) (by decide) (by decide)]
    rfl
  | _ => exact hw.1.elim
theorem close_index {v v' : Int} {y : Item} {r : List Item} {cn : Bool} : Closes (.parts .index v) (y :: r) (.parts .index v' :: y :: r) cn := by
  refine ⟨List.cons_ne_nil _ _, ⟨y :: r, (show stp ⟨.parts .index v' :: y :: r, false, cn, false⟩ 41 = ⟨y :: r, false, false, false⟩ from stp_plain (by intro r h; cases h) (by decide) ?_), .refl⟩, not_right2 fun v q => by cases q⟩
  simp only [stepS, partsS, goesOn_none (c := 41) (by decide) (by decide)]
  rfl
theorem close_brace {d : Int} {t t' : List Nat} {e : Bool} {y : Item} {r : List Item} {cn : Bool} (hw : wf (.brace d t e :: y :: r)) (hd : 1 ≤ d) : Closes (.brace d t e) (y :: r) (.brace d t' e :: y :: r) cn := by
  obtain ⟨m, rfl⟩ : ∃ m : Nat, d = ((m + 1 : Nat) : Int) := ⟨(d - 1).toNat, by walk_at "om"⟩
  cases y with
  | script s =>
    obtain ⟨⟨s', h0, h1⟩, h2⟩ := brace_run (e := e) (s := s) (r := r) m t' cn
    have e1 : clItem (.brace ((m + 1 : Nat) : Int) t e) = List.replicate (m + 1) 125 := rfl
    refine ⟨by rw [e1]; exact List.cons_ne_nil _ _, ⟨_, h1, .script fun w => absurd w h0⟩, ?_⟩
    rw [e1, show (List.replicate (m + 1) 125).dropLast = List.replicate m 125 by simp]
    exact h2
  | _ => exact hw.1.elim
theorem close_one {x y : Item} {r l : List Item} {cn : Bool} (hw : wf (x :: y :: r)) (hb : ∀ d t e, x = .brace d t e → 1 ≤ d) (hx : ∀ v, x ≠ .parts .bare v) (h : Rel2 (x :: y :: r) l) : Closes x (y :: r) l cn := by
  cases h with
  | script hs =>
    obtain ⟨a, b⟩ := close_script (y := y) (r := r) (cn := cn) hs
    exact ⟨cl_ne _, ⟨_, a, .refl⟩, b⟩
  | @parts k v v' =>
    cases k with
    | bare => exact absurd rfl (hx _)
    | quote => exact close_quote hw
    | index => exact close_index
  | name => exact ⟨List.cons_ne_nil _ _, ⟨y :: r, stp_name, .refl⟩, not_right2 fun v q => by cases q⟩
  | brace => exact close_brace hw (hb _ _ _ rfl)
  | @virt v s s' =>
    obtain ⟨a, b⟩ := close_bare (v := v) (s := s) (s' := s') (y := y) (r := r) (cn := cn)
    exact ⟨cl_ne _, ⟨_, a, .refl⟩, b⟩

theorem right_small {l : List Item} (h : shapeOk l = true) : isRight ⟨l, false, false, false⟩ = true := by
  unfold isRight isFaulty; simp [h]

inductive Bottom : List Item → Prop
  | one {s : SS} : Bottom [.script s]
  | two {v : Int} {s : SS} : Bottom [.parts .bare v, .script s]
inductive CloseAll (stk l : List Item) (cn : Bool) : Prop
  | none (h : cls stk = []) (b : Bottom stk)
  | some (h : cls stk ≠ []) (r : isRight (run ⟨l, false, cn, false⟩ (cls stk)) = true) (n : isRight (run ⟨l, false, cn, false⟩ (cls stk).dropLast) = false)
theorem bottom_right {stk l : List Item} (b : Bottom stk) (h : Rel2 stk l) : isRight ⟨l, false, false, false⟩ = true := by
  cases b with
  | one => cases h <;> exact right_small rfl
  | two => cases h; exact right_small rfl
theorem close_bareT {v : Int} {y : Item} {r l : List Item} {cn : Bool} (hw : wf (.parts .bare v :: y :: r)) (hR : Rel2 (.parts .bare v :: y :: r) l) (k : ∀ l, Rel2 (y :: r) l → CloseAll (y :: r) l cn) : CloseAll (.parts .bare v :: y :: r) l cn := by
  cases y with
  | script s =>
    cases hR with
    | parts =>
      cases k _ (.virt id) with
      | some h a b => exact .some h a b
      | none h b =>
        refine .none h ?_
        cases b
        exact .two
  | _ => exact hw.1.elim
theorem close_step {x y : Item} {r l : List Item} {cn : Bool} (h : Closes x (y :: r) l cn) (k : ∀ l, Rel2 (y :: r) l → CloseAll (y :: r) l false) : CloseAll (x :: y :: r) l cn := by
  obtain ⟨h1, ⟨l', h2, h3⟩, h4⟩ := h
  have e : cls (x :: y :: r) = clItem x ++ cls (y :: r) := rfl
  cases k l' h3 with
  | none g1 g2 =>
    rw [g1, List.append_nil] at e
    exact .some (by rw [e]; exact h1) (by rw [e, h2]; exact bottom_right g2 h3) (by rw [e]; exact h4)
  | some g1 g2 g3 =>
    refine .some (by rw [e]; exact fun z => g1 (List.append_eq_nil_iff.mp z).2) ?_ ?_
    · rw [e, run_app, h2]; exact g2
    · rw [e, List.dropLast_append_of_ne_nil g1, run_app, h2]; exact g3
theorem close_all (stk : List Item) : ∀ (l : List Item) (cn : Bool), wf stk → (∀ d t e, Item.brace d t e ∈ stk → 1 ≤ d) → Rel2 stk l → CloseAll stk l cn := by
  induction stk with
  | nil => exact fun _ _ h => h.elim
  | cons x r ih =>
    cases r with
    | nil => exact fun _ _ h _ _ => by obtain ⟨s, rfl⟩ := h; exact .none rfl .one
    | cons y r =>
      intro l cn hw hb hR
      have hb' : ∀ d t e, Item.brace d t e ∈ y :: r → 1 ≤ d := fun d t e m => hb d t e (.tail _ m)
      by_cases hx : ∃ v, x = .parts .bare v
      · obtain ⟨v, rfl⟩ := hx
        exact close_bareT hw hR fun l h => ih l cn hw.2 hb' h
      · exact close_step (close_one hw (fun d t e z => hb d t e (by rw [z]; exact .head _)) (fun v z => hx ⟨v, z⟩) hR) fun l h => ih l false hw.2 hb' h

theorem rel_refl {stk : List Item} (h : stk ≠ []) : Rel2 stk stk := by
  cases stk with
  | nil => exact absurd rfl h
  | cons x r => exact .refl

theorem space_one {s : SS} {cn : Bool} : ∃ s', stp ⟨[.script s], false, cn, false⟩ 32 = ⟨[.script s'], false, false, false⟩ := by
  cases s <;> exact ⟨_, stp_plain (by intro r h; cases h) (by decide) rfl⟩
theorem space_right {stk : List Item} {cn : Bool} (h : Bottom stk) : isRight (stp ⟨stk, false, cn, false⟩ 32) = true := by
  cases h with
  | one =>
    obtain ⟨s', e⟩ := space_one
    rw [e]; exact right_small rfl
  | @two v s =>
    have e : stp ⟨[.parts .bare v, .script s], false, cn, false⟩ 32 = ⟨[.script .gap], false, false, false⟩ := by
      refine stp_plain (by intro r h; cases h) (by decide) ?_
      simp only [stepS, partsS, goesOn_none (c := 32) (by decide) (by decide)]
      rfl
    rw [e]; exact right_small rfl

theorem clItem_wt (x : Item) : (clItem x).length ≤ wt1 x := by
  cases x with
  | script s => rw [clS]; split <;> simp [wt1]
  | parts k v => cases k <;> simp [clItem, wt1]
  | name => simp [clItem, wt1]
  | brace d t e => simp [clItem, wt1]
theorem cls_wt : ∀ (stk : List Item), (cls stk).length ≤ wt stk
  | [] => by simp [cls]
  | [x] => by simp [cls]
  | x :: y :: r => by
    have := cls_wt (y :: r)
    have h := clItem_wt x
    simp only [cls, wt, List.length_append] at this ⊢
    walk_at "om"

noncomputable def cw : List Item → Nat
  | [] => 0
  | x :: r => (clItem x).length + cw r
theorem cls_cw : ∀ (stk : List Item), (cls stk).length ≤ cw stk
  | [] => by simp [cls]
  | [x] => by simp [cls]
  | x :: y :: r => by
    have := cls_cw (y :: r)
    simp only [cls, cw, List.length_append] at this ⊢
    walk_at "om"
theorem cl_script (s : SS) : (clItem (.script s)).length = if s = .comment then 2 else 1 := by rw [clS]; split <;> rfl
theorem cl_brace (d : Int) (x : List Nat) (e : Bool) : (clItem (.brace d x e)).length = d.toNat := by simp [clItem]
theorem cw_setTop {s : SS} (h : s ≠ .comment) : ∀ (l : List Item), cw (setTop s l) ≤ cw l
  | [] => Nat.le_refl _
  | .script s' :: r => by
    show cw (.script s :: r) ≤ _
    simp only [cw, cl_script, if_neg h]
    split <;> walk_at "om"
  | .parts _ _ :: r => Nat.le_refl _
  | .name :: r => Nat.le_refl _
  | .brace _ _ _ :: r => Nat.le_refl _
theorem cw_plain (k : PK) (v : Int) (r : List Item) (c : Nat) : cw (plainParts k r c) ≤ cw (.parts k v :: r) + 1 := by
  unfold plainParts
  split
  · cases k <;> simp [cw, clItem] <;> walk_at "om"
  · split
    · cases k <;> simp [cw, clItem] <;> walk_at "om"
    · cases k <;> simp [cw, clItem] <;> walk_at "om"
theorem cw_scriptS (s : SS) (r : List Item) (c : Nat) : cw (scriptS s r c).1 ≤ cw (.script s :: r) + 1 := by
  have hp := cw_plain .bare 0 (.script s :: r) c
  unfold scriptS
  repeat' split
  all_goals (first | (simp only [cw, cl_script, cl_brace]; (repeat' split); all_goals (first | walk_at "om" | (simp_all; done) | (simp [clItem]; done) | (simp_all [clItem]; walk_at "om"))) | skip)
  all_goals (simp only [cw, cl_script] at hp ⊢; simp [clItem] at hp ⊢; walk_at "om")

theorem cw_goesOn {k : PK} {v : Int} {r l : List Item} {c : Nat} : goesOn k v r c = some l → cw l ≤ cw (.parts k v :: r) + 1 := by
  have hk : ∀ v', (clItem (.parts k v')).length = (clItem (.parts k v)).length := fun v' => by cases k <;> rfl
  unfold goesOn
  repeat' split
  all_goals (intro h; cases h)
  · simp only [cw, hk (-1)]; simp [clItem]; walk_at "om"
  · simp only [cw, hk (-1)]; simp [clItem]; walk_at "om"
  · simp only [cw, hk 3]; walk_at "om"
  · simp only [cw, hk 2]; walk_at "om"
  · simp only [cw, hk 1]; walk_at "om"
theorem cw_partsS (k : PK) (v : Int) (r : List Item) (c : Nat) : cw (partsS k v r c).1 ≤ cw (.parts k v :: r) + 1 := by
  unfold partsS
  split
  · rename_i l h
    split at h
    · exact cw_goesOn h
    · cases h
  · unfold partsS0
    split
    · split
      · rename_i s' r' _ _
        have := cw_scriptS .gap r' c
        simp only [cw, cl_script] at this ⊢
        simp at this
        split <;> walk_at "om"
      · simp only [cw]; walk_at "om"
    · split
      · have := cw_setTop (s := .behind) (by decide) r
        simp only [cw]; walk_at "om"
      · split
        · simp only [cw]; walk_at "om"
        · exact cw_plain k v r c
theorem cw_braceS (d : Int) (x : List Nat) (e : Bool) (r : List Item) (c : Nat) : cw (braceS d x e r c) ≤ cw (.brace d x e :: r) + 1 := by
  have hs : cw (setTop (if x = [42] ∧ e = false then .star else .behind) r) ≤ cw r := by
    by_cases q : x = [42] ∧ e = false
    · rw [if_pos q]; exact cw_setTop (by decide) r
    · rw [if_neg q]; exact cw_setTop (by decide) r
  have hd : (d + (if c = 123 then 1 else if c = 125 then -1 else 0)).toNat ≤ d.toNat + 1 := by
    by_cases q : c = 123
    · rw [if_pos q]; walk_at "om"
    · rw [if_neg q]
      by_cases q2 : c = 125
      · rw [if_pos q2]; walk_at "om"
      · rw [if_neg q2]; walk_at "om"
  unfold braceS
  dsimp only
  by_cases q : d + (if c = 123 then 1 else if c = 125 then -1 else 0) = 0
  · rw [if_pos q]
    simp only [cw]; walk_at "om"
  · rw [if_neg q]
    simp only [cw, cl_brace]; walk_at "om"
theorem cw_bentS (l : List Item) (c : Nat) : cw (bentS l c).1 ≤ cw l + 1 := by
  unfold bentS
  split
  · repeat' split
    all_goals (simp only [cw, cl_script]; (repeat' split); all_goals (first | walk_at "om" | (simp_all; done) | (simp [clItem]; done) | (simp [clItem]; walk_at "om") | (simp_all [clItem]; walk_at "om")))
  · rename_i v r
    have h1 := cw_setTop (s := .gap) (by decide) r
    split
    · dsimp only; simp only [cw]; walk_at "om"
    · dsimp only; walk_at "om"
  · dsimp only; walk_at "om"
theorem cw_mark (l : List Item) : cw (markBrace l) = cw l := by
  unfold markBrace
  split
  · simp only [cw, cl_brace]
  · rfl
theorem cw_off (l : List Item) : cw (offName l) = cw l := by
  unfold offName
  split
  · rename_i k v r
    cases k <;> rfl
  · rfl
theorem cw_stepS (l : List Item) (c : Nat) : cw (stepS l c).1 ≤ cw l + 1 := by
  unfold stepS
  split
  · exact cw_scriptS _ _ _
  · exact cw_partsS _ _ _ _
  · exact cw_braceS _ _ _ _ _
  · dsimp only; walk_at "om"
theorem cw_take (b : Book) (c : Nat) : cw (take b c).stk ≤ cw b.stk + 1 := by
  unfold take
  split
  · rename_i r h
    dsimp only
    split
    · rw [h]; simp only [cw]; walk_at "om"
    · walk_at "om"
  · split
    · dsimp only
      rw [cw_mark]; exact cw_bentS _ _
    · split
      · dsimp only
        rw [cw_mark, cw_off]; walk_at "om"
      · exact cw_stepS _ _
theorem cw_At (t : List Nat) : ∀ p, cw (At t p).stk ≤ p + 1
  | 0 => by simp [At, run, begin0, cw, cl_script]
  | p + 1 => by
    have ih := cw_At t p
    cases q : t[p]? with
    | none =>
      have : At t (p + 1) = At t p := by unfold At run; rw [List.take_add_one, q]; simp
      rw [this]; walk_at "om"
    | some c =>
      rw [At_succ q]
      unfold stp
      split
      · walk_at "om"
      · have := cw_take (At t p) c; walk_at "om"
end
section
variable {K : Nat → Call}


noncomputable def down : Nat → List Int
  | 0 => []
  | m + 1 => ((m + 1 : Nat) : Int) :: down m
theorem rangeL_down (m : Nat) : rangeL (m : Int) 0 (-1) = down m := by
  have hsz : (PySem.Builtin.Range.rangeSize (m : Int) 0 (-1)).toNat = m := by
    unfold PySem.Builtin.Range.rangeSize
    rw [if_neg (by decide)]
    split
    · have : ((m : Int) - 0 - 1) / (- -1) = m - 1 := by simp
      rw [this]; walk_at "om"
    · walk_at "om"
  have : ∀ k, (List.range k).map (fun (i : Nat) => (k : Int) + (i : Int) * (-1)) = down k := by
    intro k
    induction k with
    | zero => rfl
    | succ k ih =>
      rw [List.range_succ_eq_map, List.map_cons, List.map_map]
      unfold down
      have e0 : ((k + 1 : Nat) : Int) + ((0 : Nat) : Int) * (-1) = ((k + 1 : Nat) : Int) := by walk_at "om"
      rw [e0, ← ih]
      congr 1
      refine List.map_congr_left fun i _ => ?_
      simp only [Function.comp, Nat.succ_eq_add_one]; walk_at "om"
  unfold rangeL
  rw [hsz]
  exact this m

theorem s_forR_down {K : Call} {b : S} {i : Nat} {σ3 : St} {X : XP} {P : Fl → St → Prop} {m : Nat} (I : Nat → St → Prop) (h0 : I m σ3) (h1 : ∀ σ, I 0 σ → P .next σ)
    (h2 : ∀ j σ2 (k : St → Prop), (∀ σ, I j σ → k σ) → I (j + 1) σ2 → wpS K b (σ2.set i (.int ((j + 1 : Nat) : Int))) (forP k P) X) :
    ((rangeL (m : Int) 0 (-1)).foldr (fun n (k : St → Prop) σ2 => wpS K b (σ2.set i (.int n)) (forP k P) X) (fun σ2 => P .next σ2)) σ3 := by
  rw [rangeL_down]
  have : ∀ j σ, I j σ → ((down j).foldr (fun n (k : St → Prop) σ2 => wpS K b (σ2.set i (.int n)) (forP k P) X) (fun σ2 => P .next σ2)) σ := by
    intro j
    induction j with
    | zero => intro σ h; exact h1 σ h
    | succ j ih => intro σ h; exact h2 j σ _ ih h
  exact this m σ3 h0

theorem cls_flat : ∀ (stk : List Item), cls stk = (stk.take (stk.length - 1)).flatMap clItem
  | [] => rfl
  | [x] => rfl
  | x :: y :: r => by
    have := cls_flat (y :: r)
    simp only [cls, this, List.length_cons, Nat.add_sub_cancel, List.take_succ_cons, List.flatMap_cons]

theorem pre_len (stk : List Item) (j : Nat) : ((stk.take j).flatMap clItem).length ≤ wt stk := by
  induction stk generalizing j with
  | nil => simp
  | cons x r ih =>
    cases j with
    | zero => simp
    | succ j =>
      have := ih j
      have := clItem_wt x
      simp only [List.take_succ_cons, List.flatMap_cons, List.length_append, wt]
      walk_at "om"

theorem items_get {cs : List Cell} : ∀ {is : List Nat} {xs : List Item} {j i : Nat}, Items cs is xs → is[j]? = some i → ∃ x, xs[j]? = some x ∧ cs[i]? = some (.lst (encItem x))
  | [], _, j, i, _, e => by simp at e
  | a :: is, x :: xs, 0, i, h, e => by
    simp only [List.getElem?_cons_zero, Option.some.injEq] at e
    subst e; exact ⟨x, rfl, h.1⟩
  | a :: is, x :: xs, j + 1, i, h, e => by
    simp only [List.getElem?_cons_succ] at e ⊢
    exact items_get h.2 e
  | a :: is, [], _, _, h, _ => h.elim

noncomputable abbrev stQ (b so : Nat) (l : List Nat) (o3 o4 o5 : Option D) (cs : List Cell) : St := ⟨[some (.obj b), some (.obj so), some (.str l), o3, o4, o5], cs⟩
theorem cl_turn {K : Call} {X : XP} {Z : Fl → St → Prop} {b so ii j : Nat} {cs : List Cell} {pre : List Nat} {x : Item} {o4 o5 : Option D} (rd : ∀ {Q : D → Prop}, Q (.obj ii) → ∃ d, subD cs (.obj so) (.int ((j + 1 : Nat) : Int)) = some d ∧ Q d) (hi : cs[ii]? = some (Cell.lst (encItem x)))
    (hb : ∀ d t e, x = .brace d t e → 0 ≤ d ∧ d ≤ 2 ^ 20) (hpx : (pre ++ clItem x).length ≤ 2 ^ 24) (hZ : ∀ o3 o4 o5, Z .next (stQ b so (pre ++ clItem x) o3 o4 o5 cs)) : wpS K b_law_closings_1 (stQ b so pre (some (.int ((j + 1 : Nat) : Int))) o4 o5 cs) Z X := by
  unfold b_law_closings_1
  walk_at "wp"
  refine rd ?_
  walk_at "wp"
  refine rd ?_
  walk_at "wp"
  cases x with
  | brace d t e =>
    have hd := hb d t e rfl
    refine t_pos rfl ?_
    dsimp only [stateD]
    walk_at "wp"
    refine ⟨.str (List.replicate d.toNat 125), if_pos (c := 0 ≤ d ∧ d ≤ 2 ^ 20) hd, by show (List.replicate d.toNat 125).length ≤ 2 ^ 24; rw [List.length_replicate]; walk_at "om", ?_⟩
    walk_at "wp"
    refine v_cat hpx ?_
    walk_at "wp"
    exact hZ _ _ _
  | parts kk v =>
    refine t_neg (by cases kk <;> rfl) ?_
    dsimp only [stateD]
    walk_at "wp"
    cases kk with
    | quote =>
      refine t_pos rfl ?_
      walk_at "wp"
      refine v_cat hpx ?_
      walk_at "wp"
      exact hZ _ _ _
    | index =>
      refine t_neg rfl ?_
      walk_at "wp"
      refine t_pos rfl ?_
      walk_at "wp"
      refine v_cat hpx ?_
      walk_at "wp"
      exact hZ _ _ _
    | bare =>
      refine t_neg rfl ?_
      walk_at "wp"
      refine t_neg rfl ?_
      walk_at "wp"
      refine t_neg rfl ?_
      walk_at "wp"
      refine t_neg rfl ?_
      walk_at "wp"
      have e : pre ++ clItem (.parts .bare v) = pre := List.append_nil _
      rw [e] at hZ
      exact hZ _ _ _
  | name =>
    refine t_neg rfl ?_
    dsimp only [stateD]
    walk_at "wp"
    refine t_neg rfl ?_
    walk_at "wp"
    refine t_neg rfl ?_
    walk_at "wp"
    refine t_pos rfl ?_
    walk_at "wp"
    refine v_cat hpx ?_
    walk_at "wp"
    exact hZ _ _ _
  | script s =>
    rw [clS] at hZ hpx
    refine t_neg rfl ?_
    dsimp only [stateD]
    walk_at "wp"
    refine t_neg rfl ?_
    walk_at "wp"
    refine t_neg rfl ?_
    walk_at "wp"
    refine t_neg rfl ?_
    walk_at "wp"
    refine t_pos rfl ?_
    walk_at "wp"
    by_cases hs : s = .comment
    · rw [if_pos hs] at hZ hpx
      refine t_pos (by rw [hs]; rfl) ?_
      walk_at "wp"
      refine v_cat hpx ?_
      walk_at "wp"
      exact hZ _ _ _
    · rw [if_neg hs] at hZ hpx
      refine t_neg (enc_ne (s' := .comment) hs) ?_
      walk_at "wp"
      refine v_cat hpx ?_
      walk_at "wp"
      exact hZ _ _ _
inductive ClI (b so len : Nat) (stk : List Item) (cs : List Cell) : Nat → St → Prop
  | mk {r : Nat} {o3 o4 o5 : Option D} (h : r ≤ len) : ClI b so len stk cs r (stQ b so ((stk.take (len - r)).flatMap clItem) o3 o4 o5 cs)

theorem c_closings (H : Prg K) {n cs P X} {b so : Nat} {is : List Nat} {bk : Book} {m : Nat} (B : BR cs b so is bk) (hW : W m bk.stk) (hm : m ≤ 2 ^ 15) (q : P (.str (cls bk.stk)) cs) : K (n + 1) 298 [.obj b] cs P X := by
  have hlen := B.it.len
  have hwl := hW.len
  have hne : bk.stk.length ≠ 0 := fun z => by
    have := List.length_eq_zero_iff.mp z
    have hw := hW.wf
    rw [this] at hw; exact hw
  obtain ⟨len, hl⟩ : ∃ len, bk.stk.length = len + 1 := ⟨bk.stk.length - 1, (Nat.sub_add_cancel (Nat.pos_of_ne_zero hne)).symm⟩
  have hlm : len ≤ 2 ^ 17 := by walk_at "om"
  refine H.f298 rfl ?_
  unfold b_law_closings
  walk_at "wp"
  refine s_forR ?_
  walk_at "wp"
  refine ln_stack B (by walk_at "om") ?_
  walk_at "wp"
  rw [hl, Nat.add_sub_cancel]
  refine ⟨(len : Int), 0, -1, rfl, rfl, rfl, by walk_at "om", by walk_at "om", by decide, by decide, by decide, by decide, by decide, ?_⟩
  refine s_forR_down (P := seqP (K n) b_law_closings_2 (fun fl σ => P fl.val σ.cells) X) (ClI b so len bk.stk cs) ?_ ?_ ?_
  · rw [show ([] : List Nat) = (bk.stk.take (len - len)).flatMap clItem by rw [Nat.sub_self]; rfl]
    exact .mk (Nat.le_refl _)
  · rintro _ ⟨_⟩
    rw [seqP_n]
    unfold b_law_closings_2
    walk_at "wp"
    have : cls bk.stk = (bk.stk.take (len - 0)).flatMap clItem := by rw [cls_flat, hl]; rfl
    rw [← this]; exact q
  · rintro j _ k hk ⟨hj⟩
    have hjl : len - (j + 1) < is.length := by walk_at "om"
    obtain ⟨ii, hii⟩ : ∃ ii, is[len - (j + 1)]? = some ii := ⟨_, List.getElem?_eq_getElem hjl⟩
    obtain ⟨x, hx, hi⟩ := items_get B.it hii
    have hrev : (is.reverse.map D.obj)[j + 1]? = some (.obj ii) := by
      rw [List.getElem?_map, List.getElem?_reverse (by walk_at "om"), show is.length - 1 - (j + 1) = len - (j + 1) by walk_at "om", hii]; rfl
    have e2 : (bk.stk.take (len - j)).flatMap clItem = (bk.stk.take (len - (j + 1))).flatMap clItem ++ clItem x := by
      rw [show len - j = len - (j + 1) + 1 by walk_at "om", List.take_add_one, hx]
      simp
    refine cl_turn (fun q => rd_item (k := j + 1) B.s rfl (by simp; walk_at "om") (by walk_at "om") hrev q) hi (fun d t e z => by have := hW.b _ (List.mem_of_getElem? hx) d t e z; walk_at "om") ?_ fun o3 o4 o5 => hk _ ?_
    · rw [← e2]
      have h1 := pre_len bk.stk (len - j)
      have h2 := hW.wt
      walk_at "om"
    · rw [← e2]
      exact .mk (Nat.le_of_succ_le hj)

theorem At_app (t s : List Nat) : At (t ++ s) (t ++ s).length = run (At t t.length) s := by
  unfold At
  rw [List.take_length, List.take_length, run_app]

theorem dot_held {y : Item} {ys : List Item} {cn : Bool} (ha : isFaulty ⟨y :: ys, true, cn, false⟩ = false) : (take ⟨y :: ys, true, cn, false⟩ 46).held = false ∧ (take ⟨y :: ys, true, cn, false⟩ 46).fault = false := by
  cases y with
  | name => exact ⟨rfl, rfl⟩
  | parts k v =>
    rw [take_ne fun r hr => by cases hr]
    refine ⟨rfl, ?_⟩
    show (false || (bentS (.parts k v :: ys) 46).2) = false
    cases k with
    | bare => rfl
    | quote => rfl
    | index => rfl
  | brace d t e => rw [take_ne fun r hr => by cases hr]; exact ⟨rfl, rfl⟩
  | script s =>
    rw [take_ne fun r hr => by cases hr]
    refine ⟨rfl, ?_⟩
    show (false || (bentS (.script s :: ys) 46).2) = false
    cases s <;> first | rfl | exact nomatch ha

theorem take_last {l : List Nat} (h : l ≠ []) : l.take (clamp l.length (-1)) = l.dropLast := by
  rw [List.dropLast_eq_take]
  congr 1
  have : l.length ≠ 0 := fun z => h (List.length_eq_zero_iff.mp z)
  unfold clamp
  rw [if_pos (by decide)]
  walk_at "om"

theorem cr_rest (H : Prg K) {n : Nat} {t' : List Nat} {cells cs' : List Cell} {is' : List Nat} {stk : List Item} {cn' : Bool} {b so tl : Nat} {o3 : Option D} {P : D → List Cell → Prop} {X : XP} (hl' : 8 * t'.length + 32 ≤ n + 40) (hm : t'.length ≤ 2 ^ 14 + 1) (hc : cells <+: cs') (B' : BR cs' b so is' ⟨stk, false, cn', false⟩) (hA : At t' t'.length = ⟨stk, false, cn', false⟩)
    (q : ∀ cs, cells <+: cs → P (.bool true) cs) : wpS (K (n + 40)) b_law_closed_right_2 ⟨[some (.str t'), some (.obj tl), some (.obj b), o3], cs'⟩ (fun fl σ => P fl.val σ.cells) X := by
  have hW' := At_W t' t'.length
  have hcl := cls_cw stk
  have hwt := cw_At t' t'.length
  rw [hA] at hW' hwt
  have hlen : (cls stk).length ≤ t'.length + 1 := Nat.le_trans hcl hwt
  have fuel : ∀ l : List Nat, l.length ≤ 2 * t'.length + 2 → l.length ≤ 2 ^ 18 ∧ 4 * l.length + 14 ≤ n + 40 := fun l h => ⟨by walk_at "om", by walk_at "om"⟩
  unfold b_law_closed_right_2
  walk_at "wp"
  refine c_closings H B' hW' (by walk_at "om") ?_
  walk_at "wp"
  cases close_all stk stk cn' hW'.wf (fun d z e m => (hW'.b _ m d z e rfl).1) (rel_refl (fun z => by have hw := hW'.wf; dsimp only at hw; rw [z] at hw; exact hw)) with
  | none h1 h2 =>
    rw [h1]
    refine t_pos rfl ?_
    walk_at "wp"
    have f := fuel (t' ++ [32]) (by rw [List.length_append, List.length_singleton]; walk_at "om")
    refine v_cat (Nat.le_trans f.1 (by decide)) ?_
    walk_at "wp"
    refine c_is_complete H f.1 f.2 fun cs2 c2 => ?_
    walk_at "wp"
    rw [At_app, hA, run1, space_right h2]
    exact q _ (hc.trans c2)
  | some h1 h2 h3 =>
    refine t_neg (by cases hq : cls stk with
      | nil => exact absurd hq h1
      | cons a r => rfl) ?_
    walk_at "wp"
    unfold b_law_closed_right_1
    walk_at "wp"
    have f := fuel (t' ++ cls stk) (by rw [List.length_append]; walk_at "om")
    refine v_cat (Nat.le_trans f.1 (by decide)) ?_
    walk_at "wp"
    refine c_is_complete H f.1 f.2 fun cs2 c2 => ?_
    walk_at "wp"
    rw [At_app, hA, h2]
    refine t_T ?_
    walk_at "wp"
    refine ⟨_, rfl, by walk_at "om", ?_⟩
    dsimp only [dropO_n, takeO_s]
    rw [take_last h1]
    walk_at "wp"
    have f := fuel (t' ++ (cls stk).dropLast) (by rw [List.length_append, List.length_dropLast]; walk_at "om")
    refine v_cat (Nat.le_trans f.1 (by decide)) ?_
    walk_at "wp"
    refine c_is_complete H f.1 f.2 fun cs3 c3 => ?_
    walk_at "wp"
    rw [At_app, hA, h3]
    exact q _ ((hc.trans c2).trans c3)

theorem c_closed_right (H : Prg K) {n t cells P X} (ht : 8 * t.length + 40 ≤ n) (hm : t.length ≤ 2 ^ 14) (q : ∀ cs, cells <+: cs → P (.bool true) cs) : K (n + 1) 305 [.str t] cells P X := by
  obtain ⟨n, rfl⟩ : ∃ m, n = m + 40 := fuel0 ht
  refine H.f305 rfl ?_
  unfold b_law_closed_right
  walk_at "wp"
  refine c_law_walk H (by walk_at "om") fun cs b so is tl c1 B htl hntl hfr => ?_
  walk_at "wp"
  have hW := At_W t t.length
  generalize hbk : At t t.length = bk at B hW
  obtain ⟨stk, h, cn, f⟩ := bk
  cases stk with
  | nil => exact hW.wf.elim
  | cons y ys =>
  cases is with
  | nil => exact B.it.elim
  | cons i is =>
  refine c_is_faulty H B ?_
  walk_at "wp"
  refine t_split (fun ha => ?_) (fun ha => ?_)
  · walk_at "wp"
    refine c_is_complete H (by walk_at "om") (by walk_at "om") fun cs' c2 => ?_
    walk_at "wp"
    rw [hbk, show isRight ⟨y :: ys, h, cn, f⟩ = true from by unfold isRight; rw [if_pos ha]]
    exact q _ (c1.trans c2)
  have hf : f = false := by
    cases f with
    | false => rfl
    | true => simp [isFaulty] at ha
  subst hf
  walk_at "wp"
  unfold b_law_closed_right_3
  walk_at "wp"
  cases h with
  | false =>
    refine t_F ?_
    walk_at "wp"
    exact cr_rest H (by walk_at "om") (by walk_at "om") c1 B hbk q
  | true =>
    refine t_T ?_
    walk_at "wp"
    have hl1 : (t ++ [46]).length = t.length + 1 := by rw [List.length_append, List.length_singleton]
    refine v_cat (by rw [hl1]; walk_at "om") ?_
    walk_at "wp"
    have hlen := hW.len
    simp only [List.length_cons] at hlen
    refine c_take H B (by walk_at "om") (wf_below hW.wf) (fun d z e w => by have := hW.b y (.head _) d z e w; walk_at "om") fun cs2 is2 B2 E2 => ?_
    walk_at "wp"
    have hA : At (t ++ [46]) (t ++ [46]).length = take ⟨y :: ys, true, cn, false⟩ 46 := by rw [At_app, hbk, run1]; rfl
    have hsh := dot_held ha
    generalize take ⟨y :: ys, true, cn, false⟩ 46 = bk2 at B2 hA hsh
    obtain ⟨stk2, h2, cn2, f2⟩ := bk2
    obtain ⟨rfl, rfl⟩ := hsh
    have hc2 : cells <+: cs2 := by
      have hcl := c1.length_le
      refine prefix_of (Nat.le_trans hcl E2.len) fun j hj => ?_
      rw [E2.keep j (Nat.lt_of_lt_of_le hj hcl) fun m => Nat.not_le_of_lt hj (hfr j m)]
      obtain ⟨w, rfl⟩ := c1
      rw [List.getElem?_append_left hj]
    exact cr_rest H (by rw [hl1]; walk_at "om") (by rw [hl1]; walk_at "om") hc2 B2 hA q
end
section
variable {K : Nat → Call}


noncomputable def pieceL : List (List Nat) := [[], [123], [125], [91], [93], [34], [36], [59], [92], [35], [40], [41], [32], [10], [97], [58], [42], [9], [57], [95], [233], [123, 42, 125], [36, 123], [36, 97], [36, 97, 40], [92, 10], [58, 58], [125, 32], [34, 32], [97, 32], [12], [90], [91, 97], [123, 97, 125], [59, 32], [92, 125], [36, 40], [13], [11], [35, 97]]
theorem piece_get {k : Nat} (h : k < 40) : ∃ s, (pieceL.map D.str)[k]? = some (.str s) ∧ s.length ≤ 3 := by
  have hl : k < pieceL.length := h
  refine ⟨pieceL[k], by rw [List.getElem?_map, List.getElem?_eq_getElem hl]; rfl, ?_⟩
  have : ∀ s ∈ pieceL, s.length ≤ 3 := by decide
  exact this _ (List.getElem_mem hl)

theorem c_pieces (H : Prg K) {n cs P X} (q : P (.obj cs.length) (cs ++ [.lst (pieceL.map D.str)])) : K (n + 1) 186 [] cs P X := by
  refine H.f186 rfl ?_
  unfold b_law_pieces
  walk_at "wp"
  exact q
theorem c_right_script (H : Prg K) {n cs P X} (q : ∀ s : List Nat, s.length ≤ 50 → P (.str s) cs) : K (n + 1) 193 [] cs P X := by
  refine H.f193 rfl ?_
  unfold b_law_right_script
  walk_at "wp"
  exact q _ (by decide)
theorem c_rows (H : Prg K) {n cs P X} (q : ∀ s : List Nat, s.length ≤ 50 → P (.str s) cs) : K (n + 1) 200 [] cs P X := by
  refine H.f200 rfl ?_
  unfold b_law_rows
  walk_at "wp"
  exact q _ (by decide)

noncomputable abbrev stM (t : List Nat) (nb pc : Nat) (o3 o4 o5 : Option D) (cs : List Cell) : St := ⟨[some (.str t), some (.obj nb), some (.obj pc), o3, o4, o5], cs⟩
theorem fmod_nat (x : Int) {m : Nat} (h : 0 < m) : x.fmod (m : Int) = ((x.fmod (m : Int)).toNat : Int) ∧ (x.fmod (m : Int)).toNat < m := by
  have h1 := Int.fmod_nonneg_of_pos x (Int.ofNat_lt.mpr h)
  have h2 := Int.fmod_lt_of_pos x (Int.ofNat_lt.mpr h)
  exact ⟨(Int.toNat_of_nonneg h1).symm, (Int.toNat_lt h1).mpr h2⟩
theorem ch_turn {K : Call} {X : XP} {Z : Fl → St → Prop} {t : List Nat} {nb pc : Nat} {x : Int} {o4 o5 : Option D} {cs : List Cell} (hp : cs[pc]? = some (.lst (pieceL.map D.str))) (ht : t.length ≤ 200) (hZ : ∀ l o3 o4 o5, l.length ≤ t.length + 3 → Z .next (stM l nb pc o3 o4 o5 cs)) :
    wpS K b_law_changed_1 (stM t nb pc (some (.int x)) o4 o5 cs) Z X := by
  obtain ⟨hx, hx2⟩ := fmod_nat x (show 0 < 40 by decide)
  obtain ⟨s, hs, hsl⟩ := piece_get hx2
  have hy := fmod_nat (x.fdiv 40) (Nat.succ_pos t.length)
  have tl : t.length ≤ 2 ^ 24 := Nat.le_trans ht (by decide)
  unfold b_law_changed_1
  walk_at "wp"
  refine v_mod (by decide) ?_
  walk_at "wp"
  refine rd_item hp hx (by simpa [pieceL] using hx2) (Nat.lt_trans hx2 (by decide)) hs ?_
  walk_at "wp"
  refine v_fdiv (by decide) ?_
  walk_at "wp"
  refine v_mod (by walk_at "om") ?_
  walk_at "wp"
  rw [hy.1]
  generalize ((x.fdiv 40).fmod (t.length + 1 : Nat)).toNat = y
  have hlen : ∀ z, (t.take y ++ s ++ t.drop (y + z)).length ≤ t.length + 3 := fun z => by
    simp only [List.length_append, List.length_take, List.length_drop]
    walk_at "om"
  have hl2 : (t.take y ++ s).length ≤ t.length + 3 := by
    have := hlen 0
    rw [List.length_append] at this
    walk_at "om"
  walk_at "wp"
  refine v_take tl ?_
  walk_at "wp"
  refine v_cat (by walk_at "om") ?_
  walk_at "wp"
  have fin : ∀ z, ∃ r1, sliceL t (.int ((y + z : Nat) : Int)) .none = some r1 ∧ t.length ≤ 2 ^ 24 ∧ ∃ d, binD .add (.str (t.take y ++ s)) (.str r1) = some d ∧ sizeOk d ∧ Z .next (stM t nb pc (some (.int x)) (some (.str s)) (some (.int (y : Nat))) cs |>.set 0 d) := fun z => by
    refine v_drop tl ?_
    exact v_cat (Nat.le_trans (hlen z) (by walk_at "om")) (hZ _ _ _ _ (hlen z))
  refine t_split (fun ha => ?_) (fun ha => ?_)
  · walk_at "wp"
    exact fin 1
  · walk_at "wp"
    refine v_add ?_
    walk_at "wp"
    exact fin 0
inductive ChI (nb pc T : Nat) (cs : List Cell) : List D → St → Prop
  | mk {ds : List D} {t : List Nat} {o3 o4 o5 : Option D} (hd : ∀ d ∈ ds, ∃ i, d = D.int i) (h1 : t.length + 3 * ds.length ≤ T) : ChI nb pc T cs ds (stM t nb pc o3 o4 o5 cs)

theorem c_changed (H : Prg K) {n t nb cs P X} {ns : List Int} (hn : cs[nb]? = some (.lst (ns.map D.int))) (hl : ns.length ≤ 3) (ht : t.length ≤ 100)
    (q : ∀ t' cs', cs <+: cs' → t'.length ≤ t.length + 9 → P (.str t') cs') : K (n + 2) 207 [.str t, .obj nb] cs P X := by
  have hnl := (List.getElem?_eq_some_iff.mp hn).1
  refine H.f207 rfl ?_
  unfold b_law_changed
  walk_at "wp"
  refine c_pieces H ?_
  walk_at "wp"
  have hn' : (cs ++ [Cell.lst (pieceL.map D.str)])[nb]? = some (.lst (ns.map D.int)) := by rw [List.getElem?_append_left hnl]; exact hn
  have hp : (cs ++ [Cell.lst (pieceL.map D.str)])[cs.length]? = some (.lst (pieceL.map D.str)) := by simp
  have hc : cs <+: cs ++ [Cell.lst (pieceL.map D.str)] := List.prefix_append _ _
  generalize cs ++ [Cell.lst (pieceL.map D.str)] = cs1 at hn' hp hc
  refine s_forE (r_loc rfl ?_) mono_loc
  refine ⟨ns.map D.int, itemsD_lst hn', by rw [List.length_map]; exact Nat.le_trans hl (by decide), ChI nb cs.length (t.length + 9) cs1, ?_, ?_, ?_⟩
  · exact .mk (fun d m => (List.mem_map.mp m).imp fun i z => z.2.symm) (by rw [List.length_map]; walk_at "om")
  · rintro _ ⟨_, h1⟩
    refine ⟨itemsD_lst hn', ?_⟩
    rw [seqP_n]
    unfold b_law_changed_2
    walk_at "wp"
    exact q _ cs1 hc h1
  · rintro d r _ k hk ⟨hd, h1⟩
    refine ⟨itemsD_lst hn', ?_⟩
    obtain ⟨x, rfl⟩ := hd d (.head _)
    rw [List.length_cons] at h1
    exact ch_turn hp (by walk_at "om") fun l o3 o4 o5 hl => hk _ (.mk (fun d m => hd d (.tail _ m)) (by walk_at "om"))
end
section
variable {K : Nat → Call}


theorem s_forE0 {K : Call} {σ : St} {P : Fl → St → Prop} {X : XP} {is : List Nat} {e : E} {b : S} (h : wpE K e σ (fun d σ1 => ∃ xs, itemsD σ1.cells d = some xs ∧ xs.length ≤ 2 ^ 20 ∧
      (xs.foldr (fun x (k : St → Prop) σ2 => itemsD σ2.cells d = some xs ∧ bindItem σ2 is x fun σ3 => wpS K b σ3 (forP k P) X) (fun σ2 => itemsD σ2.cells d = some xs ∧ P .next σ2)) σ1) X) : wpS K (.forE is e b) σ P X := h

theorem fold_all {α : Type} {I : St → Prop} {f : α → (St → Prop) → St → Prop} {e : St → Prop} (he : ∀ σ, I σ → e σ) : ∀ (l : List α), (∀ n ∈ l, ∀ (k : St → Prop) σ, (∀ σ, I σ → k σ) → I σ → f n k σ) → ∀ σ, I σ → (l.foldr f e) σ
  | [], _, σ, h => he σ h
  | n :: l, hf, σ, h => hf n (.head _) _ σ (fun σ h => fold_all he l (fun m hm => hf m (.tail _ hm)) σ h) h

theorem range_mem {a b c : Int} (hc : 0 < c) {x : Int} (m : x ∈ rangeL a b c) : a ≤ x ∧ x < b := by
  unfold rangeL at m
  obtain ⟨i, hi, rfl⟩ := List.mem_map.mp m
  have hi := List.mem_range.mp hi
  have h0 : 0 ≤ (i : Int) * c := Int.mul_nonneg (by walk_at "om") (by walk_at "om")
  refine ⟨by walk_at "om", ?_⟩
  unfold PySem.Builtin.Range.rangeSize at hi
  rw [if_pos hc] at hi
  split at hi
  · have h1 : (i : Int) ≤ (b - a - 1) / c := by walk_at "om"
    have h2 := Int.mul_le_mul_of_nonneg_right h1 (show 0 ≤ c by walk_at "om")
    have h3 := Int.ediv_mul_le (b - a - 1) (show c ≠ 0 by walk_at "om")
    walk_at "om"
  · walk_at "om"

theorem told_get (t : List Nat) {p j : Nat} (h : j ≤ p) : (toldD t p)[j]? = some (.bool (isRight (At t j))) := by
  unfold toldD
  rw [List.getElem?_map, List.getElem?_range (by walk_at "om")]; rfl
theorem At_take (t : List Nat) (k : Nat) : At (t.take k) (t.take k).length = At t k := by
  unfold At
  rw [List.take_length]

inductive LwI (t : List Nat) (o0 o1 o2 o3 : Option D) (a c : Int) (tl b : Nat) (cells : List Cell) : St → Prop
  | mk {cs : List Cell} {o9 : Option D} (h1 : cells <+: cs) (h2 : cs[tl]? = some (.lst (toldD t t.length))) : LwI t o0 o1 o2 o3 a c tl b cells ⟨[o0, o1, o2, o3, some (.str t), some (.int a), some (.int c), some (.obj tl), some (.obj b), o9], cs⟩
theorem law_turn (H : Prg K) {cells cs : List Cell} {o0 o1 o2 o3 : Option D} {t : List Nat} {a c : Int} {tl b j : Nat} {Z : Fl → St → Prop} {X : XP} (ht : t.length ≤ 100) (hj : j ≤ t.length) (h1 : cells <+: cs) (h2 : cs[tl]? = some (.lst (toldD t t.length))) (hZ : ∀ σ, LwI t o0 o1 o2 o3 a c tl b cells σ → Z .next σ) :
    wpS (K 560) b_law_1 ⟨[o0, o1, o2, o3, some (.str t), some (.int a), some (.int c), some (.obj tl), some (.obj b), some (.int (j : Int))], cs⟩ Z X := by
  have hl : (t.take j).length ≤ 100 := Nat.le_trans (List.length_take_le _ _) (Nat.le_trans hj ht)
  unfold b_law_1
  walk_at "wp"
  refine v_take (Nat.le_trans ht (by decide)) ?_
  walk_at "wp"
  refine c_is_complete H (Nat.le_trans hl (by decide)) (by walk_at "om") fun cs2 c2 => ?_
  walk_at "wp"
  have hg : cs2[tl]? = some (.lst (toldD t t.length)) := by
    obtain ⟨w, rfl⟩ := c2
    rw [List.getElem?_append_left (List.getElem?_eq_some_iff.mp h2).1]; exact h2
  refine rd_item (k := j) hg rfl (by rw [told_len]; exact Nat.lt_succ_of_le hj) (by walk_at "om") (told_get t hj) ?_
  walk_at "wp"
  rw [At_take]
  refine t_neg (by simp) ?_
  walk_at "wp"
  exact hZ _ (.mk (h1.trans c2) hg)

theorem turn_law (H : Prg K) {cells : List Cell} {o0 o1 o2 o3 o7 o8 o9 : Option D} {t : List Nat} {a c : Int} (ht : t.length ≤ 100) (ha : 0 ≤ a ∧ a ≤ 1) (hc : c = 1 ∨ c = 2) {Z : Fl → St → Prop} {X : XP}
    (hk : ∀ cs' o7 o8 o9, cells <+: cs' → Z .next ⟨[o0, o1, o2, o3, some (.str t), some (.int a), some (.int c), o7, o8, o9], cs'⟩) :
    wpS (K 560) b_law_2 ⟨[o0, o1, o2, o3, some (.str t), some (.int a), some (.int c), o7, o8, o9], cells⟩ Z X := by
  unfold b_law_2
  walk_at "wp"
  refine c_law_walk (n := 551) H (Nat.le_trans ht (by decide)) fun cs b so is tl c1 B htl hntl hfr => ?_
  walk_at "wp"
  refine s_forR ?_
  walk_at "wp"
  refine ⟨a, (t.length : Int) + 1, c, rfl, rfl, rfl, by walk_at "om", by walk_at "om", by walk_at "om", by walk_at "om", by walk_at "om", by walk_at "om", by walk_at "om", ?_⟩
  refine fold_all (I := LwI t o0 o1 o2 o3 a c tl b cells) ?_ _ ?_ _ (.mk c1 htl)
  · rintro _ ⟨h1, h2⟩
    exact hk _ _ _ _ h1
  · rintro x hx k2 _ hk2 ⟨h1, h2⟩
    obtain ⟨hx1, hx2⟩ := range_mem (by walk_at "om") hx
    obtain ⟨j, rfl⟩ : ∃ j : Nat, x = (j : Int) := ⟨x.toNat, by walk_at "om"⟩
    exact law_turn H ht (by walk_at "om") h1 h2 hk2

theorem three_turns {K : Call} {u : S} {o0 o1 o2 o3 o4 o5 o6 o7 o8 o9 : Option D} {cs : List Cell} {x : Nat} {a1 b1 c1 a2 b2 c2 a3 b3 c3 : D} {Z : Fl → St → Prop} {X : XP} (hx : cs[x]? = some (.lst [.tup [a1, b1, c1], .tup [a2, b2, c2], .tup [a3, b3, c3]]))
    (h1 : ∀ cs2 p7 p8 p9 (k : St → Prop), cs <+: cs2 → (∀ cs3 o7 o8 o9, cs <+: cs3 → k ⟨[o0, o1, o2, o3, some a1, some b1, some c1, o7, o8, o9], cs3⟩) → wpS K u ⟨[o0, o1, o2, o3, some a1, some b1, some c1, p7, p8, p9], cs2⟩ (forP k Z) X)
    (h2 : ∀ cs2 p7 p8 p9 (k : St → Prop), cs <+: cs2 → (∀ cs3 o7 o8 o9, cs <+: cs3 → k ⟨[o0, o1, o2, o3, some a2, some b2, some c2, o7, o8, o9], cs3⟩) → wpS K u ⟨[o0, o1, o2, o3, some a2, some b2, some c2, p7, p8, p9], cs2⟩ (forP k Z) X)
    (h3 : ∀ cs2 p7 p8 p9 (k : St → Prop), cs <+: cs2 → (∀ cs3 o7 o8 o9, cs <+: cs3 → k ⟨[o0, o1, o2, o3, some a3, some b3, some c3, o7, o8, o9], cs3⟩) → wpS K u ⟨[o0, o1, o2, o3, some a3, some b3, some c3, p7, p8, p9], cs2⟩ (forP k Z) X)
    (h : ∀ σ, (∃ o4 o5 o6 o7 o8 o9 cs3, σ = ⟨[o0, o1, o2, o3, o4, o5, o6, o7, o8, o9], cs3⟩) → Z .next σ) :
    ([D.tup [a1, b1, c1], .tup [a2, b2, c2], .tup [a3, b3, c3]].foldr (fun x' (k : St → Prop) σ2 => itemsD σ2.cells (.obj x) = some [.tup [a1, b1, c1], .tup [a2, b2, c2], .tup [a3, b3, c3]] ∧ bindItem σ2 [4, 5, 6] x' fun σ3 => wpS K u σ3 (forP k Z) X)
      (fun σ2 => itemsD σ2.cells (.obj x) = some [.tup [a1, b1, c1], .tup [a2, b2, c2], .tup [a3, b3, c3]] ∧ Z .next σ2)) ⟨[o0, o1, o2, o3, o4, o5, o6, o7, o8, o9], cs⟩ := by
  have it : ∀ cs2, cs <+: cs2 → itemsD cs2 (.obj x) = some [.tup [a1, b1, c1], .tup [a2, b2, c2], .tup [a3, b3, c3]] := fun cs2 h => by
    obtain ⟨w, rfl⟩ := h
    exact itemsD_lst ((List.getElem?_append_left (List.getElem?_eq_some_iff.mp hx).1).trans hx)
  refine ⟨it _ (List.prefix_refl _), _, rfl, rfl, h1 _ _ _ _ _ (List.prefix_refl _) fun cs2 o7 o8 o9 e2 => ?_⟩
  refine ⟨it _ e2, _, rfl, rfl, h2 _ _ _ _ _ e2 fun cs3 o7 o8 o9 e3 => ?_⟩
  refine ⟨it _ e3, _, rfl, rfl, h3 _ _ _ _ _ e3 fun cs4 o7 o8 o9 e4 => ?_⟩
  exact ⟨it _ e4, h _ ⟨_, _, _, _, _, _, _, rfl⟩⟩

theorem c_law (H : Prg K) {ns : List Int} {sc : Nat} {drawn : List Nat} {cells : List Cell} {P : Fl → St → Prop} {X : XP} (hs : cells[sc]? = some (.lst (ns.map D.int))) (hn : ns.length ≤ 63) (hd : drawn.length ≤ 42) (q : ∀ σ, P (.ret (.bool true)) σ) :
    wpS (K 560) b_law ⟨[some (.obj sc), some (.str drawn), none, none, none, none, none, none, none, none], cells⟩ P X := by
  unfold b_law
  walk_at "wp"
  refine c_right_script (n := 559) H fun s hs50 => ?_
  walk_at "wp"
  refine ⟨_, _, hs, rfl, by simp; walk_at "om", ?_⟩
  walk_at "wp"
  have e3 : (ns.map D.int).take (clamp (ns.map D.int).length 3) = (ns.take 3).map D.int := by
    rw [List.map_take]
    unfold clamp
    rw [if_neg (by decide), List.take_eq_take_iff]
    simp
  rw [e3]
  refine c_changed (n := 558) (ns := ns.take 3) H (by simp) (by simp; walk_at "om") (by walk_at "om") fun t' cs' c1 hl' => ?_
  walk_at "wp"
  have hcs : cells <+: cs' := (List.prefix_append _ _).trans c1
  have keep : ∀ cs2, cells <+: cs2 → cs2[sc]? = some (.lst (ns.map D.int)) := fun cs2 h => by
    obtain ⟨w, rfl⟩ := h
    rw [List.getElem?_append_left (List.getElem?_eq_some_iff.mp hs).1]; exact hs
  refine ⟨sc, ns, rfl, keep _ hcs, ?_⟩
  walk_at "wp"
  refine v_add ?_
  walk_at "wp"
  refine v_mod (by walk_at "om") ?_
  walk_at "wp"
  refine ⟨_, rfl, by walk_at "om", ?_⟩
  walk_at "wp"
  have hcut : (t'.take (clamp t'.length ((24 + ns.sum).fmod ((t'.length + 1 : Nat) : Int)))).length ≤ 59 := by simp; walk_at "om"
  generalize t'.take (clamp t'.length ((24 + ns.sum).fmod ((t'.length + 1 : Nat) : Int))) = cut at hcut
  refine s_forE0 ?_
  walk_at "wp"
  refine c_rows (n := 559) H fun rows hr => ?_
  walk_at "wp"
  refine ⟨((ns.length : Nat) : Int), by rw [lenD_lst (keep _ hcs)]; simp, by walk_at "om", ?_⟩
  walk_at "wp"
  refine v_mod (by decide) ?_
  walk_at "wp"
  have hf : 0 ≤ ((ns.length : Nat) : Int).fmod 2 ∧ ((ns.length : Nat) : Int).fmod 2 ≤ 1 := by
    have := Int.fmod_nonneg_of_pos ((ns.length : Nat) : Int) (show (0 : Int) < 2 by decide)
    have := Int.fmod_lt_of_pos ((ns.length : Nat) : Int) (show (0 : Int) < 2 by decide)
    walk_at "om"
  generalize ((ns.length : Nat) : Int).fmod 2 = f at hf
  have hxs : (cs' ++ [Cell.lst [D.tup [D.str drawn, D.int 0, D.int 1], D.tup [D.str rows, D.int 0, D.int 1], D.tup [D.str t', D.int f, D.int 2]]])[cs'.length]? = some (.lst [D.tup [D.str drawn, D.int 0, D.int 1], D.tup [D.str rows, D.int 0, D.int 1], D.tup [D.str t', D.int f, D.int 2]]) := by
    rw [List.getElem?_append_right (Nat.le_refl _), Nat.sub_self]; rfl
  refine ⟨_, itemsD_lst hxs, (by show 3 ≤ 2 ^ 20; decide), ?_⟩
  refine three_turns hxs (fun cs2 p7 p8 p9 k h hk => turn_law H (by walk_at "om") (by decide) (.inl rfl) fun cs3 o7 o8 o9 h3 => hk cs3 o7 o8 o9 (h.trans h3)) (fun cs2 p7 p8 p9 k h hk => turn_law H (by walk_at "om") (by decide) (.inl rfl) fun cs3 o7 o8 o9 h3 => hk cs3 o7 o8 o9 (h.trans h3)) (fun cs2 p7 p8 p9 k h hk => turn_law H (by walk_at "om") hf (.inr rfl) fun cs3 o7 o8 o9 h3 => hk cs3 o7 o8 o9 (h.trans h3)) fun σ e => ?_
  rw [seqP_n]
  obtain ⟨l4, l5, l6, l7, l8, l9, cs4, rfl⟩ := e
  unfold b_law_3
  walk_at "wp"
  refine c_closed_right (n := 559) H (by walk_at "om") (by walk_at "om") fun cs5 c5 => ?_
  walk_at "wp"
  refine c_closed_right (n := 559) H (by walk_at "om") (by walk_at "om") fun cs6 c6 => ?_
  walk_at "wp"
  exact q _
end
section
open PySem PySem.Calls PySem.W PyProof.Rows

section
variable {prog : Program} {w : World} {base : Heap} {C : Addr} {env : Env} {outer : List Env} {names : List Str} {fn : Nat → Option Addr}

theorem Rel.aside2 (ok : EnvOk env names) {σ : St} {μ : List Addr} {h h' : Heap} {c : Addr} {v0 : Option Value} (R : Rel prog w base env outer names σ μ h) (hb : base.get? c = none) (hF : c ∉ FA (env :: outer)) (hm : c ∉ μ) (hc : h.IsCell c v0)
    (sb : ∀ b, b ≠ c → h'.get? b = h.get? b) : Rel prog w base env outer names σ μ h' := by
  have tu : Tups h h' := fun a vs n e => (sb a (fun q => by
    obtain ⟨o, ho, hd⟩ := hc
    rw [q, ho] at e; cases e; cases hd)).trans e
  have fne : ∀ a ∈ FA (env :: outer), a ≠ c := fun a m q => hF (q ▸ m)
  refine ⟨⟨fun b o e => (sb b (fun q => by rw [q, hb] at e; cases e)).trans (R.inv.stays b o e), funFrames_of_data (fun b m o e => ⟨o, (sb b (fne b m)).trans e, rfl⟩) R.inv.frames, R.inv.len, R.inv.nodup, R.inv.fresh, R.inv.apart, fun a ma => ?_, fun j a d e1 e2 => ?_⟩, ?_⟩
  · obtain ⟨f, o, es, ep, e, r⟩ := R.inv.dicts a ma
    exact ⟨f, o, es, ep, (sb a (fne a ma)).trans e, r⟩
  · have ma := List.mem_of_getElem? e1
    exact (R.inv.cells j a d e1 e2).mono tu (List.prefix_refl _) fun o e => (sb a (fun q => hm (q ▸ ma))).trans e
  · obtain ⟨m, ⟨o, es, ep, e, r⟩, hv⟩ := R.ns
    refine ⟨m, ⟨o, es, ep, (sb _ (fne _ (locals_mem ok))).trans e, r⟩, fun i x d e1 e2 => ?_⟩
    obtain ⟨v, e, r⟩ := hv i x d e1 e2
    exact ⟨v, e, r.mono tu (List.prefix_refl _)⟩

theorem aside_keeps {μ μ' : List Addr} {h h' : Hp} {c : Addr} {v : Option Value} (hF : c ∉ FA (env :: outer)) (hL : c ≠ env.locals) (hm : c ∉ μ) (hc : h.1.IsCell c v) (g : Gro h.1 μ μ') (x : Ext (FA (env :: outer)) ([env.locals] ++ μ) h h') : h'.1.IsCell c v ∧ c ∉ μ' := by
  obtain ⟨o, ho, hd⟩ := hc
  refine ⟨⟨o, x.keep c o ho hF fun m => ?_, hd⟩, fun m => ?_⟩
  · rcases List.mem_append.mp m with m | m
    · exact hL (List.mem_singleton.mp m)
    · exact hm m
  · rcases g.new c m with m | m
    · exact hm m
    · rw [ho] at m; cases m

theorem strs_of {p : Value → Bool} {l : List Value} {ys : List Value} (h : Paired (fun _ y => ∃ (x : Str) (t : Tok), y = Value.str x t ∧ x.length ≤ 3) l ys) : ∃ zs : List Str, StrsAre ys zs ∧ zs.length = l.length ∧ ∀ z ∈ zs, z.length ≤ 3 := by
  induction h with
  | nil => exact ⟨[], .nil, rfl, fun z m => by cases m⟩
  | cons h1 h2 ih =>
    obtain ⟨zs, a, b, c⟩ := ih
    obtain ⟨x, t, rfl, hx⟩ := h1
    exact ⟨x :: zs, .cons x t a, by simp [b], fun z m => by
      rcases List.mem_cons.mp m with rfl | m
      · exact hx
      · exact c z m⟩

theorem sum_le3 : ∀ {zs : List Str}, (∀ z ∈ zs, z.length ≤ 3) → (zs.map (·.length)).sum ≤ 3 * zs.length
  | [], _ => by simp
  | z :: zs, h => by
    have := sum_le3 (zs := zs) fun y m => h y (.tail _ m)
    have := h z (.head _)
    simp only [List.map_cons, List.sum_cons, List.length_cons]; walk_at "om"
theorem join_len : ∀ (zs : List Str), (Str.join ⟨#[]⟩ zs).length = (zs.map (·.length)).sum
  | [] => rfl
  | z :: zs => by
    rw [PyProof.Rows.join_nil_cons, List.map_cons, List.sum_cons, ← join_len zs]
    show (z.cps ++ _).size = _
    rw [Array.size_append]; rfl

theorem cut_id {α : Type} (l : List α) {k : Nat} (h : l.length ≤ k) : l.take (clamp l.length (k : Int)) = l := by
  unfold clamp
  rw [if_neg (by walk_at "om")]
  exact List.take_of_length_le (by simp; walk_at "om")
theorem cut_len {α : Type} (l : List α) (k : Nat) : (l.take (clamp l.length (k : Int))).length ≤ k := by
  unfold clamp
  rw [if_neg (by walk_at "om")]
  simp; walk_at "om"
end

noncomputable abbrev sc2 : Scope := { kind := .function, names := [(Str.ofString ".0", .local), (Str.ofString "x", .local), (Str.ofString "pieces", .free)], isGenerator := false, isCoroutine := false }
section
variable {prog : Program} {w : World} {base : Heap} {mg mb : Str → Option Value} {env : Env} {outer : List Env} {names : List Str}
theorem clos_is {c : Addr} (hcl : env.cells.lookup (Str.ofString "pieces") = some c) : closureFor sc2 env = pure [(Str.ofString "pieces", c)] := by
  have e : PySem.cellOf env (Str.ofString "pieces") = pure c := by
    unfold PySem.cellOf
    rw [hcl]
  unfold closureFor
  simp only [List.forIn_cons, List.forIn_nil]
  rw [e]
  rfl

theorem relab (hk : env.scope.kind = .function) (hkp : env.kindOf (Str.ofString "pieces") = some .cell) : (relabel sc2 env).names = [(Str.ofString ".0", .local), (Str.ofString "x", .local), (Str.ofString "pieces", .cell)] := by
  unfold relabel
  simp only [List.map_cons, List.map_nil, hk, hkp]
  rfl

theorem draw_ok (ok : EnvOk env names) {i0 : Nat} (hks : names[i0]? = some (Str.ofString "script")) (hkp : env.kindOf (Str.ofString "pieces") = some .cell) {c : Addr} (hcl : env.cells.lookup (Str.ofString "pieces") = some c)
    {n : Nat} {A : Around} {σ : St} {μ : List Addr} {s : Shared} {E : Value → Shared → Prop} (hA : AOk A (env :: outer) n) (R : Rel prog w base env outer names σ μ s.heap) {j jp : Nat} {ns : List Int} {pa : Addr} (hloc : σ.loc[i0]? = some (some (.obj j))) (hj : σ.cells[j]? = some (.lst (ns.map D.int))) (hn : ns.length ≤ 63)
    (hc : s.heap.IsCell c (some (.ref pa))) (hcF : c ∉ FA (env :: outer)) (hcL : c ≠ env.locals) (hcm : c ∉ μ) (hp : μ[jp]? = some pa) (hjp : σ.cells[jp]? = some (.lst (pieceL.map D.str)))
    {k1 k2 k3 : Nat} {p1 p2 p3 p4 p5 p6 p7 p8 p9 p10 p11 p12 p13 p14 : Pos} (hline : (p2.endLine == p14.line) = true) :
    wpAny (model prog w) A (eval (.Call (.Attribute (.Constant (.str (Str.ofString "")) k1 p1) "join" p2) [.ListComp (.Subscript (.Name (Str.ofString "pieces") p3) (.BinOp (.Name (Str.ofString "x") p4) .Mod (.Constant (.int 40) k2 p5) p6) p7) [⟨.Name (Str.ofString "x") p8, .Subscript (.Name (Str.ofString "script") p9) (.Slice none (some (.Constant (.int 14) k3 p10)) none p11) p12, [], 0⟩] sc2 p13] [] p14) env)
      (PostE prog w base env outer names (hOf s) μ (fun d σ' => ∃ l : List Nat, d = .str l ∧ l.length ≤ 42 ∧ σ'.loc = σ.loc ∧ σ.cells <+: σ'.cells)) E s := by
  refine Call_method1 rfl rfl hline (wpAny_Constant_str ?_)
  refine ⟨"str", "str.join", F.plainAttrs_str, F.slot_str_join, F.type_str_join, typeIs_str _ _ _, (fun _ e => nomatch e), ?_⟩
  refine callWith_builtin rfl (evalArgs_plain (spliced_cons ?_))
  refine wpAny_ListComp_free (fun _ => true) (fun _ y => ∃ (x : Str) (t : Tok), y = Value.str x t ∧ x.length ≤ 3) (clos_is hcl) (by decide) rfl (by decide) rfl ?_
  refine wpAny_mono (sound_slice (prog := prog) (w := w) (base := base) (fn := fnA) (C := 33) (lo := none) (hi := some (.Constant (.int 14) k3 p10)) (a := .loc i0) (b := .cst .none) (c := .cst (.int 14)) ok (sound_loc ok hks) rfl sound_int outer n A σ μ _ (fun d σ' => d = .obj σ.cells.length ∧ σ' = { σ with cells := σ.cells ++ [.lst ((ns.map D.int).take (clamp (ns.map D.int).length ((14 : Nat) : Int)))] }) (fun _ _ => False) hA R ?_) (fun v s1 p1 => ?_) (fun e s' y => ?_)
  · exact r_slice (r_loc hloc (r_cst (r_cst ⟨_, _, hj, rfl, by simp; walk_at "om", rfl, rfl⟩)))
  · obtain ⟨d, σ1, μ1, ⟨rfl, rfl⟩, R1, r1, g1, x1⟩ := p1
    have hlen := cut_len (ns.map D.int) 14
    rw [← List.map_take] at hlen R1
    generalize hks' : ns.take (clamp (ns.map D.int).length ((14 : Nat) : Int)) = ks at R1 hlen
    have hcc : (σ.cells ++ [Cell.lst (ks.map D.int)])[σ.cells.length]? = some (Cell.lst (ks.map D.int)) := by simp
    obtain ⟨a, rfl, ha, vs, k, e, hv⟩ := cellOf R1.inv hcc r1
    obtain ⟨xs, hxs, -⟩ := ints_of hv
    have hvl : vs.size ≤ 14 := by
      have := hv.length
      simp only [List.length_map] at this hlen
      have e2 : vs.size = vs.toList.length := by simp
      walk_at "om"
    refine wpAny_pyIter_list (isList_of e) ?_
    have hlt := Heap.lt_size e
    have hnI := size_none s1.heap
    have keepI : ∀ {h' : Heap}, (∀ b o, b ∉ [s1.heap.objs.size] → (s1.heap.push { cls := .type "list_iterator", data := .fields #[.ref a, .int 0 0] }).get? b = some o → h'.get? b = some o) → ∀ b o, s1.heap.get? b = some o → h'.get? b = some o := fun hk b o q =>
      hk b o (fun m => by rw [List.mem_singleton.mp m, hnI] at q; cases q) (Heap.get?_push_of_some _ q)
    refine ⟨s1.heap.objs.size, [s1.heap.objs.size, a], [s1.heap.objs.size], vs.size, _, _, rfl, Walks.list hA.handled _ a (Nat.ne_of_lt hlt) vs, (by rw [sizeLine_is]; walk_at "om"), ⟨⟨_, Heap.get?_push_size _ rfl, rfl, rfl⟩, (isList_of e).push _⟩, fun b hb => ?_, ⟨?_, ?_⟩, ?_⟩
    · show b < (s1.heap.push _).objs.size
      rw [Heap.size_push]
      rcases List.mem_cons.mp hb with rfl | hb
      · exact Nat.lt_succ_self _
      · rw [List.mem_singleton.mp hb]; exact Nat.lt_succ_of_lt hlt
    · intro C i v s3 m3 E' h1 h2 h3 h4 h5 h6
      exact wpAny_pure ⟨rfl, s3.heap, s3.toks, rfl, fun _ _ q => q⟩
    · intro C i v s3 m3 E' h1 h2 h3 h4 h5 h6 h7
      obtain ⟨kk, tt, rfl⟩ : ∃ kk tt, v = Value.int kk tt := by
        have h2' : vs.toList[i]? = some v := by simpa using h2
        rw [hxs, List.getElem?_map] at h2'
        obtain ⟨p, _, rfl⟩ := Option.map_eq_some_iff.mp h2'
        exact ⟨_, _, rfl⟩
      have hc1 : s1.heap.IsCell c (some (.ref pa)) := (aside_keeps hcF hcL hcm hc g1 x1).1
      have hc3 : s3.heap.IsCell c (some (.ref pa)) := let ⟨o, ho, hd⟩ := hc1; ⟨o, keepI h6 c o ho, hd⟩
      have R3 := R1.grow (keepI h6)
      have hp1 : μ1[jp]? = some pa := by
        obtain ⟨w', rfl⟩ := g1.pre
        rw [List.getElem?_append_left (List.getElem?_eq_some_iff.mp hp).1]; exact hp
      have hjp1 : (σ.cells ++ [Cell.lst (ks.map D.int)])[jp]? = some (.lst (pieceL.map D.str)) := by
        rw [List.getElem?_append_left (List.getElem?_eq_some_iff.mp hjp).1]; exact hjp
      have hx : kk.fmod 40 = ((kk.fmod 40).toNat : Int) ∧ (kk.fmod 40).toNat < 40 := by
        have := Int.fmod_nonneg_of_pos kk (show (0 : Int) < 40 by decide)
        have := Int.fmod_lt_of_pos kk (show (0 : Int) < 40 by decide)
        walk_at "om"
      obtain ⟨z, hz, hzl⟩ := piece_get hx.2
      obtain ⟨d, hd, rfl⟩ := rd_item (Q := fun d => d = .str z) hjp1 hx.1 (by simpa [pieceL] using hx.2) (by walk_at "om") hz rfl
      have hrl := relab ok.kind hkp
      have hkc : (compEnvC sc2 [(Str.ofString "pieces", c)] C env).kindOf (Str.ofString "pieces") = some .cell := by
        show (relabel sc2 env).names.lookup _ = _
        rw [hrl]; rfl
      have hkx : (compEnvC sc2 [(Str.ofString "pieces", c)] C env).kindOf (Str.ofString "x") = some .local := by
        show (relabel sc2 env).names.lookup _ = _
        rw [hrl]; rfl
      refine PyProof.Rows.Subscript_ (wpAny_Name (wpAny_loadName_cell (c := c) rfl hkc rfl hc3 (wpAny_BinOp (wpAny_Name (wpAny_loadName_local rfl hkx h4 h5 (wpAny_Constant_int (PyProof.Rows.mod_int' (by decide) ?_))) (by decide)))) (by decide))
      obtain ⟨⟨T, id, hT, hlk⟩, hg⟩ := sub_ok (A := A) (X := E') (Q := fun y s₄ => (∃ (x : Str) (t : Tok), y = Value.str x t ∧ x.length ≤ 3) ∧ Keeps s3 s₄) (s := { s3 with toks := s3.toks + 1 + 1 }) (x := .obj jp) (y := .int (kk.fmod 40)) (v := .ref pa) (u := .int (kk.fmod 40) (s3.toks + 1)) R3.inv ⟨pa, rfl, hp1⟩ ⟨_, rfl⟩ hd (fun r tk hv => by
        obtain ⟨t, rfl⟩ := hv
        exact ⟨⟨_, t, rfl, by simpa [Str.length] using hzl⟩, s3.heap, tk, rfl, fun _ _ q => q⟩)
      exact PyProof.Rows.tail_any hT hlk hg rfl
    · intro dD h' tk ys vs' hD hlD hplD hlen' hP hF hk
      have kp := keepI hk
      obtain ⟨zs, hz1, hz2, hz3⟩ := strs_of (p := fun _ => true) hF
      have hzl : zs.length ≤ 14 := by rw [hz2]; exact Nat.le_trans (List.length_filter_le _ _) (by walk_at "om")
      have hsum := sum_le3 hz3
      refine spliced_nil (join_list hlD hz1 (by show _ + zs.length * 0 ≤ _; walk_at "om") fun t' tk' => ?_)
      have ej : Txt.join (Str.ofString "") zs = Str.join ⟨#[]⟩ zs := eq_of_beq (join_plain_closes _ zs)
      rw [ej]
      have hjl := join_len zs
      generalize Str.join ⟨#[]⟩ zs = J at hjl
      refine ⟨.str J.cps.toList, { σ with cells := σ.cells ++ [Cell.lst (ks.map D.int)] }, μ1, ⟨J.cps.toList, rfl, ?_, rfl, List.prefix_append _ _⟩, R1.grow kp, ⟨t', by simp⟩, g1, x1.trans g1 (Ext.of_keeps kp)⟩
      have : J.length = J.cps.toList.length := by simp [Str.length]
      walk_at "om"
  · obtain ⟨_, _, _, _, _, _, _, hX, _⟩ := y
    exact hX.elim
end
end
section
open PySem PySem.Calls PySem.W PyProof.Rows

section
variable {prog : Program} {w : World} {base : Heap} {mg mb : Str → Option Value}

theorem vrs_ints {h : Heap} {μ : List Addr} {vs : List Value} {ns : List Int} (x : IntsAre vs ns) : VRs h μ (ns.map D.int) vs := by
  induction x with
  | nil => rfl
  | cons n t r ih => exact ⟨_, _, rfl, ⟨t, rfl⟩, ih⟩

theorem T186 (H : TopOk prog w base mg mb) : mg (Str.ofString "_law_pieces") = some (.ref 186) ∧ ∃ o fd, base.get? 186 = some o ∧ o.data = .func fd := H.tbl _ _ (fnd_mem (by kernel_rfl))
theorem copy_ok {env : Env} (ok : EnvOk env v_law) {A : Around} {Q : Value → Shared → Prop} {E : Value → Shared → Prop} {hp : Heap} {gens : Array GenState} {dr : Drawn} {tk : Nat} {os : OsState} {la : Addr} {vs : Array Value} {ns : List Int} {m : Str → Option Value} {k0 : Nat} {q2 q3 q4 q5 : Pos}
    (hns : hp.Ns env.locals m) (hm : m (Str.ofString "script") = some (.ref la)) (hla : hp.IsList la vs) (hi : IntsAre vs.toList ns) (hn : ns.length ≤ 63)
    (k : ∀ h2 al us tk, (∀ b o, hp.get? b = some o → h2.get? b = some o) → hp.get? al = none → h2.get? al = some (listOf us 0) → VRs h2 [al] (ns.map D.int) us.toList → Q (.ref al) ⟨h2, gens, dr, tk, os⟩) :
    wpAny (model prog w) A (eval (.Subscript (.Name (Str.ofString "script") q2) (.Slice none (some (.Constant (.int 63) k0 q3)) none q4) q5) env) Q E ⟨hp, gens, dr, tk, os⟩ := by
  refine PyProof.Rows.Subscript_ (nm_ok (i := 0) ok rfl hns hm (wpAny_Slice (wpAny_evalPart_none (wpAny_evalPart_some (wpAny_Constant_int (wpAny_evalPart_none ?_))))))
  have kp1 := keepPush (h := hp) { cls := .type "slice", data := .fields #[.none, .int 63 tk, .none] }
  have hsl := Heap.get?_push_size hp (o := { cls := .type "slice", data := .fields #[.none, .int 63 tk, .none] }) rfl
  have hn1 := size_none hp
  generalize hp.push { cls := .type "slice", data := .fields #[.none, .int 63 tk, .none] } = h1 at kp1 hsl ⊢
  have hla1 : h1.IsList la vs := let ⟨o, ho, r⟩ := hla; ⟨o, kp1 _ _ ho, r⟩
  have hnl : (ns.map D.int).length ≤ 63 := by rw [List.length_map]; exact hn
  refine PyProof.Rows.tail_any (T := "list") (let ⟨o, ho, hc, _⟩ := hla1; ⟨o, ho, hc⟩) slot_list_getitem.lookup (list_slice_ok (h := hp) (μ := []) (l := ns.map D.int) (y := .none) (z := .int ((63 : Nat) : Int)) hsl hla1 (vrs_ints hi) rfl ⟨_, rfl⟩ rfl (Nat.le_trans hnl (show 63 ≤ 2 ^ 20 by decide)) fun us hu => ?_) (ops := [_, _]) rfl
  replace hu : VRs hp [] ((ns.map D.int).take (clamp (ns.map D.int).length ((63 : Nat) : Int))) us := hu
  rw [cut_id _ hnl] at hu
  have kp2 := keepPush (h := h1) (listOf us.toArray 0)
  have hn2 := size_none h1
  exact k _ _ _ _ (fun b o q => kp2 b o (kp1 b o q)) (by
    cases q : hp.get? h1.objs.size with
    | none => rfl
    | some o => have := kp1 _ _ q; rw [hn2] at this; cases this) (Heap.get?_push_size _ rfl) (by simpa using hu.mono (fun b vs n e => kp2 _ _ (kp1 _ _ e)) (List.nil_prefix))
structure LawAt (prog : Program) (w : World) (base : Heap) (nm : Str) (L a : Addr) (cd : Value) (l : List (Option D)) (cells : List Cell) (μ : List Addr) (v : Option Value) (h : Heap) : Prop where
  R : Rel prog w base (envL w.params nm L a cd) [] v_law ⟨l, cells⟩ μ h
  c : h.IsCell (L + 1) v
  m : L + 1 ∉ μ
section
variable {nm : Str} {L a : Addr} {cd : Value} {A : Around} {Q : Flow → Shared → Prop} {E : Value → Shared → Prop} {hp : Heap} {gens : Array GenState} {dr : Drawn} {tk : Nat} {os : OsState} {ns : List Int}
theorem law_s1 {la : Addr} {vs : Array Value} {m : Str → Option Value} {v0 : Option Value} {k0 : Nat} {q1 q2 q3 q4 q5 q6 : Pos}
    (hst : base.StaysIn hp) (hL : base.get? L = none) (hns : hp.Ns L m) (hm : m (Str.ofString "script") = some (.ref la)) (hla : base.IsList la vs) (hi : IntsAre vs.toList ns) (hn : ns.length ≤ 63) (hc : hp.IsCell (L + 1) v0)
    (k : ∀ h2 tk al, LawAt prog w base nm L a cd [some (.obj 0), none, none, none, none, none, none, none, none, none] [.lst (ns.map D.int)] [al] v0 h2 → Q .next ⟨h2, gens, dr, tk, os⟩) :
    wpAny (model prog w) A (exec (.Assign [.Name (Str.ofString "script") q1] (.Subscript (.Name (Str.ofString "script") q2) (.Slice none (some (.Constant (.int 63) k0 q3)) none q4) q5) q6) (envL w.params nm L a cd)) Q E ⟨hp, gens, dr, tk, os⟩ := by
  have ok := e_law (w := w) nm L a cd
  have hLc : L + 1 ≠ L := Nat.succ_ne_self L
  have hF : L + 1 ∉ FA [envL w.params nm L a cd] := fun z => hLc (List.mem_singleton.mp z)
  have I0 : Inv prog w base [] [] [] base := ⟨fun _ _ e => e, trivial, rfl, List.nodup_nil, (fun a m => nomatch m), (fun a m => nomatch m), (fun a m => nomatch m), (fun i a c e => nomatch e)⟩
  have R0 : Rel prog w base (envL w.params nm L a cd) [] v_law ⟨List.replicate 10 none, []⟩ [] hp := ⟨I0.push hst hL hns rfl (by rw [ok.kind]; exact ScopeKind.noConfusion), m, hns, fun i x d e1 e2 => by
    rw [List.getElem?_replicate] at e2
    split at e2 <;> cases e2⟩
  refine wpAny_Assign_Name (copy_ok ok hns hm (let ⟨o, ho, r⟩ := hla; ⟨o, hst _ _ ho, r⟩) hi hn fun h1 al us tk1 kp hal e hv => ?_) rfl
  have R1 := R0.new kp hal (c := .lst (ns.map D.int)) ⟨us, 0, e, hv⟩
  have c1 : h1.IsCell (L + 1) v0 := let ⟨o, ho, hd⟩ := hc; ⟨o, kp _ _ ho, hd⟩
  have hcm : L + 1 ∉ [al] := fun z => by
    obtain ⟨o, ho, _⟩ := hc
    rw [List.mem_singleton.mp z, hal] at ho; cases ho
  refine store_ok ok R1 (i := 0) rfl (d := .obj 0) ⟨_, rfl, rfl⟩ fun h2 tk2 R2 tu2 x2 => ?_
  have c2 := aside_keeps (outer := []) hF hLc hcm c1 (Gro.refl _ _) x2
  exact k _ _ _ ⟨R2, c2.1, c2.2⟩
theorem law_s2 (H : TopOk prog w base mg mb) {v0 : Option Value} {μ : List Addr} {r1 r2 r3 r4 : Pos} (hA : AOk A [envL w.params nm L a cd] 560) (hcb : base.get? (L + 1) = none)
    (S : LawAt prog w base nm L a cd [some (.obj 0), none, none, none, none, none, none, none, none, none] [.lst (ns.map D.int)] μ v0 hp)
    (k : ∀ h2 tk μ2 pa, LawAt prog w base nm L a cd [some (.obj 0), none, none, none, none, none, none, none, none, none] [.lst (ns.map D.int), .lst (pieceL.map D.str)] μ2 (some (.ref pa)) h2 → μ2[1]? = some pa → ∀ dr, Q .next ⟨h2, gens, dr, tk, os⟩) :
    wpAny (model prog w) A (exec (.Assign [.Name (Str.ofString "pieces") r1] (.Call (.Name (Str.ofString "_law_pieces") r2) [] [] r3) r4) (envL w.params nm L a cd)) Q E ⟨hp, gens, dr, tk, os⟩ := by
  have ok := e_law (w := w) nm L a cd
  have hLc : L + 1 ≠ L := Nat.succ_ne_self L
  have hF : L + 1 ∉ FA [envL w.params nm L a cd] := fun z => hLc (List.mem_singleton.mp z)
  refine wpAny_Assign_Name (wpAny_mono (sound_call (prog := prog) (w := w) (base := base) (fn := fnA) (C := 33) (env := envL w.params nm L a cd) (names := v_law) (es := []) (ts := .nil) (f := 186) H.B ok (T186 H).2 (by kernel_rfl) (by kernel_rfl) (T186 H).1 rfl rfl sound_nil [] 560 A _ _ _
    (fun d σ' => d = .obj 1 ∧ σ' = ⟨[some (.obj 0), none, none, none, none, none, none, none, none, none], [.lst (ns.map D.int), .lst (pieceL.map D.str)]⟩) (fun _ _ => False) hA S.R ?_) (fun v s3 p3 => ?_) (fun e s' y => ?_)) rfl
  · exact r_call (r_nil (c_pieces (n := 559) (prg_ok H) ⟨rfl, rfl⟩))
  rotate_left
  · obtain ⟨_, _, _, _, _, _, _, hX, _⟩ := y
    exact hX.elim
  obtain ⟨d, σ', μ3, ⟨rfl, rfl⟩, R3, r3, g3, x3⟩ := p3
  have c3 := aside_keeps (outer := []) hF hLc S.m S.c g3 x3
  have sm := x3.same
  obtain ⟨h3, gens3, dr3, tk3, os3⟩ := s3
  cases sm
  obtain ⟨pa, rfl, hpa⟩ := r3
  refine wpAny_storeName_cell (c := L + 1) ok.kind (by kernel_rfl) (by rfl) c3.1 fun h4 hc4 sb4 => ?_
  exact k _ _ _ pa ⟨R3.aside2 ok hcb hF c3.2 c3.1 sb4.2, hc4, c3.2⟩ hpa _
theorem law_s3 {μ : List Addr} {pa : Addr} {k1 k2 k3 : Nat} {t1 t2 p1 p2 p3 p4 p5 p6 p7 p8 p9 p10 p11 p12 p13 p14 : Pos} (hline : (p2.endLine == p14.line) = true) (hA : AOk A [envL w.params nm L a cd] 560) (hn : ns.length ≤ 63)
    (S : LawAt prog w base nm L a cd [some (.obj 0), none, none, none, none, none, none, none, none, none] [.lst (ns.map D.int), .lst (pieceL.map D.str)] μ (some (.ref pa)) hp) (hpa : μ[1]? = some pa)
    (k : ∀ h2 tk μ2 cells l, Rel prog w base (envL w.params nm L a cd) [] v_law ⟨[some (.obj 0), some (.str l), none, none, none, none, none, none, none, none], cells⟩ μ2 h2 → l.length ≤ 42 → cells[0]? = some (.lst (ns.map D.int)) → ∀ dr, Q .next ⟨h2, gens, dr, tk, os⟩) :
    wpAny (model prog w) A (exec (.Assign [.Name (Str.ofString "drawn") t1] (.Call (.Attribute (.Constant (.str (Str.ofString "")) k1 p1) "join" p2) [.ListComp (.Subscript (.Name (Str.ofString "pieces") p3) (.BinOp (.Name (Str.ofString "x") p4) .Mod (.Constant (.int 40) k2 p5) p6) p7) [⟨.Name (Str.ofString "x") p8, .Subscript (.Name (Str.ofString "script") p9) (.Slice none (some (.Constant (.int 14) k3 p10)) none p11) p12, [], 0⟩] sc2 p13] [] p14) t2) (envL w.params nm L a cd)) Q E ⟨hp, gens, dr, tk, os⟩ := by
  have ok := e_law (w := w) nm L a cd
  have hLc : L + 1 ≠ L := Nat.succ_ne_self L
  have hF : L + 1 ∉ FA [envL w.params nm L a cd] := fun z => hLc (List.mem_singleton.mp z)
  refine wpAny_Assign_Name (wpAny_mono (draw_ok (c := L + 1) ok (i0 := 0) rfl (by kernel_rfl) (by rfl) hA S.R (j := 0) (jp := 1) (pa := pa) (ns := ns) rfl rfl hn S.c hF hLc S.m hpa rfl hline (E := E)) (fun v s5 p5 => ?_) (fun _ _ y => y)) rfl
  obtain ⟨d, ⟨loc5, cells5⟩, μ5, ⟨l, rfl, hl, hloc, hpre⟩, R5, r5, g5, x5⟩ := p5
  dsimp only at hloc hpre
  subst hloc
  have sm := x5.same
  obtain ⟨h5, gens5, dr5, tk5, os5⟩ := s5
  cases sm
  refine store_ok ok R5 (i := 1) rfl r5 fun h6 tk6 R6 tu6 x6 => ?_
  refine k _ _ _ _ l R6 hl ?_ _
  obtain ⟨w', rfl⟩ := hpre
  rfl
end
theorem law_run (H : TopOk prog w base mg mb) {nm : Str} {L a la : Addr} {cd : Value} {A : Around} {s : Shared} {vs : Array Value} {ns : List Int} {m : Str → Option Value} {E : Value → Shared → Prop} {Q : Flow → Shared → Prop} {v0 : Option Value}
    (hA : AOk A [envL w.params nm L a cd] 560) (hst : base.StaysIn s.heap) (hL : base.get? L = none) (hns : s.heap.Ns L m) (hm : m (Str.ofString "script") = some (.ref la)) (hla : base.IsList la vs) (hi : IntsAre vs.toList ns) (hn : ns.length ≤ 63)
    (hc : s.heap.IsCell (L + 1) v0) (hcb : base.get? (L + 1) = none)
    (k : ∀ s', base.StaysIn s'.heap → s'.os = s.os → s'.gens = s.gens → Q (.ret (.bool true)) s') :
    wpAny (model prog w) A (execs (bodyOf (fdAt w.params 310)) (envL w.params nm L a cd)) Q E s := by
  obtain ⟨hp, gens, dr, tk, os⟩ := s
  refine wpAny_execs_cons (law_s1 hst hL hns hm hla hi hn hc fun h2 tk2 al S2 => wpAny_execs_cons (law_s2 H hA hcb S2 fun h3 tk3 μ3 pa S3 hpa dr3 => wpAny_execs_cons (law_s3 (by kernel_rfl) hA hn S3 hpa fun h6 tk6 μ6 cells l R6 hl h0 dr6 => ?_)))
  refine wpAny_mono (s_law H nm L a cd [] 560 A _ _ _ (fun fl σ => fl = .ret (.bool true)) (fun _ _ => False) hA R6 (c_law (prg_ok H) h0 hn hl fun _ => rfl)) (fun f s7 p7 => ?_) (fun e s' y => ?_)
  · obtain ⟨fl, σ7, μ7, rfl, R7, r7, g7, x7⟩ := p7
    obtain ⟨v, rfl, rfl⟩ := r7
    have sm7 := x7.same
    exact k s7 R7.inv.stays (congrArg Prod.fst sm7) (congrArg Prod.snd sm7)
  · obtain ⟨_, _, _, _, _, _, _, hX, _⟩ := y
    exact hX.elim
end
end
section
open PySem PySem.Calls PySem.W PyProof.Rows
noncomputable def isRef (a : Addr) (o : Option (Option Value)) : Bool := match o with
  | some (some (.ref b)) => decide (b = a)
  | _ => false
theorem isRef_ok {a : Addr} {o : Option (Option Value)} (h : isRef a o = true) : o = some (some (.ref a)) := by
  unfold isRef at h
  split at h
  · rw [of_decide_eq_true h]
  · cases h
section
variable {w : World} {h : Heap} {mg mb : Str → Option Value} {loose : List Str} {mean : ExcName → Option Value}
theorem tbl_of (K : (kF w.params).In h) (T : Top qv loose mean mg mb h) {l : List (Str × Nat)} (e : l.all (fun p => isRef p.2 (nsIn (kF w.params) mainGlobals p.1) && isFn (kF w.params) p.2) = true) (x : Str) (a : Nat) (m : (x, a) ∈ l) : mg x = some (.ref a) ∧ ∃ o fd, h.get? a = some o ∧ o.data = .func fd :=
  have z := (Bool.and_eq_true _ _).mp (List.all_eq_true.mp e _ m)
  have ⟨o, p, q⟩ := isFn_ok K z.2
  ⟨mg_of K T.g (isRef_ok z.1), o, _, p, q⟩
theorem bl_of (K : (kF w.params).In h) (T : Top qv loose mean mg mb h) {x : Str} {v : Value} (a : nsIn (kF w.params) mainGlobals x = some none) (b : x ≠ "__name__") (c : bootBuiltins x = some v) : mg x = none ∧ mb x = some v :=
  ⟨mg_none_of K T.g a, (T.builtins _ b).trans c⟩
theorem bls_of (K : (kF w.params).In h) (T : Top qv loose mean mg mb h) : ∀ p ∈ bls, mg p.1 = none ∧ mb p.1 = some p.2 := by
  unfold bls
  exact List.forall_mem_cons.mpr ⟨bl_of K T (by kernel_rfl) (by decide) (by kernel_rfl), List.forall_mem_cons.mpr ⟨bl_of K T (by kernel_rfl) (by decide) (by kernel_rfl), List.forall_mem_cons.mpr ⟨bl_of K T (by kernel_rfl) (by decide) (by kernel_rfl), List.forall_mem_cons.mpr ⟨bl_of K T (by kernel_rfl) (by decide) (by kernel_rfl), List.forall_mem_cons.mpr ⟨bl_of K T (by kernel_rfl) (by decide) (by kernel_rfl), List.forall_mem_cons.mpr ⟨bl_of K T (by kernel_rfl) (by decide) (by kernel_rfl), fun _ m => nomatch m⟩⟩⟩⟩⟩⟩
theorem top_of (K : (kF w.params).In h) (T : Top qv loose mean mg mb h) : TopOk PySem.Challenge.rw_np0134_01.row.prog w h mg mb where
  B := ⟨T.nolimit, T.seer (by kernel_rfl), rfl, T.g, T.b⟩
  K := K
  tbl := tbl_of K T (by kernel_rfl)
  bls := fun x v m => bls_of K T (x, v) m
  nE := mg_none_of K T.g (by kernel_rfl)
  bE := (T.builtins _ (by decide)).trans (by kernel_rfl)
  gR := mg_of K T.g (by kernel_rfl)
end
end
section
open PySem PySem.Calls PySem.W PyProof.Rows
theorem holds : PySem.Challenge.rw_np0134_01.Holds := by
  w_on
  refine holds_law said0 fun said => ?_
  refine holds_open (q := qv) (loose := lo) (Xt := fun s => xlAt qv [] s && recOk (RowW.records PySem.Challenge.rw_np0134_01.row.toRowW) s) (XP := XL qv []) (Yf := Hook.obs hk) (Ya := Hook.val hk) (YP := Hook.says hk) (N := 3164) left0 (Hook.of hk) (Hook.keeps hk) (fun s e => xl_of s (Bool.and_eq_true_iff.mp e).1) XL.keeps (by rfl) (by rfl) (by rfl) (fun s e => recFacts_of (Bool.and_eq_true_iff.mp e).2) (by rfl) (by first | assumption | decide +kernel) (by decide +kernel) ⟨rfl, rfl, rfl, rfl, rfl, by decide +kernel⟩ ⟨[.list []], by decide +kernel, by decide +kernel⟩ ?_
  intro w s0 s1 mg mb G Y fa o pm cd doc dV kV ho hd hcd hD hmg hg args vals as hpre hlay hrd hwl hlo
  have KX := kIn_of Y
  refine Ground.open G ?_
  intro T B D TE TW
  try (refine guard_noD D (by decide +kernel) ?_; clear D)
  obtain ⟨_, _, M⟩ := bmod_of_top T
  have TA := at_of_top T
  try (obtain ⟨_, _, he, B0⟩ := based_of_top T rfl hmg ho hd; have he' : cd = _ := he; subst he'; clear he)
  clear hmg
  wrow_args hpre hlay hrd hwl hlo
  all_goals (
    first | refine callC_kw (enter_call ?_) | refine enter_call ?_ | refine callC_kw (enter_callW ?_) | refine enter_callW ?_ | w_how
    w_top on
    try refine codeAny_mono ?_ (fun _ _ g => GoodW.toG g)
    have K0 := below_caller (Top.heap T)
    w_call any ho hd hcd hD T F
    clear hd TA
    k_drop
    skip)
  rename_i wa wb wc wd ns hs hlay0 hL1 hr1 hl2 we wf la vs wg hL ra w1 r0 hI hr hc1 hc2 h1 tk1 oc hoc N0 X0
  have H := top_of KX T
  have hN := N0 _ (List.mem_singleton.mpr rfl)
  refine law_run H (vs := vs.toArray) (ns := ns) (m := _) (v0 := _) ⟨rfl, rfl, Nat.le_of_ble_eq_true rfl, Nat.le_of_ble_eq_true rfl⟩ F.keep (size_none _) F.ns (by kernel_rfl) hL hI (by walk_at "om") ⟨_, hN.1, hoc⟩ hN.2.2 fun s' h2 h3 h4 => ?_
  show GoodW PySem.Challenge.rw_np0134_01.row.claim (classAt s0.heap) (ExcName.means s0.heap) [ofPy (PyData.list (List.map PyData.int ns))] s1 (.ok (.ret (.bool true))) s'
  exact ⟨.inl ⟨_, ofPy (.bool true), [], rfl, fun cls => by first | rfl | kernel_rfl, by constructor, by first | rfl | kernel_rfl, fun _ => ⟨List.nodup_nil, fun a m => by cases m⟩⟩, h2, h3, h4.trans hg⟩
end
end
end Mine
theorem PySem.Challenge.cw_np0134_01_holds : PySem.Challenge.rw_np0134_01.Holds :=
  Mine.holds
