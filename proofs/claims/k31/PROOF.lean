import PyProof.Rows.All
import Wide.All
import OpenK.AllK
import Wide.FinOn
import HandS.ForMost
import HandS.Wide
import HandS.WideMore
import HandS.IsInst
import HandS.TupAny
import HandS.Flow
import HandS.SetFor
import HandS.Strs
import HandS.SortInts
import HandS.Deep
import HandS.Style
import KE.KRevSl
import PySem.Challenge.RW_reckonhall_k31_whole_perfects_friends_an
set_option Elab.async false
set_option linter.all false
set_option maxRecDepth 100000

/-! PLD: the pure side. Data without a heap, states of slots, predicate transformers of the constructs. -/
namespace PL
open PySem

inductive D where
  | non | bl (b : Bool) | int (i : Int) | str (x : Str) | tup (xs : List D) | lst (xs : List D)
  deriving Inhabited

mutual
def D.beq : D → D → Bool
  | .non, .non => true
  | .bl a, .bl b => a == b
  | .int a, .int b => a == b
  | .str a, .str b => decide (a = b)
  | .tup a, .tup b => D.beqL a b
  | .lst a, .lst b => D.beqL a b
  | _, _ => false
def D.beqL : List D → List D → Bool
  | [], [] => true
  | a :: r, b :: s => D.beq a b && D.beqL r s
  | _, _ => false
end
mutual
theorem D.beq_iff : ∀ (a b : D), D.beq a b = true ↔ a = b
  | .non, b => by cases b <;> simp [D.beq]
  | .bl x, b => by cases b <;> simp [D.beq]
  | .int x, b => by cases b <;> simp [D.beq]
  | .str x, b => by cases b <;> simp [D.beq]
  | .tup x, b => by cases b <;> simp [D.beq, D.beqL_iff x]
  | .lst x, b => by cases b <;> simp [D.beq, D.beqL_iff x]
theorem D.beqL_iff : ∀ (a b : List D), D.beqL a b = true ↔ a = b
  | [], [] => by simp [D.beqL]
  | [], _ :: _ => by simp [D.beqL]
  | _ :: _, [] => by simp [D.beqL]
  | a :: r, b :: s => by simp [D.beqL, D.beq_iff a b, D.beqL_iff r s]
end
instance : DecidableEq D := fun a b => if h : D.beq a b = true then isTrue ((D.beq_iff a b).mp h) else isFalse fun e => h ((D.beq_iff a b).mpr e)

/-- a slot: empty, a value, or a list that this def owns at the address a -/
inductive Sl where
  | no | val (d : D) | own (a : Nat) (ds : List D)

abbrev PSt := List Sl
def gt : List Sl → Nat → Sl
  | [], _ => .no
  | s :: _, 0 => s
  | _ :: r, i + 1 => gt r i
def st : List Sl → Nat → Sl → List Sl
  | [], _, _ => []
  | _ :: r, 0, x => x :: r
  | s :: r, i + 1, x => s :: st r i x
@[simp] theorem gt_zero (s : Sl) (r : List Sl) : gt (s :: r) 0 = s := rfl
@[simp] theorem gt_succ (s : Sl) (r : List Sl) (i : Nat) : gt (s :: r) (i + 1) = gt r i := rfl
@[simp] theorem st_zero (s x : Sl) (r : List Sl) : st (s :: r) 0 x = x :: r := rfl
@[simp] theorem st_succ (s x : Sl) (r : List Sl) (i : Nat) : st (s :: r) (i + 1) x = s :: st r i x := rfl
/-- the slots vs emptied -/
def wp : List Sl → List Nat → List Sl
  | δ, [] => δ
  | δ, v :: vs => st (wp δ vs) v .no
def frzS : Sl → Sl
  | .own _ ds => .val (.lst ds)
  | s => s
def frz1 (δ : List Sl) (i : Nat) : List Sl := st δ i (frzS (gt δ i))

abbrev Ex := PSt → (D → Prop) → Prop
abbrev Ts := PSt → (Bool → Prop) → Prop
abbrev Ar := PSt → (List D → Prop) → Prop
abbrev Tg := D → PSt → (PSt → Prop) → Prop
abbrev TgL := List D → PSt → (PSt → Prop) → Prop
structure En where
  nx : PSt → Prop
  rt : D → Prop
  bk : PSt → Prop := fun _ => False
  ct : PSt → Prop := fun _ => False
abbrev Sm := En → PSt → Prop
abbrev Op2 := D → D → (D → Prop) → Prop
abbrev Op1 := D → (D → Prop) → Prop
/-- what a def promises -/
abbrev Pm := List D → (D → Prop) → Prop

abbrev maxLen : Nat := 16777216

/-! what a slot, a datum must be -/
def asVal : Sl → (D → Prop) → Prop
  | .val d, Q => Q d
  | _, _ => False
def asOwn : Sl → (Nat → List D → Prop) → Prop
  | .own a ds, Q => Q a ds
  | _, _ => False
def asB : D → (Bool → Prop) → Prop
  | .bl b, Q => Q b
  | _, _ => False
def asI : D → (Int → Prop) → Prop
  | .int i, Q => Q i
  | _, _ => False
def asSeq : D → (List D → Prop) → Prop
  | .tup xs, Q => Q xs
  | .lst xs, Q => Q xs
  | _, _ => False
def asLst : D → (List D → Prop) → Prop
  | .lst xs, Q => Q xs
  | _, _ => False

/-! ### expressions -/
def eVar (i : Nat) : Ex := fun δ Q => asVal (gt δ i) Q
def eC (d : D) : Ex := fun _ Q => Q d
def e1 (p : Op1) (a : Ex) : Ex := fun δ Q => a δ fun x => p x Q
def e2 (p : Op2) (a b : Ex) : Ex := fun δ Q => a δ fun x => b δ fun y => p x y Q

def oAdd : Op2
  | .int i, .int j, Q => Q (.int (i + j))
  | .tup xs, .tup ys, Q => xs.length + ys.length ≤ 16777216 ∧ Q (.tup (xs ++ ys))
  | .lst xs, .lst ys, Q => xs.length + ys.length ≤ 16777216 ∧ Q (.lst (xs ++ ys))
  | .str x, .str y, Q => x.length + y.length ≤ 16777216 ∧ Q (.str (x ++ y))
  | _, _, _ => False
def oSub : Op2
  | .int i, .int j, Q => Q (.int (i - j))
  | _, _, _ => False
def MulB (i j : Int) : Prop := (-(2 ^ 64) < i ∧ i < 2 ^ 64) ∨ (-(2 ^ 64) < j ∧ j < 2 ^ 64)
def oMul : Op2
  | .int i, .int j, Q => MulB i j ∧ Q (.int (i * j))
  | _, _, _ => False
/-- wide factors -/
def oMulX : Op2
  | .int i, .int j, Q => (∃ a b : Nat, i.natAbs < 2 ^ a ∧ j.natAbs < 2 ^ b ∧ a + b ≤ 1000000) ∧ Q (.int (i * j))
  | _, _, _ => False
/-- (..) * n -/
def oRep : Op2
  | .tup xs, .int n, Q => (xs.length * n.toNat ≤ 1000000) ∧ Q (.tup (List.replicate n.toNat xs).flatten)
  | _, _, _ => False
def oFdiv : Op2
  | .int i, .int j, Q => (0 < j ∧ j < 2 ^ 64) ∧ Q (.int (i / j))
  | _, _, _ => False
def oFdivN : Op2
  | .int i, .int j, Q => (j ≠ 0 ∧ -1073741824 < j ∧ j < 1073741824) ∧ Q (.int (Int.fdiv i j))
  | _, _, _ => False
def oMod : Op2
  | .int i, .int j, Q => 0 < j ∧ Q (.int (i % j))
  | _, _, _ => False
def oModN : Op2
  | .int i, .int j, Q => j ≠ 0 ∧ Q (.int (Int.fmod i j))
  | _, _, _ => False
def oPow : Op2
  | .int i, .int j, Q => (0 ≤ j ∧ j ≤ 1000000 ∧ -(2 ^ 64) < i ∧ i < 2 ^ 64) ∧ Q (.int (i ^ j.toNat))
  | _, _, _ => False
def oNeg : Op1
  | .int i, Q => Q (.int (-i))
  | _, _ => False
/-! comparisons -/
def oLt : Op2
  | .int i, .int j, Q => Q (.bl (decide (i < j)))
  | _, _, _ => False
def oLe : Op2
  | .int i, .int j, Q => Q (.bl (decide (i ≤ j)))
  | _, _, _ => False
def oGt : Op2
  | .int i, .int j, Q => Q (.bl (decide (j < i)))
  | _, _, _ => False
def oGe : Op2
  | .int i, .int j, Q => Q (.bl (decide (j ≤ i)))
  | _, _, _ => False
def strOkD (x : Str) : Bool := x.cps.all fun c => c < 1114112
mutual
/-- x == y in Python -/
def D.eqv : D → D → Bool
  | .bl a, .bl b => a == b
  | .bl a, .int j => (if a then 1 else 0) == j
  | .int i, .bl b => i == (if b then 1 else 0)
  | .int i, .int j => i == j
  | .str x, .str y => x == y
  | .lst xs, .lst ys => D.eqvL xs ys
  | .tup xs, .tup ys => D.eqvL xs ys
  | .non, .non => true
  | .non, .bl _ => false
  | .non, .int _ => false
  | .non, .str _ => false
  | .non, .lst _ => false
  | .non, .tup _ => false
  | .bl _, .non => false
  | .bl _, .str _ => false
  | .bl _, .lst _ => false
  | .bl _, .tup _ => false
  | .int _, .non => false
  | .int _, .str _ => false
  | .int _, .lst _ => false
  | .int _, .tup _ => false
  | .str _, .non => false
  | .str _, .bl _ => false
  | .str _, .int _ => false
  | .str _, .lst _ => false
  | .str _, .tup _ => false
  | .lst _, .non => false
  | .lst _, .bl _ => false
  | .lst _, .int _ => false
  | .lst _, .str _ => false
  | .lst _, .tup _ => false
  | .tup _, .non => false
  | .tup _, .bl _ => false
  | .tup _, .int _ => false
  | .tup _, .str _ => false
  | .tup _, .lst _ => false
def D.eqvL : List D → List D → Bool
  | [], [] => true
  | x :: xs, y :: ys => D.eqv x y && D.eqvL xs ys
  | [], _ :: _ => false
  | _ :: _, [] => false
end
mutual
/-- at most n deep, its texts of true signs -/
def shp : Nat → D → Bool
  | _, .non => true
  | _, .bl _ => true
  | _, .int _ => true
  | _, .str x => strOkD x
  | 0, .tup _ => false
  | 0, .lst _ => false
  | n + 1, .tup xs => shpL n xs
  | n + 1, .lst xs => shpL n xs
def shpL : Nat → List D → Bool
  | _, [] => true
  | n, x :: xs => shp n x && shpL n xs
end
def oEq : Op2 := fun x y Q => (shp 60 x = true ∧ shp 60 y = true) ∧ Q (.bl (D.eqv x y))
def oNe : Op2 := fun x y Q => (shp 60 x = true ∧ shp 60 y = true) ∧ Q (.bl (!D.eqv x y))
def oIsN (a : Ex) : Ex := fun δ Q => a δ fun x => Q (.bl (decide (x = .non)))
def oNotN (a : Ex) : Ex := fun δ Q => a δ fun x => Q (.bl (!decide (x = .non)))

/-- the place that Python's index i names in n items -/
def ixP (n : Nat) (i : Int) : Option Nat := if 0 ≤ i then (if i < n then some i.toNat else none) else if -(n : Int) ≤ i then some (i + n).toNat else none
def atD (xs : List D) (i : Int) (Q : D → Prop) : Prop := ∃ j d, ixP xs.length i = some j ∧ xs[j]? = some d ∧ Q d
def oIx : Op2
  | .tup xs, .int i, Q => atD xs i Q
  | .lst xs, .int i, Q => atD xs i Q
  | .str x, .int i, Q => x.length ≤ 16777216 ∧ ∃ j c, ixP x.cps.toList.length i = some j ∧ x.cps.toList[j]? = some c ∧ Q (.str ⟨#[c]⟩)
  | _, _, _ => False
/-- x[i], x a slot, owned or not -/
def eIxS (s : Nat) (b : Ex) : Ex := fun δ Q => asOwn (gt δ s) fun _ xs => b δ fun y => asI y fun i => atD xs i Q
def eLenS (s : Nat) : Ex := fun δ Q => asOwn (gt δ s) fun _ xs => Q (.int xs.length)

/-! tests -/
def tB (a : Ex) : Ts := fun δ Q => a δ fun x => asB x Q
def truD : D → (Bool → Prop) → Prop
  | .bl b, Q => Q b
  | .int i, Q => Q (i != 0)
  | .non, Q => Q false
  | .tup xs, Q => Q (!xs.isEmpty)
  | .lst xs, Q => Q (!xs.isEmpty)
  | .str x, Q => x.length ≤ 16777216 ∧ Q ((x.length : Int) != 0)
def tTru (a : Ex) : Ts := fun δ Q => a δ fun x => truD x Q
def tAnd (t u : Ts) : Ts := fun δ Q => t δ fun c => if c = true then u δ Q else Q false
def tOr (t u : Ts) : Ts := fun δ Q => t δ fun c => if c = true then Q true else u δ Q
def tNot (t : Ts) : Ts := fun δ Q => t δ fun c => Q (!c)
def eAnd (a b : Ex) : Ex := fun δ Q => a δ fun x => asB x fun c => if c = true then b δ Q else Q (.bl false)
def eOr (a b : Ex) : Ex := fun δ Q => a δ fun x => asB x fun c => if c = true then Q (.bl true) else b δ Q
def eNot (a : Ex) : Ex := fun δ Q => a δ fun x => truD x fun c => Q (.bl (!c))
def eIf (t : Ts) (a b : Ex) : Ex := fun δ Q => t δ fun c => if c = true then a δ Q else b δ Q
def eChn (p q : Op2) (a b c : Ex) : Ex := fun δ Q => a δ fun x => b δ fun y => p x y fun z => asB z fun k => if k = true then c δ fun w => q y w Q else Q (.bl false)

/-! arguments, displays, calls -/
def aNil : Ar := fun _ Q => Q []
def aCons (a : Ex) (r : Ar) : Ar := fun δ Q => a δ fun x => r δ fun xs => Q (x :: xs)
def eTup (a : Ar) : Ex := fun δ Q => a δ fun xs => xs.length ≤ 16777216 ∧ Q (.tup xs)
def eLst (a : Ar) : Ex := fun δ Q => a δ fun xs => xs.length ≤ 16777216 ∧ Q (.lst xs)
def eCall (p : Pm) (a : Ar) : Ex := fun δ Q => a δ fun xs => p xs Q

/-! builtins, as promises -/
def pLen : Pm
  | [.tup xs], Q => Q (.int xs.length)
  | [.lst xs], Q => Q (.int xs.length)
  | [.str x], Q => x.length ≤ 16777216 ∧ Q (.int x.length)
  | _, _ => False
def pAbs : Pm
  | [.int i], Q => Q (.int (if i < 0 then -i else i))
  | _, _ => False
def pInt : Pm
  | [.int i], Q => Q (.int i)
  | [.bl b], Q => Q (.int (if b then 1 else 0))
  | _, _ => False
def pMax2 : Pm
  | [.int i, .int j], Q => Q (.int (if j > i then j else i))
  | _, _ => False
def pMin2 : Pm
  | [.int i, .int j], Q => Q (.int (if j < i then j else i))
  | _, _ => False
def pTuple : Pm
  | [.tup xs], Q => Q (.tup xs)
  | [.lst xs], Q => Q (.tup xs)
  | _, _ => False
def eTupleS (s : Nat) : Ex := fun δ Q => asOwn (gt δ s) fun _ xs => Q (.tup xs)
def pList : Pm
  | [.tup xs], Q => Q (.lst xs)
  | [.lst xs], Q => Q (.lst xs)
  | _, _ => False
def allB : List D → Option Bool
  | [] => some true
  | .bl b :: r => (allB r).map (b && ·)
  | _ => none
def anyB : List D → Option Bool
  | [] => some false
  | .bl b :: r => (anyB r).map (b || ·)
  | _ => none
def pAll : Pm
  | [.lst xs], Q => ∃ b, allB xs = some b ∧ Q (.bl b)
  | [.tup xs], Q => ∃ b, allB xs = some b ∧ Q (.bl b)
  | _, _ => False
def pAny : Pm
  | [.lst xs], Q => ∃ b, anyB xs = some b ∧ Q (.bl b)
  | [.tup xs], Q => ∃ b, anyB xs = some b ∧ Q (.bl b)
  | _, _ => False
def sumD : List D → Option Int
  | [] => some 0
  | .int i :: r => (sumD r).map (i + ·)
  | _ => none
def pSum : Pm
  | [.lst xs], Q => ∃ n, sumD xs = some n ∧ Q (.int n)
  | [.tup xs], Q => ∃ n, sumD xs = some n ∧ Q (.int n)
  | _, _ => False
def pAllL : Pm
  | [.lst xs], Q => ∃ b, allB xs = some b ∧ Q (.bl b)
  | _, _ => False
def pAnyL : Pm
  | [.lst xs], Q => ∃ b, anyB xs = some b ∧ Q (.bl b)
  | _, _ => False
def pSumL : Pm
  | [.lst xs], Q => ∃ n, sumD xs = some n ∧ Q (.int n)
  | _, _ => False
inductive Ty | int | bool | str | tuple | list
  deriving DecidableEq
def isTy : D → Ty → Bool
  | .int _, .int => true
  | .bl _, .int => true
  | .bl _, .bool => true
  | .str _, .str => true
  | .tup _, .tuple => true
  | .lst _, .list => true
  | _, _ => false
def eIsI (t : Ty) (a : Ex) : Ex := fun δ Q => a δ fun x => Q (.bl (isTy x t))

/-! slices -/
def sIx (n d : Nat) : Option Int → Nat
  | none => d
  | some v => if v < 0 then (v + n).toNat else min v.toNat n
def cutD {α : Type} (xs : List α) (lo hi : Option Int) : List α := (xs.drop (sIx xs.length 0 lo)).take (sIx xs.length xs.length hi - sIx xs.length 0 lo)
abbrev Pt := PSt → (Option Int → Prop) → Prop
def oNo : Pt := fun _ Q => Q none
def oSome (a : Ex) : Pt := fun δ Q => a δ fun x => asI x fun i => Q (some i)
def oCut : D → Option Int → Option Int → (D → Prop) → Prop
  | .tup xs, l, h, Q => Q (.tup (cutD xs l h))
  | .lst xs, l, h, Q => Q (.lst (cutD xs l h))
  | _, _, _, _ => False
def eSlice (a : Ex) (lo hi : Pt) : Ex := fun δ Q => a δ fun x => lo δ fun l => hi δ fun h => oCut x l h Q

/-! ### what is walked -/
def iSeq (a : Ex) : Ar := fun δ Q => a δ fun x => asSeq x Q
def rng (lo : Int) (n : Nat) : List D := (List.range n).map fun (k : Nat) => D.int (lo + k)
def iRng1 (a : Ex) : Ar := fun δ Q => a δ fun x => asI x fun n => (-(2 ^ 62) ≤ n ∧ n < 2 ^ 62) ∧ Q (rng 0 n.toNat)
def iRng2 (a b : Ex) : Ar := fun δ Q => a δ fun x => b δ fun y => asI x fun m => asI y fun n => (-(2 ^ 62) ≤ m ∧ m < 2 ^ 62 ∧ -(2 ^ 62) ≤ n ∧ n < 2 ^ 62) ∧ Q (rng m (n - m).toNat)
def enumD (xs : List D) : List D := List.zipWith (fun (k : Nat) d => D.tup [.int k, d]) (List.range xs.length) xs
def zipD (xs ys : List D) : List D := List.zipWith (fun a b => D.tup [a, b]) xs ys
def iEnum (a : Ex) : Ar := fun δ Q => iSeq a δ fun xs => Q (enumD xs)
def iZip (a b : Ex) : Ar := fun δ Q => iSeq a δ fun xs => iSeq b δ fun ys => Q (zipD xs ys)

/-! ### targets -/
inductive Tgt where
  | nm (i : Nat) | tp (ts : List Tgt)
mutual
def tg : Tgt → Tg
  | .nm i, d, δ, Q => Q (st δ i (.val d))
  | .tp ts, .tup xs, δ, Q => tgL ts xs δ Q
  | .tp _, _, _, _ => False
def tgL : List Tgt → TgL
  | [], [], δ, Q => Q δ
  | t :: ts, x :: xs, δ, Q => tg t x δ fun δ' => tgL ts xs δ' Q
  | _, _, _, _ => False
end
mutual
def Tgt.inn (vs : List Nat) : Tgt → Bool
  | .nm i => vs.contains i
  | .tp ts => Tgt.innL vs ts
def Tgt.innL (vs : List Nat) : List Tgt → Bool
  | [] => true
  | t :: ts => t.inn vs && Tgt.innL vs ts
end

/-! ### statements -/
def sNil : Sm := fun E δ => E.nx δ
/-- what follows: a mark at which the walk of the pure side stops -/
def Nxt (f : PSt → Prop) (δ : PSt) : Prop := f δ
theorem nxt {f : PSt → Prop} {δ : PSt} (h : f δ) : Nxt f δ := h
def sSeq (t u : Sm) : Sm := fun E δ => t { nx := Nxt (u E), rt := E.rt, bk := E.bk, ct := E.ct } δ
def sRet (a : Ex) : Sm := fun E δ => a δ E.rt
def sRetN : Sm := fun E _ => E.rt .non
def sBrk : Sm := fun E δ => E.bk δ
def sCnt : Sm := fun E δ => E.ct δ
def sDrop (a : Ex) : Sm := fun E δ => a δ fun _ => E.nx δ
def sIf (t : Ts) (a b : Sm) : Sm := fun E δ => t δ fun c => if c = true then a E δ else b E δ
def sAsg (a : Ex) (g : Tgt) : Sm := fun E δ => a δ fun x => tg g x δ E.nx
def sPar (i j : Nat) (a b : Ex) : Sm := fun E δ => a δ fun x => b δ fun y => E.nx (st (st δ i (.val x)) j (.val y))
def sAug (i : Nat) (p : Op2) (a : Ex) : Sm := fun E δ => asVal (gt δ i) fun x => a δ fun y => p x y fun z => E.nx (st δ i (.val z))
/-- a new list, owned -/
def sOwn (i : Nat) (a : Ex) : Sm := fun E δ => a δ fun x => asLst x fun xs => ∀ p, E.nx (st δ i (.own p xs))
def sFrz (i : Nat) (t : Sm) : Sm := fun E δ => t E (frz1 δ i)
/-- a statement and what follows, by a word J that holds between them (the slots vs forgotten) -/
def sCut (vs : List Nat) (t u : Sm) : Sm := fun E δ => ∃ J : PSt → Prop, t { nx := fun δ' => J (wp δ' vs), rt := E.rt, bk := E.bk, ct := E.ct } δ ∧ ∀ δ', J δ' → u E δ'
/-- slots forgotten ahead of a statement, behind a block -/
def sFgt (vs : List Nat) (t : Sm) : Sm := fun E δ => t E (wp δ vs)
def sEnd (vs : List Nat) (t : Sm) : Sm := fun E δ => t { nx := fun δ' => E.nx (wp δ' vs), rt := E.rt, bk := E.bk, ct := fun δ' => E.ct (wp δ' vs) } δ
def sApp (i : Nat) (a : Ex) : Sm := fun E δ => asOwn (gt δ i) fun p xs => a δ fun x => xs.length < 16777216 ∧ E.nx (st δ i (.own p (xs ++ [x])))
def sSet (i : Nat) (b a : Ex) : Sm := fun E δ => asOwn (gt δ i) fun p xs => a δ fun x => b δ fun y => asI y fun k => ∃ j, ixP xs.length k = some j ∧ E.nx (st δ i (.own p (xs.set j x)))
/-- while: an invariant with its measure -/
def sWhile (t : Ts) (b : Sm) : Sm := fun E δ => ∃ I : Nat → PSt → Prop, (∃ n, I n δ) ∧ ∀ n δ, I n δ →
  t δ fun c => if c = true then b { nx := fun δ' => ∃ n', n' < n ∧ I n' δ', rt := E.rt, bk := E.nx, ct := fun δ' => ∃ n', n' < n ∧ I n' δ' } δ else E.nx δ
def forD (ds : List D) (g : Tgt) (b : Sm) : Sm := fun E δ => ∃ I : Nat → PSt → Prop, I 0 δ ∧
  (∀ (i : Nat) (d : D) δ, ds[i]? = some d → I i δ → tg g d δ fun δ' => b { nx := I (i + 1), rt := E.rt, bk := E.nx, ct := I (i + 1) } δ') ∧ ∀ δ, I ds.length δ → E.nx δ
def sFor (vs : List Nat) (it : Ar) (g : Tgt) (b : Sm) : Sm := fun E δ => it δ fun ds => forD ds g b E (wp δ vs)
/-- [e for g in it if t] -/
def lcD (ds : List D) (g : Tgt) (t : Ts) (e : Ex) (δ : PSt) (Q : List D → Prop) : Prop := ds.length ≤ 16777216 ∧ ∃ I : Nat → List D → Prop, I 0 [] ∧
  (∀ (i : Nat) (d : D) (acc : List D), ds[i]? = some d → I i acc → tg g d δ fun δ' => t δ' fun c => if c = true then e δ' fun y => I (i + 1) (acc ++ [y]) else I (i + 1) acc) ∧ ∀ acc, I ds.length acc → Q acc
def tYes : Ts := fun _ Q => Q true
def eLc (it : Ar) (vs : List Nat) (g : Tgt) (t : Ts) (e : Ex) : Ex := fun δ Q => it δ fun ds => lcD ds g t e (wp δ vs) fun ys => Q (.lst ys)
def oAddI : Op2
  | .int i, .int j, Q => Q (.int (i + j))
  | _, _, _ => False
def startP (n : Nat) (ds : List D) : PSt := ds.map Sl.val ++ List.replicate (n - ds.length) .no
def endsOf (Q : D → Prop) : En := ⟨fun _ => Q .non, Q, fun _ => False, fun _ => False⟩
/-- the law's own promise -/
def pLaw : Pm := fun ds Q => ∃ ns : List Int, ds = [.lst (ns.map .int)] ∧ ns.length ≤ 63 ∧ Q (.bl true)
end PL

set_option Elab.async false
set_option linter.all false
set_option maxRecDepth 100000
/-! PLS: the pure side is sound: each transformer of PLD lies above HandS's reading. -/
namespace PL
open PySem PySem.Spec PyProof.Rows L2

/-! ### data in the heap -/
mutual
def Rp (K : PySem.W.Frag) (H : Hp) : D → V → Prop
  | .non, v => v = .non
  | .bl b, v => v = .bl b
  | .int i, v => v = .int i
  | .str x, v => v = .str x
  | .tup ds, v => ∃ a xs, v = .ref a ∧ SqT K H a xs ∧ RpL K H ds xs
  | .lst ds, v => ∃ a xs, v = .ref a ∧ SqL K H a xs ∧ RpL K H ds xs
def RpL (K : PySem.W.Frag) (H : Hp) : List D → List V → Prop
  | [], vs => vs = []
  | d :: ds, vs => ∃ v r, vs = v :: r ∧ Rp K H d v ∧ RpL K H ds r
end
theorem sameT {K : PySem.W.Frag} {H H' : Hp} {a : Addr} {xs : List V} (e : Same H H') (h : SqT K H a xs) : SqT K H' a xs := by
  rcases h with (h | ⟨o, h⟩) | h
  · exact .inl (.inl (e _ _ h))
  · exact .inl (.inr ⟨o, e _ _ h⟩)
  · exact .inr h
mutual
theorem Rp.mono {K : PySem.W.Frag} {H H' : Hp} (e : Same H H') : ∀ {d : D} {v : V}, Rp K H d v → Rp K H' d v
  | .non, _, h => by simp only [Rp] at h ⊢; exact h
  | .bl _, _, h => by simp only [Rp] at h ⊢; exact h
  | .int _, _, h => by simp only [Rp] at h ⊢; exact h
  | .str _, _, h => by simp only [Rp] at h ⊢; exact h
  | .tup _, _, h => by
    simp only [Rp] at h ⊢
    obtain ⟨a, xs, h1, h2, h3⟩ := h
    exact ⟨a, xs, h1, sameT e h2, RpL.mono e h3⟩
  | .lst _, _, h => by
    simp only [Rp] at h ⊢
    obtain ⟨a, xs, h1, h2, h3⟩ := h
    exact ⟨a, xs, h1, e.seq h2, RpL.mono e h3⟩
theorem RpL.mono {K : PySem.W.Frag} {H H' : Hp} (e : Same H H') : ∀ {ds : List D} {vs : List V}, RpL K H ds vs → RpL K H' ds vs
  | [], _, h => by simp only [RpL] at h ⊢; exact h
  | d :: ds, _, h => by
    simp only [RpL] at h ⊢
    obtain ⟨v, r, h1, h2, h3⟩ := h
    exact ⟨v, r, h1, Rp.mono e h2, RpL.mono e h3⟩
end
section
variable {K : PySem.W.Frag} {H : Hp}
theorem RpL.nil : RpL K H [] [] := by simp [RpL]
theorem RpL.cons {d : D} {v : V} {ds : List D} {vs : List V} (h : Rp K H d v) (t : RpL K H ds vs) : RpL K H (d :: ds) (v :: vs) := by
  simp only [RpL]; exact ⟨v, vs, rfl, h, t⟩
theorem RpL.inv {d : D} {ds : List D} {vs : List V} (h : RpL K H (d :: ds) vs) : ∃ v r, vs = v :: r ∧ Rp K H d v ∧ RpL K H ds r := by
  simpa only [RpL] using h
theorem RpL.len : ∀ {ds : List D} {vs : List V}, RpL K H ds vs → vs.length = ds.length
  | [], _, h => by simp only [RpL] at h; rw [h]; rfl
  | d :: ds, _, h => by
    obtain ⟨v, r, rfl, _, h3⟩ := h.inv
    simp [h3.len]
theorem RpL.get : ∀ {ds : List D} {vs : List V} {i : Nat} {d : D}, RpL K H ds vs → ds[i]? = some d → ∃ v, vs[i]? = some v ∧ Rp K H d v
  | [], _, _, _, _, e => by simp at e
  | d :: ds, _, 0, x, h, e => by
    obtain ⟨v, r, rfl, h2, h3⟩ := h.inv
    simp at e; subst e
    exact ⟨v, rfl, h2⟩
  | d :: ds, _, i + 1, x, h, e => by
    obtain ⟨v, r, rfl, h2, h3⟩ := h.inv
    exact h3.get (i := i) (by simpa using e)
theorem RpL.app : ∀ {ds es : List D} {vs us : List V}, RpL K H ds vs → RpL K H es us → RpL K H (ds ++ es) (vs ++ us)
  | [], _, _, _, h, g => by simp only [RpL] at h; subst h; exact g
  | d :: ds, _, _, _, h, g => by
    obtain ⟨v, r, rfl, h2, h3⟩ := h.inv
    exact .cons h2 (h3.app g)
theorem RpL.set : ∀ {ds : List D} {vs : List V} {d : D} {v : V} (i : Nat), RpL K H ds vs → Rp K H d v → RpL K H (ds.set i d) (vs.set i v)
  | [], _, _, _, _, h, _ => by simp only [RpL] at h; subst h; exact .nil
  | _ :: _, _, _, _, 0, h, g => by
    obtain ⟨v, r, rfl, h2, h3⟩ := h.inv
    exact .cons g h3
  | _ :: _, _, _, _, i + 1, h, g => by
    obtain ⟨v, r, rfl, h2, h3⟩ := h.inv
    exact .cons h2 (h3.set i g)
theorem RpL.drop : ∀ {ds : List D} {vs : List V} (i : Nat), RpL K H ds vs → RpL K H (ds.drop i) (vs.drop i)
  | _, _, 0, h => h
  | [], _, i + 1, h => by simp only [RpL] at h; subst h; exact .nil
  | _ :: _, _, i + 1, h => by
    obtain ⟨v, r, rfl, h2, h3⟩ := h.inv
    exact h3.drop i
theorem RpL.take : ∀ {ds : List D} {vs : List V} (i : Nat), RpL K H ds vs → RpL K H (ds.take i) (vs.take i)
  | _, _, 0, _ => .nil
  | [], _, i + 1, h => by simp only [RpL] at h; subst h; exact .nil
  | _ :: _, _, i + 1, h => by
    obtain ⟨v, r, rfl, h2, h3⟩ := h.inv
    exact .cons h2 (h3.take i)
theorem RpL.rep {ds : List D} {vs : List V} (h : RpL K H ds vs) : ∀ k : Nat, RpL K H (List.replicate k ds).flatten (List.replicate k vs).flatten
  | 0 => .nil
  | k + 1 => by
    rw [List.replicate_succ, List.replicate_succ, List.flatten_cons, List.flatten_cons]
    exact h.app (h.rep k)
theorem Rp.tup {a : Addr} {ds : List D} {xs : List V} (h : SqT K H a xs) (g : RpL K H ds xs) : Rp K H (.tup ds) (.ref a) := by
  simp only [Rp]; exact ⟨a, xs, rfl, h, g⟩
theorem Rp.lst {a : Addr} {ds : List D} {xs : List V} (h : SqL K H a xs) (g : RpL K H ds xs) : Rp K H (.lst ds) (.ref a) := by
  simp only [Rp]; exact ⟨a, xs, rfl, h, g⟩
theorem Rp.tupI {ds : List D} {v : V} (h : Rp K H (.tup ds) v) : ∃ a xs, v = .ref a ∧ SqT K H a xs ∧ RpL K H ds xs := by simpa only [Rp] using h
theorem Rp.lstI {ds : List D} {v : V} (h : Rp K H (.lst ds) v) : ∃ a xs, v = .ref a ∧ SqL K H a xs ∧ RpL K H ds xs := by simpa only [Rp] using h
theorem Rp.intI {i : Int} {v : V} (h : Rp K H (.int i) v) : v = .int i := by simpa only [Rp] using h
theorem Rp.blI {b : Bool} {v : V} (h : Rp K H (.bl b) v) : v = .bl b := by simpa only [Rp] using h
theorem Rp.strI {x : Str} {v : V} (h : Rp K H (.str x) v) : v = .str x := by simpa only [Rp] using h
theorem Rp.nonI {v : V} (h : Rp K H .non v) : v = .non := by simpa only [Rp] using h
theorem Rp.int (i : Int) : Rp K H (.int i) (.int i) := by simp only [Rp]
theorem Rp.bl (b : Bool) : Rp K H (.bl b) (.bl b) := by simp only [Rp]
theorem Rp.str (x : Str) : Rp K H (.str x) (.str x) := by simp only [Rp]
theorem Rp.non : Rp K H .non .non := by simp only [Rp]
theorem RpL.ints : ∀ (ns : List Int), RpL K H (ns.map .int) (ns.map .int)
  | [] => .nil
  | n :: ns => .cons (.int n) (RpL.ints ns)
end

/-! ### the frozen part F of the heap H grows -/
structure Ext (F H F' H' : Hp) : Prop where
  f : Same F F'
  h : Same H H'
  s : Same F' H'
  n : ∀ a, H a ≠ none → F a = none → F' a = none
theorem Ext.refl {F H : Hp} (s : Same F H) : Ext F H F H := ⟨.refl _, .refl _, s, fun _ _ h => h⟩
theorem Ext.trans {F H F1 H1 F2 H2 : Hp} (a : Ext F H F1 H1) (b : Ext F1 H1 F2 H2) : Ext F H F2 H2 :=
  ⟨a.f.trans b.f, a.h.trans b.h, b.s, fun p h1 h2 => b.n p (fun q => by
    cases e : H p with
    | none => exact h1 e
    | some o => rw [a.h p o e] at q; cases q) (a.n p h1 h2)⟩
theorem upd_same_of {H : Hp} {p : Addr} {o : HO} (h : H p = none) : Same H (upd H p o) := fun b x e => by
  rw [upd_ne (ne_of_none e h)]; exact e
/-- a new object, frozen at once -/
theorem Ext.new {F H : Hp} (s : Same F H) {p : Addr} {o : HO} (h : H p = none) : Ext F H (upd F p o) (upd H p o) := by
  have hF : F p = none := by
    cases e : F p with
    | none => rfl
    | some x => rw [s p x e] at h; cases h
  refine ⟨upd_same_of hF, upd_same_of h, fun b x e => ?_, fun a h1 h2 => ?_⟩
  · by_cases hb : b = p
    · subst hb; rw [upd_same] at e ⊢; exact e
    · rw [upd_ne hb] at e ⊢; exact s b x e
  · have : a ≠ p := fun z => h1 (z ▸ h)
    rw [upd_ne this]; exact h2
/-- the heap alone grows -/
theorem Ext.grow {F H H' : Hp} (s : Same F H) (h : Same H H') : Ext F H F H' := ⟨.refl _, h, s.trans h, fun _ _ q => q⟩

/-! ### states -/
structure SR (K : PySem.W.Frag) (F0 B F H : Hp) (σ : L2.St) (δ : PSt) : Prop where
  ext : Ext F0 B F H
  len : σ.length = δ.length
  val : ∀ i d, gt δ i = .val d → ∃ v, σ[i]? = some (some v) ∧ Rp K F d v
  own : ∀ i a ds, gt δ i = .own a ds → σ[i]? = some (some (.ref a)) ∧ B a = none ∧ F a = none ∧ ∃ xs, H a = some (.lst xs) ∧ RpL K F ds xs
  nd : ∀ i j a ds es, gt δ i = .own a ds → gt δ j = .own a es → i = j

theorem gt_out : ∀ {δ : PSt} {i : Nat}, δ.length ≤ i → gt δ i = .no
  | [], _, _ => rfl
  | _ :: r, i + 1, h => gt_out (δ := r) (by simpa using h)
theorem gt_in {δ : PSt} {i : Nat} (h : gt δ i ≠ .no) : i < δ.length := by
  by_cases q : i < δ.length
  · exact q
  · exact absurd (gt_out (by omega)) h
theorem st_len : ∀ (δ : PSt) (i : Nat) (x : Sl), (st δ i x).length = δ.length
  | [], _, _ => rfl
  | _ :: _, 0, _ => rfl
  | _ :: r, i + 1, x => by simp [st_len r i x]
theorem gt_st_same : ∀ {δ : PSt} {i : Nat} {x : Sl}, i < δ.length → gt (st δ i x) i = x
  | [], _, _, h => by simp at h
  | _ :: _, 0, _, _ => rfl
  | _ :: r, i + 1, x, h => gt_st_same (δ := r) (i := i) (by simpa using h)
theorem gt_st_ne : ∀ {δ : PSt} {i j : Nat} {x : Sl}, j ≠ i → gt (st δ i x) j = gt δ j
  | [], _, _, _, _ => rfl
  | _ :: _, 0, 0, _, h => absurd rfl h
  | _ :: _, 0, j + 1, _, _ => rfl
  | _ :: _, i + 1, 0, _, _ => rfl
  | _ :: r, i + 1, j + 1, x, h => gt_st_ne (δ := r) (i := i) (j := j) (by omega)
theorem st_gt : ∀ {δ : PSt} {i : Nat}, st δ i (gt δ i) = δ
  | [], _ => rfl
  | _ :: _, 0 => rfl
  | s :: r, i + 1 => by
    show s :: st r i (gt r i) = s :: r
    rw [st_gt (δ := r)]
theorem gt_st {δ : PSt} {i j : Nat} {x : Sl} : gt (st δ i x) j = gt δ j ∨ (j = i ∧ gt (st δ i x) j = x) := by
  by_cases h : j = i
  · subst h
    by_cases q : j < δ.length
    · exact .inr ⟨rfl, gt_st_same q⟩
    · left; rw [gt_out (by rw [st_len]; omega), gt_out (by omega)]
  · exact .inl (gt_st_ne h)

section
variable {K : PySem.W.Frag} {F0 B F H F' H' : Hp} {σ : L2.St} {δ : PSt}
theorem SR.mono (S : SR K F0 B F H σ δ) (e : Ext F H F' H') : SR K F0 B F' H' σ δ :=
  ⟨S.ext.trans e, S.len, fun i d h => let ⟨v, a, b⟩ := S.val i d h; ⟨v, a, b.mono e.f⟩, fun i a ds h => by
    obtain ⟨h1, h2, h3, xs, h4, h5⟩ := S.own i a ds h
    exact ⟨h1, h2, e.n a (by rw [h4]; simp) h3, xs, e.h _ _ h4, h5.mono e.f⟩, S.nd⟩
theorem SR.setVal (S : SR K F0 B F H σ δ) {i : Nat} {d : D} {v : V} (r : Rp K F d v) : SR K F0 B F H (σ.set i (some v)) (st δ i (.val d)) := by
  refine ⟨S.ext, by rw [List.length_set, st_len]; exact S.len, fun j e h => ?_, fun j a ds h => ?_, fun j k a ds es h1 h2 => ?_⟩
  · by_cases hj : j = i
    · subst hj
      have hl : j < δ.length := by have := gt_in (δ := st δ j (.val d)) (i := j) (by rw [h]; simp); rwa [st_len] at this
      rw [gt_st_same hl] at h
      cases h
      exact ⟨v, by rw [List.getElem?_set_self (by rw [S.len]; exact hl)], r⟩
    · rw [gt_st_ne hj] at h
      obtain ⟨w, h1, h2⟩ := S.val j e h
      exact ⟨w, by rw [List.getElem?_set_ne (Ne.symm hj)]; exact h1, h2⟩
  · by_cases hj : j = i
    · subst hj
      have hl : j < δ.length := by have := gt_in (δ := st δ j (.val d)) (i := j) (by rw [h]; simp); rwa [st_len] at this
      rw [gt_st_same hl] at h
      cases h
    · rw [gt_st_ne hj] at h
      obtain ⟨h1, h2⟩ := S.own j a ds h
      exact ⟨by rw [List.getElem?_set_ne (Ne.symm hj)]; exact h1, h2⟩
  · have key : ∀ {m es}, gt (st δ i (.val d)) m = .own a es → gt δ m = .own a es := fun {m es} h => by
      rcases gt_st (δ := δ) (i := i) (j := m) (x := .val d) with q | ⟨_, q⟩
      · rw [← q]; exact h
      · rw [q] at h; cases h
    exact S.nd j k a ds es (key h1) (key h2)
theorem SR.setNo (S : SR K F0 B F H σ δ) {i : Nat} {o : Option V} : SR K F0 B F H (σ.set i o) (st δ i .no) := by
  refine ⟨S.ext, by rw [List.length_set, st_len]; exact S.len, fun j e h => ?_, fun j a ds h => ?_, fun j k a ds es h1 h2 => ?_⟩
  · rcases gt_st (δ := δ) (i := i) (j := j) (x := .no) with q | ⟨_, q⟩
    · by_cases hj : j = i
      · subst hj
        by_cases hl : j < δ.length
        · rw [gt_st_same hl] at h; cases h
        · rw [gt_out (by rw [st_len]; omega)] at h; cases h
      · rw [q] at h
        obtain ⟨w, h1, h2⟩ := S.val j e h
        exact ⟨w, by rw [List.getElem?_set_ne (Ne.symm hj)]; exact h1, h2⟩
    · rw [q] at h; cases h
  · by_cases hj : j = i
    · subst hj
      by_cases hl : j < δ.length
      · rw [gt_st_same hl] at h; cases h
      · rw [gt_out (by rw [st_len]; omega)] at h; cases h
    · rw [gt_st_ne hj] at h
      obtain ⟨h1, h2⟩ := S.own j a ds h
      exact ⟨by rw [List.getElem?_set_ne (Ne.symm hj)]; exact h1, h2⟩
  · have key : ∀ {m es}, gt (st δ i .no) m = .own a es → gt δ m = .own a es := fun {m es} h => by
      rcases gt_st (δ := δ) (i := i) (j := m) (x := .no) with q | ⟨_, q⟩
      · rw [← q]; exact h
      · rw [q] at h; cases h
    exact S.nd j k a ds es (key h1) (key h2)
/-- a list at a (new, or the one that slot i owns already) is owned by slot i -/
theorem SR.setOwn (S : SR K F0 B F H σ δ) {i : Nat} {a : Addr} {ds : List D} {xs : List V} (hB : B a = none) (hF : F a = none) (hh : ∀ j es, j ≠ i → gt δ j ≠ .own a es) (r : RpL K F ds xs)
    (e : H' = upd H a (.lst xs)) : SR K F0 B F H' (σ.set i (some (.ref a))) (st δ i (.own a ds)) := by
  subst e
  have sB : Same B (upd H a (.lst xs)) := fun b o q => by
    rw [upd_ne (ne_of_none q hB)]; exact S.ext.h b o q
  have sF : Same F (upd H a (.lst xs)) := fun b o q => by
    rw [upd_ne (ne_of_none q hF)]; exact S.ext.s b o q
  refine ⟨⟨S.ext.f, sB, sF, S.ext.n⟩, by rw [List.length_set, st_len]; exact S.len, fun j d h => ?_, fun j b es h => ?_, fun j k b es fs h1 h2 => ?_⟩
  · by_cases hj : j = i
    · subst hj
      have hl : j < δ.length := by have := gt_in (δ := st δ j (.own a ds)) (i := j) (by rw [h]; simp); rwa [st_len] at this
      rw [gt_st_same hl] at h; cases h
    · rw [gt_st_ne hj] at h
      obtain ⟨w, h1, h2⟩ := S.val j d h
      exact ⟨w, by rw [List.getElem?_set_ne (Ne.symm hj)]; exact h1, h2⟩
  · by_cases hj : j = i
    · subst hj
      have hl : j < δ.length := by have := gt_in (δ := st δ j (.own a ds)) (i := j) (by rw [h]; simp); rwa [st_len] at this
      rw [gt_st_same hl] at h; cases h
      exact ⟨by rw [List.getElem?_set_self (by rw [S.len]; exact hl)], hB, hF, xs, upd_same, r⟩
    · rw [gt_st_ne hj] at h
      obtain ⟨h1, h2, h3, ys, h4, h5⟩ := S.own j b es h
      have hb : b ≠ a := fun z => hh j es hj (z ▸ h)
      exact ⟨by rw [List.getElem?_set_ne (Ne.symm hj)]; exact h1, h2, h3, ys, by rw [upd_ne hb]; exact h4, h5⟩
  · by_cases hj : j = i <;> by_cases hk : k = i
    · rw [hj, hk]
    · subst hj
      have hl : j < δ.length := by have := gt_in (δ := st δ j (.own a ds)) (i := j) (by rw [h1]; simp); rwa [st_len] at this
      rw [gt_st_same hl] at h1; cases h1
      rw [gt_st_ne hk] at h2
      exact absurd h2 (hh k fs hk)
    · subst hk
      have hl : k < δ.length := by have := gt_in (δ := st δ k (.own a ds)) (i := k) (by rw [h2]; simp); rwa [st_len] at this
      rw [gt_st_same hl] at h2; cases h2
      rw [gt_st_ne hj] at h1
      exact absurd h1 (hh j es hj)
    · rw [gt_st_ne hj] at h1
      rw [gt_st_ne hk] at h2
      exact S.nd j k b es fs h1 h2
theorem SR.free {a : Addr} (S : SR K F0 B F H σ δ) (h : H a = none) : B a = none ∧ F a = none ∧ ∀ j es, gt δ j ≠ .own a es :=
  ⟨S.ext.h.free h, S.ext.s.free h, fun j es q => by
    obtain ⟨_, _, _, xs, h4, _⟩ := S.own j a es q
    rw [h] at h4; cases h4⟩
/-- a slot's list is given up: it never changes from now on -/
theorem SR.frz (S : SR K F0 B F H σ δ) (i : Nat) : ∃ F', Ext F0 B F' H ∧ Same F F' ∧ SR K F0 B F' H σ (frz1 δ i) := by
  unfold frz1
  by_cases hs : ∃ a ds, gt δ i = .own a ds
  · obtain ⟨a, ds, h⟩ := hs
    rw [show frzS (gt δ i) = .val (.lst ds) by rw [h]; rfl]
    obtain ⟨h1, h2, h3, xs, h4, h5⟩ := S.own i a ds h
    have sF : Same F (upd F a (.lst xs)) := upd_same_of h3
    have X : Ext F0 B (upd F a (.lst xs)) H := by
      refine ⟨S.ext.f.trans sF, S.ext.h, fun b o q => ?_, fun b q1 q2 => ?_⟩
      · by_cases hb : b = a
        · subst hb; rw [upd_same] at q; cases q; exact h4
        · rw [upd_ne hb] at q; exact S.ext.s b o q
      · have : b ≠ a := fun z => q1 (z ▸ h2)
        rw [upd_ne this]; exact S.ext.n b q1 q2
    refine ⟨_, X, sF, X, by rw [st_len]; exact S.len, fun j d q => ?_, fun j b es q => ?_, fun j k b es fs q1 q2 => ?_⟩
    · by_cases hj : j = i
      · subst hj
        have hl : j < δ.length := gt_in (by rw [h]; simp)
        rw [gt_st_same hl] at q; cases q
        exact ⟨_, h1, .lst (.of upd_same) (h5.mono sF)⟩
      · rw [gt_st_ne hj] at q
        obtain ⟨w, r1, r2⟩ := S.val j d q
        exact ⟨w, r1, r2.mono sF⟩
    · by_cases hj : j = i
      · subst hj
        have hl : j < δ.length := gt_in (by rw [h]; simp)
        rw [gt_st_same hl] at q; cases q
      · rw [gt_st_ne hj] at q
        obtain ⟨r1, r2, r3, ys, r4, r5⟩ := S.own j b es q
        have hb : b ≠ a := fun z => hj (S.nd j i a es ds (z ▸ q) h)
        exact ⟨r1, r2, by rw [upd_ne hb]; exact r3, ys, r4, r5.mono sF⟩
    · have key : ∀ {m es}, gt (st δ i (.val (.lst ds))) m = .own b es → gt δ m = .own b es := fun {m es} h => by
        rcases gt_st (δ := δ) (i := i) (j := m) (x := .val (.lst ds)) with q | ⟨_, q⟩
        · rw [← q]; exact h
        · rw [q] at h; cases h
      exact S.nd j k b es fs (key q1) (key q2)
  · have e : frzS (gt δ i) = gt δ i := by
      cases q : gt δ i with
      | own a ds => exact absurd ⟨a, ds, q⟩ hs
      | _ => rfl
    rw [e, st_gt]
    exact ⟨F, S.ext, .refl _, S⟩
end
end PL

set_option Elab.async false
set_option linter.all false
set_option maxRecDepth 100000
namespace PL
open PySem PySem.Spec PyProof.Rows L2

/-! ### the pure transformers as readings -/
def lft (K : PySem.W.Frag) (t : Ex) : TE := fun σ H Q => ∃ F0 B F δ Qd, SR K F0 B F H σ δ ∧ t δ Qd ∧ ∀ v F' H' d, Ext F H F' H' → Rp K F' d v → Qd d → Q v H'
def lftT (K : PySem.W.Frag) (t : Ts) : TT := fun σ H Q => ∃ F0 B F δ Qd, SR K F0 B F H σ δ ∧ t δ Qd ∧ ∀ b F' H', Ext F H F' H' → Qd b → Q b H'
def lftA (K : PySem.W.Frag) (t : Ar) : TA := fun σ H Q => ∃ F0 B F δ Qd, SR K F0 B F H σ δ ∧ t δ Qd ∧ ∀ vs F' H' ds, Ext F H F' H' → RpL K F' ds vs → Qd ds → Q vs H'
theorem imp_PE {X : Cx} {e : Expr} {t t' : TE} (h : PE X e t) (i : ∀ σ H Q, t' σ H Q → t σ H Q) : PE X e t' := ⟨fun pins s σ H Q I hq => h.run pins s σ H Q I (i _ _ _ hq)⟩
theorem imp_PT {X : Cx} {e : Expr} {t t' : TT} (h : PT X e t) (i : ∀ σ H Q, t' σ H Q → t σ H Q) : PT X e t' := ⟨fun pins s σ H Q I hq => h.run pins s σ H Q I (i _ _ _ hq)⟩
theorem imp_PW {X : Cx} {e : Expr} {t t' : TT} (h : PW X e t) (i : ∀ σ H Q, t' σ H Q → t σ H Q) : PW X e t' := ⟨fun wh pins s σ H Q I hq => h.run wh pins s σ H Q I (i _ _ _ hq)⟩
theorem imp_PA {X : Cx} {e : List Expr} {t t' : TA} (h : PA X e t) (i : ∀ σ H Q, t' σ H Q → t σ H Q) : PA X e t' := ⟨fun pos pins s σ H Q I hq => h.run pos pins s σ H Q I (i _ _ _ hq)⟩
theorem imp_PS {X : Cx} {e : Stmt} {t t' : TS} (h : PS X e t) (i : ∀ D σ H, t' D σ H → t D σ H) : PS X e t' := ⟨fun pins s σ H Q I hq => h.run pins s σ H Q I (i _ _ _ hq)⟩
theorem imp_PSs {X : Cx} {e : List Stmt} {t t' : TS} (h : PSs X e t) (i : ∀ D σ H, t' D σ H → t D σ H) : PSs X e t' := ⟨fun pins s σ H Q I hq => h.run pins s σ H Q I (i _ _ _ hq)⟩

abbrev QE (X : Cx) (e : Expr) (t : Ex) : Prop := PE X e (lft X.K t)
abbrev QT (X : Cx) (e : Expr) (t : Ts) : Prop := PT X e (lftT X.K t)
abbrev QW (X : Cx) (e : Expr) (t : Ts) : Prop := PW X e (lftT X.K t)
abbrev QA (X : Cx) (es : List Expr) (t : Ar) : Prop := PA X es (lftA X.K t)

/-! by values -/
def V2 (K : PySem.W.Frag) (r : R2) (p : Op2) : Prop := ∀ F H x y v u Qd Q, Same F H → Rp K F x v → Rp K F y u → p x y Qd → (∀ w F' H' d, Ext F H F' H' → Rp K F' d w → Qd d → Q w H') → r v u H Q
def V1 (K : PySem.W.Frag) (r : V → Hp → VK → Prop) (p : Op1) : Prop := ∀ F H x v Qd Q, Same F H → Rp K F x v → p x Qd → (∀ w F' H' d, Ext F H F' H' → Rp K F' d w → Qd d → Q w H') → r v H Q
def VC (K : PySem.W.Frag) (r : List V → Hp → VK → Prop) (p : Pm) : Prop := ∀ F H ds vs Qd Q, Same F H → RpL K F ds vs → p ds Qd → (∀ w F' H' d, Ext F H F' H' → Rp K F' d w → Qd d → Q w H') → r vs H Q

section
variable {K : PySem.W.Frag} {ta tb : Ex}
theorem lft2 {r : R2} {p : Op2} (hp : V2 K r p) {σ : L2.St} {H : Hp} {Q : VK} (h : lft K (e2 p ta tb) σ H Q) : tOp r (lft K ta) (lft K tb) σ H Q := by
  obtain ⟨F0, B, F, δ, Qd, S, h, k⟩ := h
  exact ⟨F0, B, F, δ, _, S, h, fun v F1 H1 x x1 r1 q1 => ⟨F0, B, F1, δ, _, S.mono x1, q1, fun u F2 H2 y x2 r2 q2 =>
    hp F2 H2 x y v u Qd Q x2.s (r1.mono x2.f) r2 q2 fun w F' H' d x3 r3 q3 => k w F' H' d ((x1.trans x2).trans x3) r3 q3⟩⟩
end

section
variable {X : Cx} {a b c e : Expr} {es rest : List Expr} {ta tb tc : Ex} {sa sb : Ts} {pos : Pos}
theorem q_var (i : Nat) {x : Str} {pos : Pos} (hN : X.N[i]? = some x := by rfl) (hv : Vis X.env.scope x := by first | exact Or.inl rfl | exact Or.inr (Or.inl rfl) | exact Or.inr (Or.inr rfl)) (hd : (x == ("__debug__" : Str)) = false := by decide)
    (hcd : (x == ("__classdict__" : Str)) = false := by decide) : QE X (.Name x pos) (eVar i) := by
  refine imp_PE (pv i hN hv hd hcd) fun σ H Q h => ?_
  obtain ⟨F0, B, F, δ, Qd, S, h, k⟩ := h
  unfold eVar asVal at h
  split at h
  · rename_i d e
    obtain ⟨v, h1, h2⟩ := S.val i d e
    exact ⟨v, h1, k v F H d (.refl S.ext.s) h2 h⟩
  · exact h.elim
theorem lftC {K : PySem.W.Frag} {d : D} {v : V} (r : ∀ F, Rp K F d v) {σ : L2.St} {H : Hp} {Q : VK} (h : lft K (eC d) σ H Q) : tC v σ H Q := by
  obtain ⟨F0, B, F, δ, Qd, S, h, k⟩ := h
  exact k v F H d (.refl S.ext.s) (r F) h
theorem q_int {i j pos} : QE X (.Constant (.int i) j pos) (eC (.int i)) := imp_PE pe_int fun _ _ _ => lftC fun _ => .int i
theorem q_bl {i j pos} : QE X (.Constant (.bool i) j pos) (eC (.bl i)) := imp_PE pe_bl fun _ _ _ => lftC fun _ => .bl i
theorem q_non {j pos} : QE X (.Constant .none j pos) (eC .non) := imp_PE pe_non fun _ _ _ => lftC fun _ => .non
theorem q_str {x j pos} : QE X (.Constant (.str x) j pos) (eC (.str x)) := imp_PE pe_str fun _ _ _ => lftC fun _ => .str x

theorem q_op {op : Operator} {r : R2} {p : Op2} (ho : OpR X (binaryOp op) r ∧ V2 X.K r p) (ha : QE X a ta) (hb : QE X b tb) : QE X (.BinOp a op b pos) (e2 p ta tb) :=
  imp_PE (pe_op ho.1 ha hb) fun _ _ _ h => lft2 ho.2 h
theorem q_un {op : UnaryOp} {r : V → Hp → VK → Prop} {p : Op1} (ho : UnR X (unaryOp op) r ∧ V1 X.K r p) (ha : QE X a ta) : QE X (.UnaryOp op a pos) (e1 p ta) :=
  imp_PE (pe_un ho.1 ha) fun σ H Q h => by
    obtain ⟨F0, B, F, δ, Qd, S, h, k⟩ := h
    exact ⟨F0, B, F, δ, _, S, h, fun v F1 H1 x x1 r1 q1 => ho.2 F1 H1 x v Qd Q x1.s r1 q1 fun w F' H' d x3 r3 q3 => k w F' H' d (x1.trans x3) r3 q3⟩
theorem q_cmp {op : CmpOp} {r : R2} {p : Op2} (ho : OpR X (compareOp op) r ∧ V2 X.K r p) (ha : QE X a ta) (hb : QE X b tb) (hm : behindInMarks op b = false) : QE X (.Compare a [op] [b] pos) (e2 p ta tb) :=
  imp_PE (pe_cmpR ho.1 ha hb hm) fun _ _ _ h => lft2 ho.2 h
theorem lftB {K : PySem.W.Frag} {t : Ex} {σ : L2.St} {H : Hp} {Q : Bool → Hp → Prop} (h : lftT K (tB t) σ H Q) : tTest (lft K t) σ H Q := by
  obtain ⟨F0, B, F, δ, Qd, S, h, k⟩ := h
  refine ⟨F0, B, F, δ, _, S, h, fun v F1 H1 x x1 r1 q1 => ?_⟩
  cases x with
  | bl b => exact ⟨b, r1.blI, k b F1 H1 x1 q1⟩
  | _ => exact q1.elim
theorem tTest_imp {t t' : TE} (i : ∀ σ H Q, t' σ H Q → t σ H Q) {σ : L2.St} {H : Hp} {Q : Bool → Hp → Prop} (h : tTest t' σ H Q) : tTest t σ H Q := i _ _ _ h
theorem q_cmpT {op : CmpOp} {r : R2} {p : Op2} (ho : OpR X (compareOp op) r ∧ V2 X.K r p) (ha : QE X a ta) (hb : QE X b tb) (hm : behindInMarks op b = false) : QT X (.Compare a [op] [b] pos) (tB (e2 p ta tb)) :=
  imp_PT (pt_cmpR ho.1 ha hb hm) fun _ _ _ h => tTest_imp (fun _ _ _ => lft2 ho.2) (lftB h)
/-- is None -/
theorem q_isN {j pos'} (ha : QE X a ta) : QE X (.Compare a [.Is] [.Constant .none j pos'] pos) (oIsN ta) :=
  imp_PE (pe_cmp (pc_isN ha)) fun σ H Q h => by
    obtain ⟨F0, B, F, δ, Qd, S, h, k⟩ := h
    refine ⟨F0, B, F, δ, _, S, h, fun v F1 H1 x x1 r1 q1 => ?_⟩
    refine k _ F1 H1 _ x1 ?_ q1
    have e : decide (v = .non) = decide (x = .non) := by
      cases x <;> (simp only [Rp] at r1) <;> first | (subst r1; simp) | (obtain ⟨a, xs, rfl, _⟩ := r1; simp)
    rw [e]; exact .bl _
theorem q_notN {j pos'} (ha : QE X a ta) : QE X (.Compare a [.IsNot] [.Constant .none j pos'] pos) (oNotN ta) :=
  imp_PE (pe_cmp (pc_notN ha)) fun σ H Q h => by
    obtain ⟨F0, B, F, δ, Qd, S, h, k⟩ := h
    refine ⟨F0, B, F, δ, _, S, h, fun v F1 H1 x x1 r1 q1 => ?_⟩
    refine k _ F1 H1 _ x1 ?_ q1
    have e : decide (v = .non) = decide (x = .non) := by
      cases x <;> (simp only [Rp] at r1) <;> first | (subst r1; simp) | (obtain ⟨a, xs, rfl, _⟩ := r1; simp)
    rw [e]; exact .bl _
theorem q_isNT {j pos'} (ha : QE X a ta) : QT X (.Compare a [.Is] [.Constant .none j pos'] pos) (tB (oIsN ta)) :=
  imp_PT (pt_cmp (pc_isN ha)) fun σ H Q h => by
    obtain ⟨F0, B, F, δ, Qd, S, h, k⟩ := h
    refine ⟨F0, B, F, δ, _, S, h, fun v F1 H1 x x1 r1 q1 => ?_⟩
    have e : decide (v = .non) = decide (x = .non) := by
      cases x <;> (simp only [Rp] at r1) <;> first | (subst r1; simp) | (obtain ⟨a, xs, rfl, _⟩ := r1; simp)
    exact ⟨_, rfl, by rw [e]; exact k _ F1 H1 x1 q1⟩
theorem q_notNT {j pos'} (ha : QE X a ta) : QT X (.Compare a [.IsNot] [.Constant .none j pos'] pos) (tB (oNotN ta)) :=
  imp_PT (pt_cmp (pc_notN ha)) fun σ H Q h => by
    obtain ⟨F0, B, F, δ, Qd, S, h, k⟩ := h
    refine ⟨F0, B, F, δ, _, S, h, fun v F1 H1 x x1 r1 q1 => ?_⟩
    have e : decide (v = .non) = decide (x = .non) := by
      cases x <;> (simp only [Rp] at r1) <;> first | (subst r1; simp) | (obtain ⟨a, xs, rfl, _⟩ := r1; simp)
    exact ⟨_, rfl, by rw [e]; exact k _ F1 H1 x1 q1⟩

theorem lftChain {K : PySem.W.Frag} {r r' : R2} {p q : Op2} (hp : V2 K r p) (hq : V2 K r' q) {σ : L2.St} {H : Hp} {Q : VK} (h : lft K (eChn p q ta tb tc) σ H Q) : tChain r r' (lft K ta) (lft K tb) (lft K tc) σ H Q := by
  obtain ⟨F0, B, F, δ, Qd, S, h, k⟩ := h
  refine ⟨F0, B, F, δ, _, S, h, fun v F1 H1 x x1 r1 q1 => ⟨F0, B, F1, δ, _, S.mono x1, q1, fun u F2 H2 y x2 r2 q2 =>
    hp F2 H2 x y v u _ _ x2.s (r1.mono x2.f) r2 q2 fun w F3 H3 d x3 r3 q3 => ?_⟩⟩
  cases d with
  | bl c =>
    refine ⟨c, r3.blI, ?_⟩
    cases c with
    | true =>
      have q3 : tc δ fun w => q y w Qd := by simpa [asB] using q3
      exact ⟨F0, B, F3, δ, _, S.mono ((x1.trans x2).trans x3), q3, fun w' F4 H4 z x4 r4 q4 => hq F4 H4 y z u w' Qd Q x4.s (r2.mono (x3.f.trans x4.f)) r4 q4 fun w F' H' d x5 r5 q5 =>
        k w F' H' d ((((x1.trans x2).trans x3).trans x4).trans x5) r5 q5⟩
    | false =>
      have q3 : Qd (.bl false) := by simpa [asB] using q3
      exact k _ F3 H3 _ ((x1.trans x2).trans x3) (.bl false) q3
  | _ => exact q3.elim
theorem q_chn {op op' : CmpOp} {r r' : R2} {p q : Op2} (ho : OpR X (compareOp op) r ∧ V2 X.K r p) (ho' : OpR X (compareOp op') r' ∧ V2 X.K r' q) (ha : QE X a ta) (hb : QE X b tb) (hc : QE X c tc)
    (hm : lastMarks [op, op'] [b, c] = false := by with_unfolding_all rfl) : QE X (.Compare a [op, op'] [b, c] pos) (eChn p q ta tb tc) :=
  imp_PE (pe_chain ho.1 ho'.1 ha hb hc hm) fun _ _ _ h => lftChain ho.2 ho'.2 h
theorem q_chnT {op op' : CmpOp} {r r' : R2} {p q : Op2} (ho : OpR X (compareOp op) r ∧ V2 X.K r p) (ho' : OpR X (compareOp op') r' ∧ V2 X.K r' q) (ha : QE X a ta) (hb : QE X b tb) (hc : QE X c tc)
    (hm : lastMarks [op, op'] [b, c] = false := by with_unfolding_all rfl) : QT X (.Compare a [op, op'] [b, c] pos) (tB (eChn p q ta tb tc)) :=
  imp_PT (pt_chain ho.1 ho'.1 ha hb hc hm) fun _ _ _ h => tTest_imp (fun _ _ _ => lftChain ho.2 ho'.2) (lftB h)

/-! truth -/
theorem tru_of {K : PySem.W.Frag} {F H : Hp} {x : D} {v : V} {Qd : Bool → Prop} (s : Same F H) (r : Rp K F x v) (h : truD x Qd) : ∃ k, TruV K v H k ∧ Qd k := by
  cases x with
  | non => cases r.nonI; exact ⟨false, rfl, h⟩
  | bl b => cases r.blI; exact ⟨b, rfl, h⟩
  | int i => cases r.intI; exact ⟨_, rfl, h⟩
  | str x => cases r.strI; exact ⟨_, ⟨by have := h.1; rw [sizeLine_eq]; exact this, rfl⟩, h.2⟩
  | tup xs =>
    obtain ⟨a, vs, rfl, h1, h2⟩ := r.tupI
    refine ⟨_, .inr (.inl ⟨vs, sameT s h1, rfl⟩), ?_⟩
    have e : vs.isEmpty = xs.isEmpty := by
      have := h2.len
      cases vs <;> cases xs <;> simp at this ⊢
    rw [e]; exact h
  | lst xs =>
    obtain ⟨a, vs, rfl, h1, h2⟩ := r.lstI
    refine ⟨_, .inl ⟨vs, s.seq h1, rfl⟩, ?_⟩
    have e : vs.isEmpty = xs.isEmpty := by
      have := h2.len
      cases vs <;> cases xs <;> simp at this ⊢
    rw [e]; exact h
theorem q_tru (ha : QE X a ta) (he : ∀ whole, isTrue a X.env whole = (do let v ← whole; standAt a.pos; holding [v] (truthy v)) := by intro _; rfl) : QT X a (tTru ta) :=
  imp_PT (pt_truth ha he) fun σ H Q h => by
    obtain ⟨F0, B, F, δ, Qd, S, h, k⟩ := h
    refine ⟨F0, B, F, δ, _, S, h, fun v F1 H1 x x1 r1 q1 => ?_⟩
    obtain ⟨c, h1, h2⟩ := tru_of x1.s r1 q1
    exact ⟨c, h1, k c F1 H1 x1 h2⟩
theorem q_and1 (ha : QT X a sa) : QW X (.BoolOp .And [a] pos) sa := pw_and1 ha
theorem q_or1 (ha : QT X a sa) : QW X (.BoolOp .Or [a] pos) sa := pw_or1 ha
theorem q_and (ha : QT X a sa) (hb : QW X (.BoolOp .And (b :: rest) pos) sb) : QW X (.BoolOp .And (a :: b :: rest) pos) (tAnd sa sb) :=
  imp_PW (pw_and ha hb) fun σ H Q h => by
    obtain ⟨F0, B, F, δ, Qd, S, h, k⟩ := h
    refine ⟨F0, B, F, δ, _, S, h, fun c F1 H1 x1 q1 => ?_⟩
    cases c with
    | true =>
      have q1 : sb δ Qd := by simpa using q1
      exact iteT ⟨F0, B, F1, δ, _, S.mono x1, q1, fun b F' H' x2 q2 => k b F' H' (x1.trans x2) q2⟩
    | false =>
      have q1 : Qd false := by simpa using q1
      exact iteF (k false F1 H1 x1 q1)
theorem q_or (ha : QT X a sa) (hb : QW X (.BoolOp .Or (b :: rest) pos) sb) : QW X (.BoolOp .Or (a :: b :: rest) pos) (tOr sa sb) :=
  imp_PW (pw_or ha hb) fun σ H Q h => by
    obtain ⟨F0, B, F, δ, Qd, S, h, k⟩ := h
    refine ⟨F0, B, F, δ, _, S, h, fun c F1 H1 x1 q1 => ?_⟩
    cases c with
    | true =>
      have q1 : Qd true := by simpa using q1
      exact iteT (k true F1 H1 x1 q1)
    | false =>
      have q1 : sb δ Qd := by simpa using q1
      exact iteF ⟨F0, B, F1, δ, _, S.mono x1, q1, fun b F' H' x2 q2 => k b F' H' (x1.trans x2) q2⟩
theorem q_wt (h : QW X a sa) : QT X a sa := h.pt
theorem q_notT (ha : QT X a sa) : QT X (.UnaryOp .Not a pos) (tNot sa) :=
  imp_PT (pt_not ha) fun σ H Q h => by
    obtain ⟨F0, B, F, δ, Qd, S, h, k⟩ := h
    exact ⟨F0, B, F, δ, _, S, h, fun c F1 H1 x1 q1 => k _ F1 H1 x1 q1⟩
theorem q_not (ha : QE X a ta) : QE X (.UnaryOp .Not a pos) (eNot ta) :=
  imp_PE (pe_notT ha) fun σ H Q h => by
    obtain ⟨F0, B, F, δ, Qd, S, h, k⟩ := h
    refine ⟨F0, B, F, δ, _, S, h, fun v F1 H1 x x1 r1 q1 => ?_⟩
    obtain ⟨c, h1, h2⟩ := tru_of x1.s r1 q1
    exact ⟨c, h1, k _ F1 H1 _ x1 (.bl _) h2⟩
theorem q_one {op} (h : QE X a ta) : QE X (.BoolOp op [a] pos) ta := pe_one h
theorem q_andV (ha : QE X a ta) (hb : QE X (.BoolOp .And (b :: rest) pos) tb) : QE X (.BoolOp .And (a :: b :: rest) pos) (eAnd ta tb) :=
  imp_PE (pe_and ha hb) fun σ H Q h => by
    obtain ⟨F0, B, F, δ, Qd, S, h, k⟩ := h
    refine ⟨F0, B, F, δ, _, S, h, fun v F1 H1 x x1 r1 q1 => ?_⟩
    cases x with
    | bl c =>
      refine ⟨c, r1.blI, ?_⟩
      cases c with
      | true =>
        have q1 : tb δ Qd := by simpa [asB] using q1
        exact iteT ⟨F0, B, F1, δ, _, S.mono x1, q1, fun b F' H' d x2 r2 q2 => k b F' H' d (x1.trans x2) r2 q2⟩
      | false =>
        have q1 : Qd (.bl false) := by simpa [asB] using q1
        exact iteF (k _ F1 H1 _ x1 (.bl false) q1)
    | _ => exact q1.elim
theorem q_orV (ha : QE X a ta) (hb : QE X (.BoolOp .Or (b :: rest) pos) tb) : QE X (.BoolOp .Or (a :: b :: rest) pos) (eOr ta tb) :=
  imp_PE (pe_or ha hb) fun σ H Q h => by
    obtain ⟨F0, B, F, δ, Qd, S, h, k⟩ := h
    refine ⟨F0, B, F, δ, _, S, h, fun v F1 H1 x x1 r1 q1 => ?_⟩
    cases x with
    | bl c =>
      refine ⟨c, r1.blI, ?_⟩
      cases c with
      | true =>
        have q1 : Qd (.bl true) := by simpa [asB] using q1
        exact iteT (k _ F1 H1 _ x1 (.bl true) q1)
      | false =>
        have q1 : tb δ Qd := by simpa [asB] using q1
        exact iteF ⟨F0, B, F1, δ, _, S.mono x1, q1, fun b F' H' d x2 r2 q2 => k b F' H' d (x1.trans x2) r2 q2⟩
    | _ => exact q1.elim
theorem q_if (hc : QT X c sa) (ha : QE X a ta) (hb : QE X b tb) : QE X (.IfExp c a b pos) (eIf sa ta tb) :=
  imp_PE (pe_ifExp hc ha hb) fun σ H Q h => by
    obtain ⟨F0, B, F, δ, Qd, S, h, k⟩ := h
    refine ⟨F0, B, F, δ, _, S, h, fun c F1 H1 x1 q1 => ?_⟩
    cases c with
    | true =>
      have q1 : ta δ Qd := by simpa using q1
      exact iteT ⟨F0, B, F1, δ, _, S.mono x1, q1, fun b F' H' d x2 r2 q2 => k b F' H' d (x1.trans x2) r2 q2⟩
    | false =>
      have q1 : tb δ Qd := by simpa using q1
      exact iteF ⟨F0, B, F1, δ, _, S.mono x1, q1, fun b F' H' d x2 r2 q2 => k b F' H' d (x1.trans x2) r2 q2⟩

/-! arguments -/
theorem qa_nil : QA X [] aNil := imp_PA pa_nil fun σ H Q h => by
  obtain ⟨F0, B, F, δ, Qd, S, h, k⟩ := h
  exact k [] F H [] (.refl S.ext.s) .nil h
theorem qa_cons {r : Ar} (ha : QE X e ta) (hr : QA X es r) (hs : starEach (e :: es) X.env = (false, eval e X.env) :: starEach es X.env := by rfl) : QA X (e :: es) (aCons ta r) :=
  imp_PA (pa_cons ha hr hs) fun σ H Q h => by
    obtain ⟨F0, B, F, δ, Qd, S, h, k⟩ := h
    exact ⟨F0, B, F, δ, _, S, h, fun v F1 H1 x x1 r1 q1 => ⟨F0, B, F1, δ, _, S.mono x1, q1, fun vs F2 H2 ds x2 r2 q2 => k _ F2 H2 _ (x1.trans x2) (.cons (r1.mono x2.f) r2) q2⟩⟩
theorem line_eq : (sizeLine : Nat) = maxLen := sizeLine_eq
theorem q_tup {x1} {t : Ar} (h : QA X es t) : QE X (.Tuple es x1 pos) (eTup t) :=
  imp_PE (pe_tup h) fun σ H Q h => by
    obtain ⟨F0, B, F, δ, Qd, S, h, k⟩ := h
    refine ⟨F0, B, F, δ, _, S, h, fun vs F1 H1 ds x1 r1 q1 => ⟨by rw [line_eq, r1.len]; exact q1.1, fun p hp => ?_⟩⟩
    have x2 : Ext F1 H1 (upd F1 p (.tup vs)) (upd H1 p (.tup vs)) := Ext.new x1.s hp
    exact k _ _ _ _ (x1.trans x2) (.tup (.of upd_same) (r1.mono x2.f)) q1.2

/-! calls of what is built in -/
theorem lftCall {K : PySem.W.Frag} {r : List V → Hp → VK → Prop} {p : Pm} {t : Ar} (hp : VC K r p) {σ : L2.St} {H : Hp} {Q : VK} (h : lft K (eCall p t) σ H Q) : tCB r (lftA K t) σ H Q := by
  obtain ⟨F0, B, F, δ, Qd, S, h, k⟩ := h
  exact ⟨F0, B, F, δ, _, S, h, fun vs F1 H1 ds x1 r1 q1 => hp F1 H1 ds vs Qd Q x1.s r1 q1 fun w F' H' d x2 r2 q2 => k w F' H' d (x1.trans x2) r2 q2⟩
theorem q_callB {x : Str} {p : Pos} {id : String} {r : List V → Hp → VK → Prop} {pm : Pm} {t : Ar} (hc : CallR X (.builtin id) r ∧ VC X.K r pm) (hg : Gl X x) (hm : X.mg x = none) (hv : bootBuiltins x = some (.builtin id)) (ha : QA X (e :: es) t) (hn : x ≠ "__name__" := by decide) (hdb : (x == ("__debug__" : Str)) = false := by decide)
    (he : starEach (e :: es) X.env = (false, eval e X.env) :: starEach es X.env := by rfl) (hpl : (backTo pos (starEach es X.env)).any (·.1) = false := by rfl) : QE X (.Call (.Name x p) (e :: es) [] pos) (eCall pm t) :=
  imp_PE (pe_callB hc.1 hg hm hv ha hn hdb he hpl) fun _ _ _ h => lftCall hc.2 h
theorem q_callTy {x : Str} {p : Pos} {T : String} {r : List V → Hp → VK → Prop} {pm : Pm} {t : Ar} (hc : CallR X (.type T) r ∧ VC X.K r pm) (hg : Gl X x) (hm : X.mg x = none) (hv : bootBuiltins x = some (.type T)) (ha : QA X (e :: es) t) (hn : x ≠ "__name__" := by decide) (hdb : (x == ("__debug__" : Str)) = false := by decide)
    (he : starEach (e :: es) X.env = (false, eval e X.env) :: starEach es X.env := by rfl) (hpl : (backTo pos (starEach es X.env)).any (·.1) = false := by rfl) : QE X (.Call (.Name x p) (e :: es) [] pos) (eCall pm t) :=
  imp_PE (pe_callTy hc.1 hg hm hv ha hn hdb he hpl) fun _ _ _ h => lftCall hc.2 h
end

/-! ### what a def promises -/
def lsp (K : PySem.W.Frag) (p : Pm) : Sp := fun vs H Q _ => ∃ F ds Qd, Same F H ∧ RpL K F ds vs ∧ p ds Qd ∧ ∀ v F' H' d, Ext F H F' H' → Rp K F' d v → Qd d → Q v H'
section
variable {X : Cx} {e : Expr} {es : List Expr} {pos p : Pos} {x : Str} {k : Nat} {f : Addr} {fd : FuncData} {ps : List Str} {pm : Pm} {t : Ar}
theorem q_call (F : FnOk X.prog X.w X.K X.mg X.base CX0 k f fd ps (lsp X.K pm)) (hr : Room k X.A) (hm : X.mg x = some (.ref f)) (hk : PySem.W.keepIn X.K (.ref f) = true) (hb : Binds X.K fd ps []) (ha : QA X (e :: es) t) (hg : Gl X x := by rfl)
    (hdb : (x == ("__debug__" : Str)) = false := by decide) (he : starEach (e :: es) X.env = (false, eval e X.env) :: starEach es X.env := by rfl) (hpl : (backTo pos (starEach es X.env)).any (·.1) = false := by rfl) :
    QE X (.Call (.Name x p) (e :: es) [] pos) (eCall pm t) :=
  imp_PE (pe_call (E := E0) F hr hg hm hk hb .nil pass0 ha hdb he hpl) fun σ H Q h => by
    obtain ⟨F0, B, F, δ, Qd, S, h, k⟩ := h
    refine ⟨F0, B, F, δ, _, S, h, fun vs F1 H1 ds x1 r1 q1 => ?_⟩
    show lsp X.K pm (vs ++ []) H1 Q E0
    rw [List.append_nil]
    exact ⟨F1, ds, Qd, x1.s, r1, q1, fun v F' H' d x2 r2 q2 => k v F' H' d (x1.trans x2) r2 q2⟩
theorem q_call0 (F : FnOk X.prog X.w X.K X.mg X.base CX0 k f fd ps (lsp X.K pm)) (hr : Room k X.A) (hm : X.mg x = some (.ref f)) (hk : PySem.W.keepIn X.K (.ref f) = true) (hb : Binds X.K fd ps []) (hg : Gl X x := by rfl)
    (hdb : (x == ("__debug__" : Str)) = false := by decide) : QE X (.Call (.Name x p) [] [] pos) (eCall pm aNil) :=
  imp_PE (pe_call0 (E := E0) F hr hg hm hk hb .nil pass0 hdb) fun σ H Q h => by
    obtain ⟨F0, B, F, δ, Qd, S, h, k⟩ := h
    exact ⟨F, [], Qd, S.ext.s, .nil, h, fun v F' H' d x2 r2 q2 => k v F' H' d x2 r2 q2⟩
end
end PL

set_option Elab.async false
set_option linter.all false
set_option maxRecDepth 100000
namespace PL
open PySem PySem.Spec PyProof.Rows L2

/-! ### operators by values -/
section
variable {X : Cx} {K : PySem.W.Frag}
/-- ints under a condition -/
theorem v2I {C : Int → Int → Prop} {g : Int → Int → Int} {p : Op2} (hp : ∀ x y Q, p x y Q → ∃ i j, x = .int i ∧ y = .int j ∧ C i j ∧ Q (.int (g i j))) : V2 K (rI C fun i j => .int (g i j)) p := by
  intro F H x y v u Qd Q s rx ry h k
  obtain ⟨i, j, rfl, rfl, hc, q⟩ := hp x y Qd h
  exact ⟨i, j, rx.intI, ry.intI, hc, k _ F H _ (.refl s) (.int _) q⟩
theorem v2I0 {g : Int → Int → Int} {p : Op2} (hp : ∀ x y Q, p x y Q → ∃ i j, x = .int i ∧ y = .int j ∧ Q (.int (g i j))) : V2 K (rI0 fun i j => .int (g i j)) p := by
  intro F H x y v u Qd Q s rx ry h k
  obtain ⟨i, j, rfl, rfl, q⟩ := hp x y Qd h
  exact ⟨i, j, rx.intI, ry.intI, k _ F H _ (.refl s) (.int _) q⟩
theorem v2B0 {g : Int → Int → Bool} {p : Op2} (hp : ∀ x y Q, p x y Q → ∃ i j, x = .int i ∧ y = .int j ∧ Q (.bl (g i j))) : V2 K (rI0 fun i j => .bl (g i j)) p := by
  intro F H x y v u Qd Q s rx ry h k
  obtain ⟨i, j, rfl, rfl, q⟩ := hp x y Qd h
  exact ⟨i, j, rx.intI, ry.intI, k _ F H _ (.refl s) (.bl _) q⟩

theorem sub_I : ∀ x y Q, oSub x y Q → ∃ i j, x = .int i ∧ y = .int j ∧ Q (.int (i - j)) := by
  intro x y Q h
  cases x <;> cases y <;> first | exact h.elim | exact ⟨_, _, rfl, rfl, h⟩
theorem k_sub : OpR X (binaryOp .Sub) (rI0 fun i j => .int (i - j)) ∧ V2 K (rI0 fun i j => .int (i - j)) oSub := ⟨op_sub, v2I0 sub_I⟩
theorem ki_sub : OpR X (inplaceOp .Sub) (rI0 fun i j => .int (i - j)) ∧ V2 K (rI0 fun i j => .int (i - j)) oSub := ⟨iop_sub, v2I0 sub_I⟩
theorem mul_I : ∀ x y Q, oMul x y Q → ∃ i j, x = .int i ∧ y = .int j ∧ CMul i j ∧ Q (.int (i * j)) := by
  intro x y Q h
  cases x <;> cases y <;> first | exact h.elim | exact ⟨_, _, rfl, rfl, h.1, h.2⟩
theorem k_mul : OpR X (binaryOp .Mult) (rI CMul fun i j => .int (i * j)) ∧ V2 K (rI CMul fun i j => .int (i * j)) oMul := ⟨op_mul, v2I mul_I⟩
theorem ki_mul : OpR X (inplaceOp .Mult) (rI CMul fun i j => .int (i * j)) ∧ V2 K (rI CMul fun i j => .int (i * j)) oMul := ⟨iop_mul, v2I mul_I⟩
theorem log2_lt_pow {n a : Nat} (h : n < 2 ^ a) : n.log2 < a ∨ n.log2 = 0 := by
  by_cases h0 : n = 0
  · right; subst h0; rfl
  · left; exact (Nat.log2_lt h0).mpr h
theorem k_mulX : OpR X (binaryOp .Mult) (rI CMulW fun i j => .int (i * j)) ∧ V2 K (rI CMulW fun i j => .int (i * j)) oMulX := ⟨op_mulW, v2I fun x y Q h => by
  cases x <;> cases y <;> first | exact h.elim | skip
  rename_i i j
  obtain ⟨⟨a, b, h1, h2, h3⟩, q⟩ := h
  refine ⟨i, j, rfl, rfl, ?_, q⟩
  show i.natAbs.log2 + j.natAbs.log2 < 1000000
  rcases log2_lt_pow h1 with e1 | e1 <;> rcases log2_lt_pow h2 with e2 | e2 <;> omega⟩
theorem log2_64 {j : Int} (h0 : 0 < j) (h : j < 2 ^ 64) : j.natAbs.log2 < 9000 := by
  rcases log2_lt_pow (n := j.natAbs) (a := 64) (by omega) with e | e <;> omega
theorem fdiv_I : ∀ x y Q, oFdiv x y Q → ∃ i j, x = .int i ∧ y = .int j ∧ CDivW i j ∧ Q (.int (i / j)) := by
  intro x y Q h
  cases x <;> cases y <;> first | exact h.elim | exact ⟨_, _, rfl, rfl, ⟨h.1.1, log2_64 h.1.1 h.1.2⟩, h.2⟩
theorem k_fdiv : OpR X (binaryOp .FloorDiv) (rI CDivW fun i j => .int (i / j)) ∧ V2 K (rI CDivW fun i j => .int (i / j)) oFdiv := ⟨op_fdivW, v2I fdiv_I⟩
theorem ki_fdiv : OpR X (inplaceOp .FloorDiv) (rI CDivW fun i j => .int (i / j)) ∧ V2 K (rI CDivW fun i j => .int (i / j)) oFdiv := ⟨iop_fdivW, v2I fdiv_I⟩
theorem k_fdivN : OpR X (binaryOp .FloorDiv) (rI CDivN fun i j => .int (i.fdiv j)) ∧ V2 K (rI CDivN fun i j => .int (i.fdiv j)) oFdivN := ⟨op_fdivN, v2I fun x y Q h => by
  cases x <;> cases y <;> first | exact h.elim | exact ⟨_, _, rfl, rfl, ⟨h.1.1, by have := h.1.2.1; have := h.1.2.2; omega⟩, h.2⟩⟩
theorem mod_I : ∀ x y Q, oMod x y Q → ∃ i j, x = .int i ∧ y = .int j ∧ 0 < j ∧ Q (.int (i % j)) := by
  intro x y Q h
  cases x <;> cases y <;> first | exact h.elim | exact ⟨_, _, rfl, rfl, h.1, h.2⟩
theorem k_mod : OpR X (binaryOp .Mod) (rI (fun _ j => 0 < j) fun i j => .int (i % j)) ∧ V2 K (rI (fun _ j => 0 < j) fun i j => .int (i % j)) oMod := ⟨op_mod, v2I mod_I⟩
theorem ki_mod : OpR X (inplaceOp .Mod) (rI (fun _ j => 0 < j) fun i j => .int (i % j)) ∧ V2 K (rI (fun _ j => 0 < j) fun i j => .int (i % j)) oMod := ⟨iop_mod, v2I mod_I⟩
theorem k_modN : OpR X (binaryOp .Mod) (rI (fun _ j => j ≠ 0) fun i j => .int (i.fmod j)) ∧ V2 K (rI (fun _ j => j ≠ 0) fun i j => .int (i.fmod j)) oModN := ⟨op_modN, v2I fun x y Q h => by
  cases x <;> cases y <;> first | exact h.elim | exact ⟨_, _, rfl, rfl, h.1, h.2⟩⟩
theorem k_pow : OpR X (binaryOp .Pow) (rI CPow fun i j => .int (i ^ j.toNat)) ∧ V2 K (rI CPow fun i j => .int (i ^ j.toNat)) oPow := ⟨op_pow, v2I fun x y Q h => by
  cases x <;> cases y <;> first | exact h.elim | exact ⟨_, _, rfl, rfl, ⟨h.1.1, h.1.2.1, by have := h.1.2.2.1; have := h.1.2.2.2; omega⟩, h.2⟩⟩
theorem k_lt : OpR X (compareOp .Lt) (rI0 fun i j => .bl (decide (i < j))) ∧ V2 K (rI0 fun i j => .bl (decide (i < j))) oLt := ⟨op_lt, v2B0 fun x y Q h => by
  cases x <;> cases y <;> first | exact h.elim | exact ⟨_, _, rfl, rfl, h⟩⟩
theorem k_le : OpR X (compareOp .LtE) (rI0 fun i j => .bl (decide (i ≤ j))) ∧ V2 K (rI0 fun i j => .bl (decide (i ≤ j))) oLe := ⟨op_le, v2B0 fun x y Q h => by
  cases x <;> cases y <;> first | exact h.elim | exact ⟨_, _, rfl, rfl, h⟩⟩
theorem k_gt : OpR X (compareOp .Gt) (rI0 fun i j => .bl (decide (j < i))) ∧ V2 K (rI0 fun i j => .bl (decide (j < i))) oGt := ⟨op_gt, v2B0 fun x y Q h => by
  cases x <;> cases y <;> first | exact h.elim | exact ⟨_, _, rfl, rfl, h⟩⟩
theorem k_ge : OpR X (compareOp .GtE) (rI0 fun i j => .bl (decide (j ≤ i))) ∧ V2 K (rI0 fun i j => .bl (decide (j ≤ i))) oGe := ⟨op_ge, v2B0 fun x y Q h => by
  cases x <;> cases y <;> first | exact h.elim | exact ⟨_, _, rfl, rfl, h⟩⟩
theorem k_neg : UnR X (unaryOp .USub) (rU fun i => .int (-i)) ∧ V1 K (rU fun i => .int (-i)) oNeg := ⟨un_neg, fun F H x v Qd Q s r h k => by
  cases x <;> first | exact h.elim | exact ⟨_, r.intI, k _ F H _ (.refl s) (.int _) h⟩⟩

/-! == of data -/
mutual
def toPy : D → PyData
  | .non => .none
  | .bl b => .bool b
  | .int i => .int i
  | .str x => .str x
  | .tup xs => .tuple (toPyL xs)
  | .lst xs => .list (toPyL xs)
def toPyL : List D → List PyData
  | [] => []
  | x :: xs => toPy x :: toPyL xs
end
mutual
theorem dp_of {F H : Hp} (s : Same F H) : ∀ {d : D} {v : V}, Rp K F d v → Dp K H v (toPy d)
  | .non, _, r => by cases r.nonI; exact .non
  | .bl b, _, r => by cases r.blI; exact .bl b
  | .int i, _, r => by cases r.intI; exact .int i
  | .str x, _, r => by cases r.strI; exact .str x
  | .tup xs, _, r => by
    obtain ⟨a, vs, rfl, h1, h2⟩ := r.tupI
    simp only [toPy]
    exact .tup (sameT s h1) (dpL_of s h2)
  | .lst xs, _, r => by
    obtain ⟨a, vs, rfl, h1, h2⟩ := r.lstI
    simp only [toPy]
    exact .lst (s.seq h1) (dpL_of s h2)
theorem dpL_of {F H : Hp} (s : Same F H) : ∀ {ds : List D} {vs : List V}, RpL K F ds vs → DpAll K H vs (toPyL ds)
  | [], _, r => by simp only [RpL] at r; subst r; exact .nil
  | d :: ds, _, r => by
    obtain ⟨v, q, rfl, h2, h3⟩ := r.inv
    simp only [toPyL]
    exact .cons (dp_of s h2) (dpL_of s h3)
end
mutual
theorem shp_lay : ∀ {n : Nat} {d : D}, shp n d = true → (toPy d).canLay0 = true ∧ (toPy d).depth ≤ n
  | n, .non, _ => ⟨rfl, Nat.zero_le _⟩
  | n, .bl _, _ => ⟨rfl, Nat.zero_le _⟩
  | n, .int _, _ => ⟨rfl, Nat.zero_le _⟩
  | n, .str x, h => ⟨by
      have h : strOkD x = true := by simpa [shp] using h
      show PyData.strOk x = true
      exact h, Nat.zero_le _⟩
  | 0, .tup _, h => by simp [shp] at h
  | 0, .lst _, h => by simp [shp] at h
  | n + 1, .tup xs, h => by
    have := shpL_lay (n := n) (ds := xs) (by simpa [shp] using h)
    simp only [toPy, PyData.canLay0, PyData.depth]
    exact ⟨this.1, by omega⟩
  | n + 1, .lst xs, h => by
    have := shpL_lay (n := n) (ds := xs) (by simpa [shp] using h)
    simp only [toPy, PyData.canLay0, PyData.depth]
    exact ⟨this.1, by omega⟩
theorem shpL_lay : ∀ {n : Nat} {ds : List D}, shpL n ds = true → PyData.canLayAll0 (toPyL ds) = true ∧ PyData.depthAll (toPyL ds) ≤ n
  | n, [], _ => ⟨rfl, Nat.zero_le _⟩
  | n, d :: ds, h => by
    simp only [shpL, Bool.and_eq_true] at h
    have h1 := shp_lay (n := n) (d := d) h.1
    have h2 := shpL_lay (n := n) (ds := ds) h.2
    simp only [toPyL, PyData.canLayAll0, PyData.depthAll, Bool.and_eq_true]
    exact ⟨⟨h1.1, h2.1⟩, by omega⟩
end
theorem shp_shaped {d : D} (h : shp 60 d = true) : SeqAt.shaped (toPy d) = true := by
  obtain ⟨h1, h2⟩ := shp_lay h
  unfold SeqAt.shaped
  rw [h1, decide_eq_true (by omega)]
  rfl
mutual
theorem eqv_py : ∀ (a b : D), PyData.eqv (toPy a) (toPy b) = D.eqv a b
  | .non, b => by cases b <;> simp only [toPy, PyData.eqv, D.eqv]
  | .bl _, b => by cases b <;> simp only [toPy, PyData.eqv, D.eqv]
  | .int _, b => by cases b <;> simp only [toPy, PyData.eqv, D.eqv]
  | .str _, b => by cases b <;> simp only [toPy, PyData.eqv, D.eqv]
  | .tup xs, b => by cases b <;> simp only [toPy, PyData.eqv, D.eqv, eqv_pyL xs]
  | .lst xs, b => by cases b <;> simp only [toPy, PyData.eqv, D.eqv, eqv_pyL xs]
theorem eqv_pyL : ∀ (a b : List D), PyData.eqvAll (toPyL a) (toPyL b) = D.eqvL a b
  | [], b => by cases b <;> simp only [toPyL, PyData.eqvAll, D.eqvL]
  | x :: xs, b => by cases b <;> simp only [toPyL, PyData.eqvAll, D.eqvL, eqv_py x, eqv_pyL xs]
end
theorem k_eq (hu : X.A.units + 64 < cLine) : OpR X (compareOp .Eq) (rEqD X.K) ∧ V2 X.K (rEqD X.K) oEq := ⟨op_eqD hu, fun F H x y v u Qd Q s rx ry h k => by
  obtain ⟨⟨h1, h2⟩, q⟩ := h
  exact ⟨toPy x, toPy y, dp_of s rx, dp_of s ry, shp_shaped h1, shp_shaped h2, by rw [eqv_py]; exact k _ F H _ (.refl s) (.bl _) q⟩⟩
theorem k_ne (hu : X.A.units + 64 < cLine) : OpR X (compareOp .NotEq) (rNeD X.K) ∧ V2 X.K (rNeD X.K) oNe := ⟨op_neD hu, fun F H x y v u Qd Q s rx ry h k => by
  obtain ⟨⟨h1, h2⟩, q⟩ := h
  exact ⟨toPy x, toPy y, dp_of s rx, dp_of s ry, shp_shaped h1, shp_shaped h2, by rw [eqv_py]; exact k _ F H _ (.refl s) (.bl _) q⟩⟩

/-! + of ints, tuples, lists, texts -/
theorem op_catL : OpR X (binaryOp .Add) (fun x y H Q => ∃ a b xs ys, x = .ref a ∧ y = .ref b ∧ SqL X.K H a xs ∧ SqL X.K H b ys ∧ xs.length + ys.length ≤ sizeLine ∧ ∀ p, H p = none → Q (.ref p) (upd H p (.lst (xs ++ ys)))) := by
  intro pins s σ H x y v u Q I rx ry h
  obtain ⟨l, b, xs, zs, rfl, rfl, hH, hB, hz, q⟩ := h
  cases rx
  cases ry
  obtain ⟨its, r, ⟨⟨cls, dd, data, sl⟩, n, ho, hc, hd', hd⟩, _⟩ := I.list hH
  obtain ⟨its2, r2, ⟨⟨cls2, dd2, data2, sl2⟩, n2, ho2, hc2, hd2', hd2⟩, _⟩ := I.list hB
  simp only at hc hd hc2 hd2 hd' hd2'
  subst hc hd hc2 hd2
  have hl := r.length
  have hl2 := r2.length
  have e : its.toArray ++ its2.toArray = (its ++ its2).toArray := by simp
  refine concat_meets ⟨_, ho, rfl⟩ ⟨_, ho2, rfl⟩ noFill_list_add seq_list_add PySem.F.slot_list_add PySem.F.entry_list_add (PySem.F.args_list_add_2 _ _) (list_addW l b its.toArray its2.toArray n n2 dd dd2 sl sl2 (by simp; omega)) ⟨ho, ho2, ?_⟩
  rw [e]
  exact ⟨.ref _, _, I.lnew (t' := s.toks) (r.append r2) (by rw [List.length_append]; omega), rfl, q _ I.fresh⟩
def rAddD (K : PySem.W.Frag) : R2 := fun x y H Q => (rI0 (fun i j => .int (i + j)) x y H Q) ∨ (rCatA K x y H Q) ∨
  (∃ a b xs ys, x = .ref a ∧ y = .ref b ∧ SqL K H a xs ∧ SqL K H b ys ∧ xs.length + ys.length ≤ sizeLine ∧ ∀ p, H p = none → Q (.ref p) (upd H p (.lst (xs ++ ys)))) ∨
  (∃ i j, x = .str i ∧ y = .str j ∧ i.length + j.length ≤ sizeLine ∧ Q (.str (i ++ j)) H)
theorem add_V2 : V2 K (rAddD K) oAdd := by
  intro F H x y v u Qd Q s rx ry h k
  cases x with
  | int i => cases y <;> first | exact h.elim | exact .inl ⟨_, _, rx.intI, ry.intI, k _ F H _ (.refl s) (.int _) h⟩
  | str i => cases y <;> first | exact h.elim | exact .inr (.inr (.inr ⟨_, _, rx.strI, ry.strI, by rw [line_eq]; exact h.1, k _ F H _ (.refl s) (.str _) h.2⟩))
  | tup xs =>
    cases y with
    | tup ys =>
      obtain ⟨a, vs, rfl, h1, h2⟩ := rx.tupI
      obtain ⟨b, us, rfl, g1, g2⟩ := ry.tupI
      have hlen : vs.length + us.length ≤ sizeLine := by rw [line_eq, h2.len, g2.len]; exact h.1
      refine .inr (.inl ⟨a, b, vs, us, rfl, rfl, sameT s h1, sameT s g1, hlen, fun e => ?_, fun e e' => ?_, fun e e' p hp => ?_⟩)
      · have ex : xs = [] := by have := h2.len; rw [e] at this; exact List.length_eq_zero_iff.mp this.symm
        subst ex
        exact k _ F H _ (.refl s) (.tup g1 g2) h.2
      · have ey : ys = [] := by have := g2.len; rw [e'] at this; exact List.length_eq_zero_iff.mp this.symm
        subst ey
        exact k _ F H _ (.refl s) (.tup h1 (by rw [List.append_nil]; exact h2)) h.2
      · have x2 : Ext F H (upd F p (.tup (vs ++ us))) (upd H p (.tup (vs ++ us))) := Ext.new s hp
        exact k _ _ _ _ x2 (.tup (.of upd_same) ((h2.app g2).mono x2.f)) h.2
    | _ => exact h.elim
  | lst xs =>
    cases y with
    | lst ys =>
      obtain ⟨a, vs, rfl, h1, h2⟩ := rx.lstI
      obtain ⟨b, us, rfl, g1, g2⟩ := ry.lstI
      have hlen : vs.length + us.length ≤ sizeLine := by rw [line_eq, h2.len, g2.len]; exact h.1
      refine .inr (.inr (.inl ⟨a, b, vs, us, rfl, rfl, s.seq h1, s.seq g1, hlen, fun p hp => ?_⟩))
      have x2 : Ext F H (upd F p (.lst (vs ++ us))) (upd H p (.lst (vs ++ us))) := Ext.new s hp
      exact k _ _ _ _ x2 (.lst (.of upd_same) ((h2.app g2).mono x2.f)) h.2
    | _ => exact h.elim
  | _ => exact h.elim
theorem k_add : OpR X (binaryOp .Add) (rAddD X.K) ∧ V2 X.K (rAddD X.K) oAdd := ⟨op_add.or (op_catA.or (op_catL.or op_add_str)), add_V2⟩
theorem add_I : V2 K (rI0 fun i j => .int (i + j)) (fun x y Q => match x, y with | .int i, .int j => Q (.int (i + j)) | _, _ => False) := v2I0 fun x y Q h => by
  cases x <;> cases y <;> first | exact h.elim | exact ⟨_, _, rfl, rfl, h⟩

/-! subscripts -/
theorem ixP_eq (n : Nat) (i : Int) : ixN n i = ixP n i := rfl
theorem at_of_atD {F H : Hp} {xs : List D} {vs : List V} {i : Int} {Qd : D → Prop} (r : RpL K F xs vs) (h : atD xs i Qd) : ∃ v d, atI vs i = some v ∧ Rp K F d v ∧ Qd d := by
  obtain ⟨j, d, h1, h2, h3⟩ := h
  obtain ⟨v, g1, g2⟩ := r.get h2
  refine ⟨v, d, ?_, g2, h3⟩
  unfold atI
  rw [r.len, ixP_eq, h1]
  exact g1
theorem k_ix : IxR X (rIx X.K) ∧ V2 X.K (rIx X.K) oIx := ⟨ix_seq, fun F H x y v u Qd Q s rx ry h k => by
  cases x with
  | tup xs =>
    cases y with
    | int i =>
      obtain ⟨a, vs, rfl, h1, h2⟩ := rx.tupI
      obtain ⟨w, d, e1, e2, e3⟩ := at_of_atD (F := F) (H := H) h2 h
      exact .inr (.inl ⟨a, vs, i, w, rfl, ry.intI, sameT s h1, e1, k _ F H _ (.refl s) e2 e3⟩)
    | _ => exact h.elim
  | lst xs =>
    cases y with
    | int i =>
      obtain ⟨a, vs, rfl, h1, h2⟩ := rx.lstI
      obtain ⟨w, d, e1, e2, e3⟩ := at_of_atD (F := F) (H := H) h2 h
      exact .inl ⟨a, vs, i, w, rfl, ry.intI, s.seq h1, e1, k _ F H _ (.refl s) e2 e3⟩
    | _ => exact h.elim
  | str z =>
    cases y with
    | int i =>
      obtain ⟨hz, j, c, e1, e2, e3⟩ := h
      refine .inr (.inr ⟨z, i, c, rx.strI, ry.intI, by rw [line_eq]; exact hz, ?_, k _ F H _ (.refl s) (.str _) e3⟩)
      unfold atI
      rw [ixP_eq, e1]
      exact e2
    | _ => exact h.elim
  | _ => exact h.elim⟩
section
variable {a b : Expr} {ta tb : Ex} {pos : Pos}
theorem q_ix {r : R2} {p : Op2} (ho : IxR X r ∧ V2 X.K r p) (ha : QE X a ta) (hb : QE X b tb) (hs : PlainIx b) : QE X (.Subscript a b pos) (e2 p ta tb) :=
  imp_PE (pe_ix ho.1 ha hb hs) fun _ _ _ h => lft2 ho.2 h
/-- x[i], x an owned list -/
theorem q_ixS (s : Nat) {x : Str} {px : Pos} (hb : QE X b tb) (hs : PlainIx b) (hN : X.N[s]? = some x := by rfl) (hv : Vis X.env.scope x := by first | exact Or.inl rfl | exact Or.inr (Or.inl rfl) | exact Or.inr (Or.inr rfl)) (hd : (x == ("__debug__" : Str)) = false := by decide)
    (hcd : (x == ("__classdict__" : Str)) = false := by decide) : QE X (.Subscript (.Name x px) b pos) (eIxS s tb) :=
  imp_PE (pe_ix ix_list (pv s hN hv hd hcd) hb hs) fun σ H Q h => by
    obtain ⟨F0, B, F, δ, Qd, S, h, k⟩ := h
    show tVar s σ H _
    unfold eIxS asOwn at h
    split at h
    · rename_i p xs e
      obtain ⟨h1, _, _, vs, h4, h5⟩ := S.own s p xs e
      refine ⟨.ref p, h1, F0, B, F, δ, _, S, h, fun u F1 H1 y x1 r1 q1 => ?_⟩
      cases y with
      | int i =>
        obtain ⟨w, d, e1, e2, e3⟩ := at_of_atD (F := F) (H := H) h5 q1
        exact ⟨p, vs, i, w, rfl, r1.intI, .of (x1.h _ _ h4), e1, k _ F1 H1 _ x1 (e2.mono x1.f) e3⟩
      | _ => exact q1.elim
    · exact h.elim
end
end
end PL

set_option Elab.async false
set_option linter.all false
set_option maxRecDepth 100000
namespace PL
open PySem PySem.Spec PyProof.Rows L2

/-! ### fresh lists -/
def lftF (K : PySem.W.Frag) (t : Ex) : TE := fun σ H Q => ∃ F0 B F δ Qd, SR K F0 B F H σ δ ∧ t δ Qd ∧ ∀ p xs ds F' H', Ext F H F' H' → H p = none → F' p = none → H' p = some (.lst xs) → RpL K F' ds xs → Qd (.lst ds) → Q (.ref p) H'
abbrev QF (X : Cx) (e : Expr) (t : Ex) : Prop := PE X e (lftF X.K t)
theorem lft_lftF {K : PySem.W.Frag} {t : Ex} {σ : L2.St} {H : Hp} {Q : VK} (h : lft K t σ H Q) : lftF K t σ H Q := by
  obtain ⟨F0, B, F, δ, Qd, S, h, k⟩ := h
  refine ⟨F0, B, F, δ, Qd, S, h, fun p xs ds F' H' x1 hp hF hH r q => ?_⟩
  have sF : Same F' (upd F' p (.lst xs)) := upd_same_of hF
  have x2 : Ext F H (upd F' p (.lst xs)) H' := by
    refine ⟨x1.f.trans sF, x1.h, fun b o e => ?_, fun a h1 h2 => ?_⟩
    · by_cases hb : b = p
      · subst hb; rw [upd_same] at e; cases e; exact hH
      · rw [upd_ne hb] at e; exact x1.s b o e
    · have : a ≠ p := fun z => h1 (z ▸ hp)
      rw [upd_ne this]; exact x1.n a h1 h2
  exact k _ _ _ _ x2 (.lst (.of upd_same) (r.mono sF)) q
theorem q_fr {X : Cx} {e : Expr} {t : Ex} (h : QF X e t) : QE X e t := imp_PE h fun _ _ _ => lft_lftF
section
variable {X : Cx} {e : Expr} {es : List Expr} {pos : Pos}
theorem qf_lst {t : Ar} (h : QA X es t) : QF X (.List es pos) (eLst t) :=
  imp_PE (pe_lst h) fun σ H Q h => by
    obtain ⟨F0, B, F, δ, Qd, S, h, k⟩ := h
    refine ⟨F0, B, F, δ, _, S, h, fun vs F1 H1 ds x1 r1 q1 => ⟨by rw [line_eq, r1.len]; exact q1.1, fun p hp => ?_⟩⟩
    have hF : F1 p = none := x1.s.free hp
    have sH : Same H1 (upd H1 p (.lst vs)) := upd_same_of hp
    exact k p vs ds F1 _ ⟨x1.f, x1.h.trans sH, x1.s.trans sH, x1.n⟩ (x1.h.free hp) hF upd_same r1 q1.2
end

/-! ### built-ins -/
section
variable {X : Cx} {K : PySem.W.Frag}
theorem RpL.one {F : Hp} {d : D} {vs : List V} (r : RpL K F [d] vs) : ∃ v, vs = [v] ∧ Rp K F d v := by
  obtain ⟨v, r, rfl, h, h2⟩ := r.inv
  simp only [RpL] at h2; subst h2
  exact ⟨v, rfl, h⟩
theorem RpL.two {F : Hp} {d e : D} {vs : List V} (r : RpL K F [d, e] vs) : ∃ v u, vs = [v, u] ∧ Rp K F d v ∧ Rp K F e u := by
  obtain ⟨v, r, rfl, h, h2⟩ := r.inv
  obtain ⟨u, rfl, h3⟩ := h2.one
  exact ⟨v, u, rfl, h, h3⟩
theorem b_len : CallR X (.builtin "len") (fun xs H Q => ∃ x n, xs = [x] ∧ LenV X.K x H n ∧ Q (.int n) H) ∧ VC X.K (fun xs H Q => ∃ x n, xs = [x] ∧ LenV X.K x H n ∧ Q (.int n) H) pLen := ⟨call_len, fun F H ds vs Qd Q s r h k => by
  unfold pLen at h
  split at h
  · obtain ⟨v, rfl, r1⟩ := r.one
    obtain ⟨a, us, rfl, h1, h2⟩ := r1.tupI
    exact ⟨_, _, rfl, .inr ⟨us, sameT s h1, rfl⟩, by rw [h2.len]; exact k _ F H _ (.refl s) (.int _) h⟩
  · obtain ⟨v, rfl, r1⟩ := r.one
    obtain ⟨a, us, rfl, h1, h2⟩ := r1.lstI
    exact ⟨_, _, rfl, .inl ⟨us, s.seq h1, rfl⟩, by rw [h2.len]; exact k _ F H _ (.refl s) (.int _) h⟩
  · obtain ⟨v, rfl, r1⟩ := r.one
    cases r1.strI
    exact ⟨_, _, rfl, ⟨by rw [line_eq]; exact h.1, rfl⟩, k _ F H _ (.refl s) (.int _) h.2⟩
  · exact h.elim⟩
theorem b_abs : CallR X (.builtin "abs") (fun xs H Q => ∃ i, xs = [.int i] ∧ Q (.int (if i < 0 then -i else i)) H) ∧ VC X.K (fun xs H Q => ∃ i, xs = [.int i] ∧ Q (.int (if i < 0 then -i else i)) H) pAbs := ⟨call_abs, fun F H ds vs Qd Q s r h k => by
  unfold pAbs at h
  split at h
  · obtain ⟨v, rfl, r1⟩ := r.one
    cases r1.intI
    exact ⟨_, rfl, k _ F H _ (.refl s) (.int _) h⟩
  · exact h.elim⟩
theorem b_int : CallR X (.type "int") (fun xs H Q => (∃ i, xs = [.int i] ∧ Q (.int i) H) ∨ ∃ k, xs = [.bl k] ∧ Q (.int (if k then 1 else 0)) H) ∧ VC X.K (fun xs H Q => (∃ i, xs = [.int i] ∧ Q (.int i) H) ∨ ∃ k, xs = [.bl k] ∧ Q (.int (if k then 1 else 0)) H) pInt := ⟨call_int1, fun F H ds vs Qd Q s r h k => by
  unfold pInt at h
  split at h
  · obtain ⟨v, rfl, r1⟩ := r.one
    cases r1.intI
    exact .inl ⟨_, rfl, k _ F H _ (.refl s) (.int _) h⟩
  · obtain ⟨v, rfl, r1⟩ := r.one
    cases r1.blI
    exact .inr ⟨_, rfl, k _ F H _ (.refl s) (.int _) h⟩
  · exact h.elim⟩
theorem b_max2 (hc : X.calm = true) : CallR X (.builtin "max") (fun xs H Q => ∃ i j, xs = [.int i, .int j] ∧ Q (.int (if j > i then j else i)) H) ∧ VC X.K (fun xs H Q => ∃ i j, xs = [.int i, .int j] ∧ Q (.int (if j > i then j else i)) H) pMax2 := ⟨call_max2 hc, fun F H ds vs Qd Q s r h k => by
  unfold pMax2 at h
  split at h
  · obtain ⟨v, u, rfl, r1, r2⟩ := r.two
    cases r1.intI; cases r2.intI
    exact ⟨_, _, rfl, k _ F H _ (.refl s) (.int _) h⟩
  · exact h.elim⟩
theorem b_min2 (hc : X.calm = true) : CallR X (.builtin "min") (fun xs H Q => ∃ i j, xs = [.int i, .int j] ∧ Q (.int (if j < i then j else i)) H) ∧ VC X.K (fun xs H Q => ∃ i j, xs = [.int i, .int j] ∧ Q (.int (if j < i then j else i)) H) pMin2 := ⟨call_min2 hc, fun F H ds vs Qd Q s r h k => by
  unfold pMin2 at h
  split at h
  · obtain ⟨v, u, rfl, r1, r2⟩ := r.two
    cases r1.intI; cases r2.intI
    exact ⟨_, _, rfl, k _ F H _ (.refl s) (.int _) h⟩
  · exact h.elim⟩
def rTupOf (K : PySem.W.Frag) : List V → Hp → VK → Prop := fun xs H Q => ∃ p ys, xs = [.ref p] ∧ ((SqL K H p ys ∧ ∀ l, H l = none → Q (.ref l) (upd H l (.tup ys))) ∨ (SqT K H p ys ∧ Q (.ref p) H))
theorem b_tuple : CallR X (.type "tuple") (rTupOf X.K) ∧ VC X.K (rTupOf X.K) pTuple := ⟨call_tuple_of, fun F H ds vs Qd Q s r h k => by
  unfold pTuple at h
  split at h
  · obtain ⟨v, rfl, r1⟩ := r.one
    obtain ⟨a, us, rfl, h1, h2⟩ := r1.tupI
    exact ⟨a, us, rfl, .inr ⟨sameT s h1, k _ F H _ (.refl s) r1 h⟩⟩
  · obtain ⟨v, rfl, r1⟩ := r.one
    obtain ⟨a, us, rfl, h1, h2⟩ := r1.lstI
    refine ⟨a, us, rfl, .inl ⟨s.seq h1, fun p hp => ?_⟩⟩
    have x2 : Ext F H (upd F p (.tup us)) (upd H p (.tup us)) := Ext.new s hp
    exact k _ _ _ _ x2 (.tup (.of upd_same) (h2.mono x2.f)) h
  · exact h.elim⟩
theorem bls_of : ∀ {xs : List D} {b : Bool} {F : Hp} {vs : List V}, allB xs = some b → RpL K F xs vs → ∃ bs : List Bool, vs = bs.map V.bl ∧ bs.all id = b
  | [], b, _, _, h, r => by
    simp only [RpL] at r; subst r
    simp [allB] at h
    exact ⟨[], rfl, by simp [h]⟩
  | x :: xs, b, F, vs, h, r => by
    obtain ⟨v, us, rfl, r1, r2⟩ := r.inv
    cases x with
    | bl c =>
      simp only [allB, Option.map_eq_some_iff] at h
      obtain ⟨d, h, rfl⟩ := h
      obtain ⟨bs, rfl, e⟩ := bls_of h r2
      exact ⟨c :: bs, by rw [r1.blI]; rfl, by simp [e]⟩
    | _ => simp [allB] at h
theorem blsy_of : ∀ {xs : List D} {b : Bool} {F : Hp} {vs : List V}, anyB xs = some b → RpL K F xs vs → ∃ bs : List Bool, vs = bs.map V.bl ∧ bs.any id = b
  | [], b, _, _, h, r => by
    simp only [RpL] at r; subst r
    simp [anyB] at h
    exact ⟨[], rfl, by simp [h]⟩
  | x :: xs, b, F, vs, h, r => by
    obtain ⟨v, us, rfl, r1, r2⟩ := r.inv
    cases x with
    | bl c =>
      simp only [anyB, Option.map_eq_some_iff] at h
      obtain ⟨d, h, rfl⟩ := h
      obtain ⟨bs, rfl, e⟩ := blsy_of h r2
      exact ⟨c :: bs, by rw [r1.blI]; rfl, by simp [e]⟩
    | _ => simp [anyB] at h
theorem b_all (hc : X.calm = true) : CallR X (.builtin "all") (rAll X.K) ∧ VC X.K (rAll X.K) pAllL := ⟨cr_all hc, fun F H ds vs Qd Q s r h k => by
  unfold pAllL at h
  split at h
  · obtain ⟨v, rfl, r1⟩ := r.one
    obtain ⟨a, us, rfl, h1, h2⟩ := r1.lstI
    obtain ⟨b, e, h⟩ := h
    obtain ⟨bs, rfl, e2⟩ := bls_of e h2
    exact ⟨a, bs, rfl, s.seq h1, by rw [e2]; exact k _ F H _ (.refl s) (.bl _) h⟩
  · exact h.elim⟩
theorem b_any (hc : X.calm = true) : CallR X (.builtin "any") (rAny X.K) ∧ VC X.K (rAny X.K) pAnyL := ⟨cr_any hc, fun F H ds vs Qd Q s r h k => by
  unfold pAnyL at h
  split at h
  · obtain ⟨v, rfl, r1⟩ := r.one
    obtain ⟨a, us, rfl, h1, h2⟩ := r1.lstI
    obtain ⟨b, e, h⟩ := h
    obtain ⟨bs, rfl, e2⟩ := blsy_of e h2
    exact ⟨a, bs, rfl, s.seq h1, by rw [e2]; exact k _ F H _ (.refl s) (.bl _) h⟩
  · exact h.elim⟩
theorem ints_of_sum : ∀ {xs : List D} {n : Int} {F : Hp} {vs : List V}, sumD xs = some n → RpL K F xs vs → ∃ ns : List Int, vs = ns.map V.int ∧ ns.sum = n
  | [], b, _, _, h, r => by
    simp only [RpL] at r; subst r
    simp [sumD] at h
    exact ⟨[], rfl, by simp [h]⟩
  | x :: xs, b, F, vs, h, r => by
    obtain ⟨v, us, rfl, r1, r2⟩ := r.inv
    cases x with
    | int c =>
      simp only [sumD, Option.map_eq_some_iff] at h
      obtain ⟨d, h, rfl⟩ := h
      obtain ⟨bs, rfl, e⟩ := ints_of_sum h r2
      exact ⟨c :: bs, by rw [r1.intI]; rfl, by simp [e]⟩
    | _ => simp [sumD] at h
theorem b_sum (hc : X.calm = true) : CallR X (.builtin "sum") (rSum X.K) ∧ VC X.K (rSum X.K) pSumL := ⟨cr_sum hc, fun F H ds vs Qd Q s r h k => by
  unfold pSumL at h
  split at h
  · obtain ⟨v, rfl, r1⟩ := r.one
    obtain ⟨a, us, rfl, h1, h2⟩ := r1.lstI
    obtain ⟨b, e, h⟩ := h
    obtain ⟨bs, rfl, e2⟩ := ints_of_sum e h2
    exact ⟨a, bs, rfl, s.seq h1, by rw [e2]; exact k _ F H _ (.refl s) (.int _) h⟩
  · exact h.elim⟩

/-! isinstance -/
def Ty.nm : Ty → String
  | .int => "int" | .bool => "bool" | .str => "str" | .tuple => "tuple" | .list => "list"
inductive Kd | non | bl | int | str | tup | lst
def Kd.nm : Kd → String
  | .non => "NoneType" | .bl => "bool" | .int => "int" | .str => "str" | .tup => "tuple" | .lst => "list"
def D.kd : D → Kd
  | .non => .non | .bl _ => .bl | .int _ => .int | .str _ => .str | .tup _ => .tup | .lst _ => .lst
def Kd.isTy : Kd → Ty → Bool
  | .int, .int => true
  | .bl, .int => true
  | .bl, .bool => true
  | .str, .str => true
  | .tup, .tuple => true
  | .lst, .list => true
  | _, _ => false
theorem isTy_kd (d : D) (t : Ty) : d.kd.isTy t = isTy d t := by cases d <;> cases t <;> rfl
theorem kit_tab (d : Kd) (t : Ty) : kitB d.nm t.nm = some (d.isTy t) := by
  cases d <;> cases t <;> decide +kernel
theorem tyx_of {F H : Hp} {d : D} {v : V} (s : Same F H) (r : Rp K F d v) : TyX K H v (.type d.kd.nm) := by
  cases d with
  | non => cases r.nonI; exact .base .non
  | bl b => cases r.blI; exact .base (.bl b)
  | int b => cases r.intI; exact .base (.int b)
  | str b => cases r.strI; exact .base (.str b)
  | tup xs =>
    obtain ⟨a, us, rfl, h1, _⟩ := r.tupI
    rcases sameT s h1 with (h | ⟨o, h⟩) | ⟨o, its, n, h, hc, _⟩
    · exact .base (.tup h)
    · exact .fTuple h
    · exact .kTuple h hc
  | lst xs =>
    obtain ⟨a, us, rfl, h1, _⟩ := r.lstI
    rcases s.seq h1 with (h | ⟨o, h⟩) | ⟨o, its, n, h, hc, _⟩
    · exact .base (.lst h)
    · exact .base (.frz h)
    · exact .kList h hc
theorem q_isI {a : Expr} {ta : Ex} {pos p p2 : Pos} {x : Str} (t : Ty) (ha : QE X a ta) (hm : X.mg "isinstance" = none) (hmx : X.mg x = none) (hv : bootBuiltins x = some (.type t.nm)) (hg : Gl X "isinstance" := by rfl) (hgx : Gl X x := by rfl) (hnx : x ≠ "__name__" := by decide) (hdx : (x == ("__debug__" : Str)) = false := by decide)
    (he : starEach [a, .Name x p2] X.env = (false, eval a X.env) :: starEach [.Name x p2] X.env := by rfl) (hpl : (backTo pos (starEach [.Name x p2] X.env)).any (·.1) = false := by rfl)
    (hs : starEach [.Name x p2] X.env = (false, eval (.Name x p2) X.env) :: starEach [] X.env := by rfl) : QE X (.Call (.Name "isinstance" p) [a, .Name x p2] [] pos) (eIsI t ta) :=
  imp_PE (pe_callB call_isi hg hm (by decide +kernel) (pa_cons ha (pa_cons (pe_bltn (v := .ty t.nm) hgx hmx hv rfl hnx hdx) pa_nil hs) he) (by decide) (by decide) he hpl) fun σ H Q h => by
    obtain ⟨F0, B, F, δ, Qd, S, h, k⟩ := h
    refine ⟨F0, B, F, δ, _, S, h, fun v F1 H1 d x1 r1 q1 => ?_⟩
    exact ⟨v, _, _, _, _, rfl, .ty _, tyx_of x1.s r1, kit_ty (kit_tab d.kd t), by rw [isTy_kd]; exact k _ F1 H1 _ x1 (.bl _) q1⟩

/-! slices -/
theorem sIx_eq (n d : Nat) (o : Option Int) : HT.sIx n d o = sIx n d o := by
  cases o with
  | none => rfl
  | some v => unfold sIx HT.sIx; first | rfl | (split <;> omega)
def lftO (K : PySem.W.Frag) (t : Pt) : TO := fun σ H Q => ∃ F0 B F δ Qd, SR K F0 B F H σ δ ∧ t δ Qd ∧ ∀ o F' H', Ext F H F' H' → Qd o → Q o H'
theorem imp_PO {e : Option Expr} {t t' : TO} (h : PO X e t) (i : ∀ σ H Q, t' σ H Q → t σ H Q) : PO X e t' := by
  obtain ⟨h⟩ := h
  exact ⟨fun pins s σ H Q I hq => h pins s σ H Q I (i _ _ _ hq)⟩
theorem qo_none : PO X none (lftO X.K oNo) := imp_PO po_none fun σ H Q h => by
  obtain ⟨F0, B, F, δ, Qd, S, h, k⟩ := h
  exact k none F H (.refl S.ext.s) h
theorem qo_some {e : Expr} {t : Ex} (h : QE X e t) : PO X (some e) (lftO X.K (oSome t)) := imp_PO (po_some h) fun σ H Q h => by
  obtain ⟨F0, B, F, δ, Qd, S, h, k⟩ := h
  refine ⟨F0, B, F, δ, _, S, h, fun v F1 H1 d x1 r1 q1 => ?_⟩
  cases d with
  | int i => exact ⟨i, r1.intI, k _ F1 H1 x1 q1⟩
  | _ => exact q1.elim
theorem RpL.cut {F : Hp} {xs : List D} {vs : List V} (h : RpL K F xs vs) (l u : Option Int) : RpL K F (cutD xs l u) (cutV vs l u) := by
  unfold cutD cutV
  simp only [sIx_eq, h.len]
  exact (h.drop _).take _
theorem q_slice {e : Expr} {lo hi : Option Expr} {t : Ex} {tl th : Pt} {pos p2 : Pos} (he : QE X e t) (hl : PO X lo (lftO X.K tl)) (hu : PO X hi (lftO X.K th)) : QE X (.Subscript e (.Slice lo hi none p2) pos) (eSlice t tl th) :=
  imp_PE (pe_slice (sl_tupA.or sl_list) he hl hu) fun σ H Q h => by
    obtain ⟨F0, B, F, δ, Qd, S, h, k⟩ := h
    refine ⟨F0, B, F, δ, _, S, h, fun v F1 H1 d x1 r1 q1 => ⟨F0, B, F1, δ, _, S.mono x1, q1, fun l F2 H2 x2 q2 => ⟨F0, B, F2, δ, _, (S.mono x1).mono x2, q2, fun u F3 H3 x3 q3 => ?_⟩⟩⟩
    have x13 := (x1.trans x2).trans x3
    have r3 := r1.mono (x2.f.trans x3.f)
    cases d with
    | tup xs =>
      obtain ⟨a, vs, rfl, h1, h2⟩ := r3.tupI
      refine .inl ⟨a, vs, rfl, sameT x3.s h1, fun hw => ?_, fun _ p hp => ?_⟩
      · have hc : cutD xs l u = xs := by
          obtain ⟨w1, w2⟩ := hw
          simp only [sIx_eq, h2.len] at w1 w2
          unfold cutD
          rw [w1, w2]
          simp
        have q3 : Qd (.tup (cutD xs l u)) := q3
        rw [hc] at q3
        exact k _ F3 H3 _ x13 (.tup h1 h2) q3
      · have x4 : Ext F3 H3 (upd F3 p (.tup (cutV vs l u))) (upd H3 p (.tup (cutV vs l u))) := Ext.new x3.s hp
        exact k _ _ _ _ (x13.trans x4) (.tup (.of upd_same) ((h2.cut l u).mono x4.f)) q3
    | lst xs =>
      obtain ⟨a, vs, rfl, h1, h2⟩ := r3.lstI
      refine .inr ⟨a, vs, rfl, x3.s.seq h1, fun p hp => ?_⟩
      have x4 : Ext F3 H3 (upd F3 p (.lst (cutV vs l u))) (upd H3 p (.lst (cutV vs l u))) := Ext.new x3.s hp
      exact k _ _ _ _ (x13.trans x4) (.lst (.of upd_same) ((h2.cut l u).mono x4.f)) q3
    | _ => exact q3.elim
end
end PL

set_option Elab.async false
set_option linter.all false
set_option maxRecDepth 100000
namespace PL
open PySem PySem.Spec PyProof.Rows L2

/-! ### statements as readings -/
structure EnR (K : PySem.W.Frag) (F0 B F : Hp) (E : En) (D : Ends) : Prop where
  nx : ∀ F' H' σ' δ', Same F F' → SR K F0 B F' H' σ' δ' → E.nx δ' → D.nx σ' H'
  bk : ∀ F' H' σ' δ', Same F F' → SR K F0 B F' H' σ' δ' → E.bk δ' → D.bk σ' H'
  ct : ∀ F' H' σ' δ', Same F F' → SR K F0 B F' H' σ' δ' → E.ct δ' → D.ct σ' H'
  rt : ∀ F' H' v d, Same F F' → Ext F0 B F' H' → Rp K F' d v → E.rt d → D.rt v H'
theorem EnR.mono {K : PySem.W.Frag} {F0 B F F1 : Hp} {E : En} {D : Ends} (h : EnR K F0 B F E D) (s : Same F F1) : EnR K F0 B F1 E D :=
  ⟨fun F' H' σ' δ' e => h.nx F' H' σ' δ' (s.trans e), fun F' H' σ' δ' e => h.bk F' H' σ' δ' (s.trans e), fun F' H' σ' δ' e => h.ct F' H' σ' δ' (s.trans e), fun F' H' v d e => h.rt F' H' v d (s.trans e)⟩
def lftS (K : PySem.W.Frag) (t : Sm) : TS := fun D σ H => ∃ F0 B F δ E, SR K F0 B F H σ δ ∧ t E δ ∧ EnR K F0 B F E D
abbrev QS (X : Cx) (s : Stmt) (t : Sm) : Prop := PS X s (lftS X.K t)
abbrev QSs (X : Cx) (s : List Stmt) (t : Sm) : Prop := PSs X s (lftS X.K t)
section
variable {X : Cx} {s : Stmt} {rest : List Stmt} {e : Expr} {a b : Sm} {te : Ex} {pos : Pos}
theorem qs_nil : QSs X [] sNil := imp_PSs pss_nil fun D σ H h => by
  obtain ⟨F0, B, F, δ, E, S, h, k⟩ := h
  exact k.nx F H σ δ (.refl _) S h
theorem qs_one (h : QS X s a) : QSs X [s] a := pss_one h
theorem qs_cons (h1 : QS X s a) (h2 : QSs X rest b) : QSs X (s :: rest) (sSeq a b) := imp_PSs (pss_cons h1 h2) fun D σ H h => by
  obtain ⟨F0, B, F, δ, E, S, h, k⟩ := h
  exact ⟨F0, B, F, δ, { E with nx := Nxt (b E) }, S, h, ⟨fun F' H' σ' δ' e S' h' => ⟨F0, B, F', δ', E, S', h', k.mono e⟩, k.bk, k.ct, k.rt⟩⟩
theorem qs_ret (he : QE X e te) : QS X (.Return (some e) pos) (sRet te) := imp_PS (ps_ret he) fun D σ H h => by
  obtain ⟨F0, B, F, δ, E, S, h, k⟩ := h
  exact ⟨F0, B, F, δ, _, S, h, fun v F' H' d x1 r1 q1 => k.rt F' H' v d x1.f (S.ext.trans x1) r1 q1⟩
theorem qs_retN : QS X (.Return none pos) sRetN := imp_PS ps_retN fun D σ H h => by
  obtain ⟨F0, B, F, δ, E, S, h, k⟩ := h
  exact k.rt F H _ _ (.refl _) S.ext .non h
theorem qs_brk : QS X (.Break pos) sBrk := imp_PS ps_break fun D σ H h => by
  obtain ⟨F0, B, F, δ, E, S, h, k⟩ := h
  exact k.bk F H σ δ (.refl _) S h
theorem qs_cnt : QS X (.Continue pos) sCnt := imp_PS ps_continue fun D σ H h => by
  obtain ⟨F0, B, F, δ, E, S, h, k⟩ := h
  exact k.ct F H σ δ (.refl _) S h
theorem qs_pass : QS X (.Pass pos) sNil := imp_PS ps_pass fun D σ H h => by
  obtain ⟨F0, B, F, δ, E, S, h, k⟩ := h
  exact k.nx F H σ δ (.refl _) S h
theorem qs_expr (he : QE X e te) (hs : swapsWith e none pos.line X.env = pure false := by rfl) : QS X (.Expr e pos) (sDrop te) := imp_PS (ps_expr he hs) fun D σ H h => by
  obtain ⟨F0, B, F, δ, E, S, h, k⟩ := h
  exact ⟨F0, B, F, δ, _, S, h, fun v F' H' d x1 r1 q1 => k.nx F' H' σ δ x1.f (S.mono x1) q1⟩
theorem qs_if {c : Expr} {p q : List Stmt} {t : Ts} (hc : QT X c t) (ha : QSs X p a) (hb : QSs X q b) : QS X (.If c p q pos) (sIf t a b) := imp_PS (ps_if hc ha hb) fun D σ H h => by
  obtain ⟨F0, B, F, δ, E, S, h, k⟩ := h
  refine ⟨F0, B, F, δ, _, S, h, fun c F1 H1 x1 q1 => ?_⟩
  cases c with
  | true =>
    have q1 : a E δ := by simpa using q1
    exact iteT ⟨F0, B, F1, δ, E, S.mono x1, q1, k.mono x1.f⟩
  | false =>
    have q1 : b E δ := by simpa using q1
    exact iteF ⟨F0, B, F1, δ, E, S.mono x1, q1, k.mono x1.f⟩
/-- a slot's list is given up ahead of the statement -/
theorem qs_frz (i : Nat) (h : QS X s a) : QS X s (sFrz i a) := imp_PS h fun D σ H h => by
  obtain ⟨F0, B, F, δ, E, S, h, k⟩ := h
  obtain ⟨F', x1, sF, S'⟩ := S.frz i
  exact ⟨F0, B, F', _, E, S', h, k.mono sF⟩
end

/-! ### slots forgotten -/
theorem SR.fgt1 {K : PySem.W.Frag} {F0 B F H : Hp} {σ : L2.St} {δ : PSt} (S : SR K F0 B F H σ δ) (i : Nat) : SR K F0 B F H σ (st δ i .no) := by
  have h := S.setNo (i := i) (o := (σ[i]?).getD none)
  have e : σ.set i ((σ[i]?).getD none) = σ := by
    apply List.ext_getElem?
    intro j
    by_cases hj : i = j
    · subst hj
      by_cases hl : i < σ.length
      · rw [List.getElem?_set_self hl, List.getElem?_eq_getElem hl]; rfl
      · rw [List.getElem?_eq_none (by simpa using hl), List.getElem?_eq_none (by omega)]
    · rw [List.getElem?_set_ne hj]
  rw [e] at h
  exact h
theorem SR.fgt {K : PySem.W.Frag} {F0 B F H : Hp} {σ : L2.St} {δ : PSt} (S : SR K F0 B F H σ δ) : ∀ vs : List Nat, SR K F0 B F H σ (wp δ vs)
  | [] => S
  | v :: vs => (S.fgt vs).fgt1 v
theorem qs_cut {X : Cx} {s : Stmt} {rest : List Stmt} {a b : Sm} (vs : List Nat) (h1 : QS X s a) (h2 : QSs X rest b) : QSs X (s :: rest) (sCut vs a b) := imp_PSs (pss_cons h1 h2) fun D σ H h => by
  obtain ⟨F0, B, F, δ, E, S, ⟨J, h, hJ⟩, k⟩ := h
  exact ⟨F0, B, F, δ, _, S, h, ⟨fun F' H' σ' δ' e S' h' => ⟨F0, B, F', _, E, S'.fgt vs, hJ _ h', k.mono e⟩, k.bk, k.ct, k.rt⟩⟩
theorem qs_fgt {X : Cx} {s : Stmt} {a : Sm} (vs : List Nat) (h : QS X s a) : QS X s (sFgt vs a) := imp_PS h fun D σ H h => by
  obtain ⟨F0, B, F, δ, E, S, h, k⟩ := h
  exact ⟨F0, B, F, _, E, S.fgt vs, h, k⟩
theorem qss_end {X : Cx} {s : List Stmt} {a : Sm} (vs : List Nat) (h : QSs X s a) : QSs X s (sEnd vs a) := imp_PSs h fun D σ H h => by
  obtain ⟨F0, B, F, δ, E, S, h, k⟩ := h
  exact ⟨F0, B, F, δ, _, S, h, fun F' H' σ' δ' e S' h' => k.nx F' H' σ' _ e (S'.fgt vs) h', k.bk, fun F' H' σ' δ' e S' h' => k.ct F' H' σ' _ e (S'.fgt vs) h', k.rt⟩

/-! ### targets -/
theorem wipe_set {σ : L2.St} {i : Nat} {o : Option V} : ∀ {vs : List Nat}, vs.contains i = true → wipe (σ.set i o) vs = wipe σ vs
  | [], h => by simp at h
  | v :: vs, h => by
    unfold wipe
    by_cases hi : vs.contains i = true
    · rw [wipe_set hi]
    · have e : v = i := by
        simp at h hi
        rcases h with h | h
        · exact h.symm
        · exact absurd h hi
      subst e
      have key : ∀ (us : List Nat), us.contains v = false → wipe (σ.set v o) us = (wipe σ us).set v o := by
        intro us
        induction us with
        | nil => intro _; rfl
        | cons u us ih =>
          intro hu
          simp at hu
          unfold wipe
          rw [ih (by simpa using hu.2), List.set_comm _ _ (fun z => hu.1 z)]
      rw [key vs (by simpa using hi), List.set_set]
def lftG (K : PySem.W.Frag) (t : Tgt) : TG := fun v σ H Q => ∃ F0 B F δ d P, SR K F0 B F H σ δ ∧ Rp K F d v ∧ tg t d δ P ∧
  ∀ σ' δ', SR K F0 B F H σ' δ' → (∀ vs, t.inn vs = true → wipe σ' vs = wipe σ vs) → P δ' → Q σ' H
def lftGs (K : PySem.W.Frag) (ts : List Tgt) : TGs := fun us σ H Q => ∃ F0 B F δ ds P, SR K F0 B F H σ δ ∧ RpL K F ds us ∧ tgL ts ds δ P ∧
  ∀ σ' δ', SR K F0 B F H σ' δ' → (∀ vs, Tgt.innL vs ts = true → wipe σ' vs = wipe σ vs) → P δ' → Q σ' H
theorem imp_PG {X : Cx} {e : Expr} {t t' : TG} (h : PG X e t) (i : ∀ v σ H Q, t' v σ H Q → t v σ H Q) : PG X e t' := ⟨fun pins s σ H v u Q I r hq => h.run pins s σ H v u Q I r (i _ _ _ _ hq)⟩
theorem imp_PGs {X : Cx} {e : List Expr} {t t' : TGs} (h : PGs X e t) (i : ∀ v σ H Q, t' v σ H Q → t v σ H Q) : PGs X e t' := ⟨fun pins s σ H v u Q I r hq => h.run pins s σ H v u Q I r (i _ _ _ _ hq)⟩
abbrev QG (X : Cx) (e : Expr) (t : Tgt) : Prop := PG X e (lftG X.K t)
abbrev QGs (X : Cx) (es : List Expr) (ts : List Tgt) : Prop := PGs X es (lftGs X.K ts)
mutual
theorem tg_ex : ∀ (t : Tgt) (d : D) (δ : PSt) (Q : PSt → Prop), tg t d δ Q → ∃ δ', Q δ'
  | .nm i, d, δ, Q, h => ⟨_, by simpa only [tg] using h⟩
  | .tp ts, .tup xs, δ, Q, h => tgL_ex ts xs δ Q (by simpa only [tg] using h)
  | .tp _, .non, _, _, h => by simp [tg] at h
  | .tp _, .bl _, _, _, h => by simp [tg] at h
  | .tp _, .int _, _, _, h => by simp [tg] at h
  | .tp _, .str _, _, _, h => by simp [tg] at h
  | .tp _, .lst _, _, _, h => by simp [tg] at h
theorem tgL_ex : ∀ (ts : List Tgt) (xs : List D) (δ : PSt) (Q : PSt → Prop), tgL ts xs δ Q → ∃ δ', Q δ'
  | [], [], δ, Q, h => ⟨δ, by simpa only [tgL] using h⟩
  | t :: ts, x :: xs, δ, Q, h => by
    simp only [tgL] at h
    obtain ⟨δ', h'⟩ := tg_ex t x δ _ h
    exact tgL_ex ts xs δ' Q h'
  | [], _ :: _, _, _, h => by simp [tgL] at h
  | _ :: _, [], _, _, h => by simp [tgL] at h
end
theorem tgL_len : ∀ {ts : List Tgt} {xs : List D} {δ : PSt} {Q : PSt → Prop}, tgL ts xs δ Q → xs.length = ts.length
  | [], [], _, _, _ => rfl
  | t :: ts, x :: xs, δ, Q, h => by
    simp only [tgL] at h
    obtain ⟨δ', h'⟩ := tg_ex t x δ _ h
    simp [tgL_len h']
  | [], _ :: _, _, _, h => by simp [tgL] at h
  | _ :: _, [], _, _, h => by simp [tgL] at h
section
variable {X : Cx} {pos : Pos} {e : Expr} {es : List Expr} {t : Tgt} {ts : List Tgt}
theorem qg_name (i : Nat) {x : Str} (hN : X.N.Nodup) (hi : X.N[i]? = some x := by rfl) (hx : Loc X.env.scope x := by first | exact Or.inl rfl | exact Or.inr rfl) (hf : X.fn x = true ∨ X.env.scope.names.lookup x = some .local := by first | exact .inl rfl | exact .inr rfl | assumption) : QG X (.Name x pos) (.nm i) :=
  imp_PG (pg_name hN hi hx hf) fun v σ H Q h => by
    obtain ⟨F0, B, F, δ, d, P, S, r, h, k⟩ := h
    exact k _ _ (S.setVal r) (fun vs hv => wipe_set (by simpa [Tgt.inn] using hv)) (by simpa only [tg] using h)
theorem qgs_nil : QGs X [] [] := imp_PGs pgs_nil fun v σ H Q h => by
  obtain ⟨F0, B, F, δ, ds, P, S, r, h, k⟩ := h
  cases ds with
  | nil =>
    simp only [RpL] at r
    exact ⟨r, k σ δ S (fun _ _ => rfl) (by simpa only [tgL] using h)⟩
  | cons d ds => simp [tgL] at h
theorem qgs_cons (h1 : QG X e t) (h2 : QGs X es ts) (hs : (assignEach (e :: es) X.env).map (·.2) = assign e X.env :: (assignEach es X.env).map (·.2) := by rfl) : QGs X (e :: es) (t :: ts) :=
  imp_PGs (pgs_cons h1 h2 hs) fun us σ H Q h => by
    obtain ⟨F0, B, F, δ, ds, P, S, r, h, k⟩ := h
    cases ds with
    | nil => simp [tgL] at h
    | cons d ds =>
      obtain ⟨v, us, rfl, r1, r2⟩ := r.inv
      simp only [tgL] at h
      refine ⟨v, us, rfl, F0, B, F, δ, d, _, S, r1, h, fun σ1 δ1 S1 w1 h1 => ⟨F0, B, F, δ1, ds, P, S1, r2, h1, fun σ2 δ2 S2 w2 h2 => k σ2 δ2 S2 (fun vs hv => ?_) h2⟩⟩
      simp only [Tgt.innL, Bool.and_eq_true] at hv
      rw [w2 vs hv.2, w1 vs hv.1]
theorem qg_tup {k : Nat} (hc : X.calm = true) (h : QGs X es ts) (hn : (assignEach es X.env).length = ts.length := by rfl) (hst : (assignEach es X.env).findIdx? (·.1) = none := by rfl) : QG X (.Tuple es k pos) (.tp ts) :=
  imp_PG (pg_tup hc h hn hst) fun v σ H Q h => by
    obtain ⟨F0, B, F, δ, d, P, S, r, h, k⟩ := h
    cases d with
    | tup xs =>
      simp only [tg] at h
      obtain ⟨a, us, rfl, r1, r2⟩ := r.tupI
      exact ⟨a, us, rfl, sameT S.ext.s r1, by rw [r2.len]; exact tgL_len h, F0, B, F, δ, xs, P, S, r2, h, fun σ' δ' S' w h' => k σ' δ' S' (fun vs hv => w vs (by simpa [Tgt.inn] using hv)) h'⟩
    | _ => simp [tg] at h
end

/-! ### assignments -/
section
variable {X : Cx} {e : Expr} {te : Ex} {pos : Pos}
theorem asg_val {K : PySem.W.Frag} {i : Nat} {D : Ends} {σ : L2.St} {H : Hp} (h : lftS K (sAsg te (.nm i)) D σ H) : tAsg (lft K te) (L2.gName i) D σ H := by
  obtain ⟨F0, B, F, δ, E, S, h, k⟩ := h
  refine ⟨F0, B, F, δ, _, S, h, fun v F1 H1 d x1 r1 q1 => ?_⟩
  exact k.nx F1 H1 _ _ x1.f ((S.mono x1).setVal r1) (by simpa only [tg] using q1)
theorem asg_own {K : PySem.W.Frag} {i : Nat} {D : Ends} {σ : L2.St} {H : Hp} (h : lftS K (sOwn i te) D σ H) : tAsg (lftF K te) (L2.gName i) D σ H := by
  obtain ⟨F0, B, F, δ, E, S, h, k⟩ := h
  refine ⟨F0, B, F, δ, _, S, h, fun p xs ds F1 H1 x1 hp hF hH r1 q1 => ?_⟩
  obtain ⟨hB, _, hh⟩ := S.free hp
  have S1 := S.mono x1
  refine k.nx F1 H1 _ _ x1.f (S1.setOwn (a := p) hB hF (fun j es _ => hh j es) r1 ?_) (q1 p)
  funext b
  by_cases hb : b = p
  · subst hb; rw [upd_same]; exact hH
  · rw [upd_ne hb]
theorem qs_set (i : Nat) {x : Str} {pos' : Pos} (hN : X.N.Nodup) (he : QE X e te) (hi : X.N[i]? = some x := by rfl) (hx : Loc X.env.scope x := by first | exact Or.inl rfl | exact Or.inr rfl) (hs : swapsWith e (some (.Name x pos')) pos.line X.env = pure false := by rfl) (hf : X.fn x = true ∨ X.env.scope.names.lookup x = some .local := by first | exact .inl rfl | exact .inr rfl | assumption) :
    QS X (.Assign [.Name x pos'] e pos) (sAsg te (.nm i)) := imp_PS (ps_set hN hi hx he hs hf) fun _ _ _ => asg_val
theorem qs_own (i : Nat) {x : Str} {pos' : Pos} (hN : X.N.Nodup) (he : QF X e te) (hi : X.N[i]? = some x := by rfl) (hx : Loc X.env.scope x := by first | exact Or.inl rfl | exact Or.inr rfl) (hs : swapsWith e (some (.Name x pos')) pos.line X.env = pure false := by rfl) (hf : X.fn x = true ∨ X.env.scope.names.lookup x = some .local := by first | exact .inl rfl | exact .inr rfl | assumption) :
    QS X (.Assign [.Name x pos'] e pos) (sOwn i te) := imp_PS (ps_set hN hi hx he hs hf) fun _ _ _ => asg_own
/-- any target -/
theorem qs_asg {tgt : Expr} {t : Tgt} (he : QE X e te) (hg : QG X tgt t) (hs : swapsWithSole [tgt] e pos.line X.env = pure false := by rfl) (hw : swappedStores [tgt] e X.env = pure none := by rfl)
    (h1 : (assignEach [tgt] X.env).map (·.2) = [assign tgt X.env] := by rfl) : QS X (.Assign [tgt] e pos) (sAsg te t) := imp_PS (ps_asg he hg hs hw h1) fun D σ H h => by
  obtain ⟨F0, B, F, δ, E, S, h, k⟩ := h
  refine ⟨F0, B, F, δ, _, S, h, fun v F1 H1 d x1 r1 q1 => ?_⟩
  exact ⟨F0, B, F1, δ, d, _, S.mono x1, r1, q1, fun σ' δ' S' _ h' => k.nx F1 H1 σ' δ' x1.f S' h'⟩
/-- a, b = x, y; plain local names -/
theorem qs_par (i j : Nat) {x y : Str} {a b : Expr} {ta tb : Ex} {px py pt : Pos} {kt k2 pt2} (hc : X.calm = true) (hN : X.N.Nodup) (ha : QE X a ta) (hb : QE X b tb) (hi : X.N[i]? = some x := by rfl) (hj : X.N[j]? = some y := by rfl) (hij : i ≠ j := by decide)
    (hx : X.env.scope.names.lookup x = some .local := by rfl) (hy : X.env.scope.names.lookup y = some .local := by rfl) (hse : starEach [a, b] X.env = (false, eval a X.env) :: starEach [b] X.env := by rfl) (hse2 : starEach [b] X.env = (false, eval b X.env) :: starEach [] X.env := by rfl)
    (hw : swappedStores [.Tuple [.Name x px, .Name y py] kt pt] (.Tuple [a, b] k2 pt2) X.env = pure (some [x, y]) := by rfl)
    (hs : swapsWithSole [.Tuple [.Name x px, .Name y py] kt pt] (.Tuple [a, b] k2 pt2) pos.line X.env = pure false := by rfl) :
    QS X (.Assign [.Tuple [.Name x px, .Name y py] kt pt] (.Tuple [a, b] k2 pt2) pos) (sPar i j ta tb) :=
  imp_PS (ps_par hc hN hi hj hij hx hy (pa_cons ha (pa_cons hb pa_nil hse2) hse) hw hs) fun D σ H h => by
    obtain ⟨F0, B, F, δ, E, S, h, k⟩ := h
    refine ⟨F0, B, F, δ, _, S, h, fun v F1 H1 d x1 r1 q1 => ⟨F0, B, F1, δ, _, S.mono x1, q1, fun u F2 H2 d2 x2 r2 q2 => ⟨v, u, rfl, ?_⟩⟩⟩
    exact k.nx F2 H2 _ _ (x1.f.trans x2.f) ((((S.mono x1).mono x2).setVal (r1.mono x2.f)).setVal r2) q2
theorem qs_aug (i : Nat) {x : Str} {op : Operator} {r : R2} {p : Op2} {pos' : Pos} (ho : OpR X (inplaceOp op) r ∧ V2 X.K r p) (hN : X.N.Nodup) (he : QE X e te) (hi : X.N[i]? = some x := by rfl) (hx : Loc X.env.scope x := by first | exact Or.inl rfl | exact Or.inr rfl) (hf : X.fn x = true ∨ X.env.scope.names.lookup x = some .local := by first | exact .inl rfl | exact .inr rfl | assumption) :
    QS X (.AugAssign (.Name x pos') op e pos) (sAug i p te) := imp_PS (ps_aug (ti := r) hN hi hx he (fun pins s σ H x y v u Q I rx ry q => ho.1 pins s σ H x y v u Q I rx ry q) hf) fun D σ H h => by
  obtain ⟨F0, B, F, δ, E, S, h, k⟩ := h
  unfold sAug asVal at h
  split at h
  · rename_i d eg
    obtain ⟨v, h1, h2⟩ := S.val i d eg
    refine ⟨v, h1, F0, B, F, δ, _, S, h, fun u F1 H1 y x1 r1 q1 => ho.2 F1 H1 d y v u _ _ x1.s (h2.mono x1.f) r1 q1 fun w F' H' z x2 r2 q2 => ?_⟩
    exact k.nx F' H' _ _ (x1.f.trans x2.f) (((S.mono x1).mono x2).setVal r2) q2
  · exact h.elim
/-- x.append(e), x owned -/
theorem qs_app (i : Nat) {x : Str} {px apos : Pos} {p2 : Pos} (he : QE X e te) (hi : X.N[i]? = some x := by rfl) (hv : Vis X.env.scope x := by first | exact Or.inl rfl | exact Or.inr (Or.inl rfl) | exact Or.inr (Or.inr rfl)) (hd : (x == ("__debug__" : Str)) = false := by decide)
    (hcd : (x == ("__classdict__" : Str)) = false := by decide) (hs : swapsWith (.Call (.Attribute (.Name x px) "append" apos) [e] [] p2) none pos.line X.env = pure false := by rfl)
    (hse : starEach [e] X.env = (false, eval e X.env) :: starEach [] X.env := by rfl) (hbase : attributeBase (.Name x px) "append" X.env (eval (.Name x px) X.env) = eval (.Name x px) X.env := by rfl) (hline : (apos.endLine == p2.line) = true := by rfl)
    (hfew : (((backTo p2 (starEach [e] X.env)).all fun x => !x.fst) && ((backToKw p2 (keywordEach [] X.env)).all fun x => x.fst.isSome) && decide (([e].length + ([] : List Keyword).length + if ([] : List Keyword).isEmpty = true then 0 else 1) < 30)) = true := by rfl) :
    QS X (.Expr (.Call (.Attribute (.Name x px) "append" apos) [e] [] p2) pos) (sApp i te) :=
  imp_PS (ps_expr (pe_bm (hfew := hfew) (hline := hline) (hs := hse) PySem.F.plainAttrs_list PySem.F.slot_list_append PySem.F.type_list_append mt_append (pv i hi hv hd hcd) (pa_cons he pa_nil hse)) hs) fun D σ H h => by
    obtain ⟨F0, B, F, δ, E, S, h, k⟩ := h
    unfold sApp asOwn at h
    split at h
    · rename_i p ds eg
      obtain ⟨h1, h2, h3, xs, h4, h5⟩ := S.own i p ds eg
      refine ⟨.ref p, h1, .inl ⟨rfl, _, .of h4⟩, F0, B, F, δ, _, S, h, fun u F1 H1 y x1 r1 q1 => ?_⟩
      have h4' := x1.h _ _ h4
      have h3' : F1 p = none := x1.n p (by rw [h4]; simp) h3
      refine ⟨p, xs, u, rfl, rfl, h4', by rw [line_eq, h5.len]; exact q1.1, ?_⟩
      have S1 := S.mono x1
      have S2 := S1.setOwn (i := i) (a := p) (ds := ds ++ [y]) (xs := xs ++ [u]) h2 h3' (fun j es hj z => hj (S.nd j i p es ds z eg)) ((h5.mono x1.f).app (.cons r1 .nil)) rfl
      refine k.nx F1 _ _ _ x1.f ?_ q1.2
      have es : σ.set i (some (.ref p)) = σ := by
        apply List.ext_getElem?
        intro j
        by_cases hj : i = j
        · subst hj
          have hl : i < σ.length := by rw [S.len]; exact gt_in (by rw [eg]; simp)
          rw [List.getElem?_set_self hl, h1]
        · rw [List.getElem?_set_ne hj]
      rw [es] at S2
      exact S2
    · exact h.elim
/-- x[i] = e, x owned -/
theorem qs_sub (i : Nat) {x : Str} {b : Expr} {tb : Ex} {px spos : Pos} (he : QE X e te) (hb : QE X b tb) (hi : X.N[i]? = some x := by rfl) (hv : Vis X.env.scope x := by first | exact Or.inl rfl | exact Or.inr (Or.inl rfl) | exact Or.inr (Or.inr rfl)) (hd : (x == ("__debug__" : Str)) = false := by decide)
    (hcd : (x == ("__classdict__" : Str)) = false := by decide)
    (ha : ∀ v, assign (.Subscript (.Name x px) b spos) X.env v = (do
      let ov ← holding [v] (eval (.Name x px) X.env)
      let iv ← holding [v, ov] (eval b X.env)
      standAt spos
      holding [v, ov, iv] (setItem ov iv v)
      release [v, ov, iv] []) := by intro _; rfl)
    (hs : swapsWithSole [.Subscript (.Name x px) b spos] e pos.line X.env = pure false := by rfl) (hw : swappedStores [.Subscript (.Name x px) b spos] e X.env = pure none := by rfl)
    (h1 : (assignEach [.Subscript (.Name x px) b spos] X.env).map (·.2) = [assign (.Subscript (.Name x px) b spos) X.env] := by rfl) :
    QS X (.Assign [.Subscript (.Name x px) b spos] e pos) (sSet i tb te) :=
  imp_PS (ps_asg he (pg_sub (pv i hi hv hd hcd) hb set_list ha) hs hw h1) fun D σ H h => by
    obtain ⟨F0, B, F, δ, E, S, h, k⟩ := h
    unfold sSet asOwn at h
    split at h
    · rename_i p ds eg
      obtain ⟨g1, g2, g3, xs, g4, g5⟩ := S.own i p ds eg
      refine ⟨F0, B, F, δ, _, S, h, fun u F1 H1 y x1 r1 q1 => ⟨.ref p, g1, F0, B, F1, δ, _, S.mono x1, q1, fun w F2 H2 z x2 r2 q2 => ?_⟩⟩
      have x12 := x1.trans x2
      cases z with
      | int c =>
        obtain ⟨j, q2, q3⟩ := q2
        have g4' := x12.h _ _ g4
        have g3' : F2 p = none := x12.n p (by rw [g4]; simp) g3
        refine ⟨p, xs, c, j, rfl, r2.intI, g4', by rw [g5.len]; exact q2, ?_⟩
        have S1 := S.mono x12
        have S2 := S1.setOwn (i := i) (a := p) (ds := ds.set j y) (xs := xs.set j u) g2 g3' (fun j es hj z => hj (S.nd j i p es ds z eg)) ((g5.mono x12.f).set j (r1.mono x2.f)) rfl
        refine k.nx F2 _ _ _ x12.f ?_ q3
        have es : σ.set i (some (.ref p)) = σ := by
          apply List.ext_getElem?
          intro j
          by_cases hj : i = j
          · subst hj
            have hl : i < σ.length := by rw [S.len]; exact gt_in (by rw [eg]; simp)
            rw [List.getElem?_set_self hl, g1]
          · rw [List.getElem?_set_ne hj]
        rw [es] at S2
        exact S2
      | _ => exact q2.elim
    · exact h.elim
end
end PL

set_option Elab.async false
set_option linter.all false
set_option maxRecDepth 100000
namespace PL
open PySem PySem.Spec PyProof.Rows L2

/-! ### what is walked -/
structure ItD (K : PySem.W.Frag) (F : Hp) (J : It) (ds : List D) : Prop where
  go : ∀ i F1 H1, Same F F1 → Same F1 H1 → i < ds.length → J.go i H1
  yld : ∀ i F1 H1 x H2, Same F F1 → Same F1 H1 → i < ds.length → J.yld i H1 x H2 → ∃ F2 d, Ext F1 H1 F2 H2 ∧ ds[i]? = some d ∧ Rp K F2 d x
  stop : ∀ F1 H1, Same F F1 → Same F1 H1 → J.stop ds.length H1
def lftI (K : PySem.W.Frag) (t : Ar) : TI := fun σ H R => ∃ F0 B F δ Qd, SR K F0 B F H σ δ ∧ t δ Qd ∧ ∀ ds J F' H', Ext F H F' H' → ItD K F' J ds → Qd ds → R J H'
abbrev QI (X : Cx) (tg iter : Expr) (t : Ar) : Prop := PI X tg iter (lftI X.K t)
theorem imp_PI {X : Cx} {tg e : Expr} {t t' : TI} (h : PI X tg e t) (i : ∀ σ H R, t' σ H R → t σ H R) : PI X tg e t' := ⟨fun pins s σ H R I hq => h.run pins s σ H R I (i _ _ _ hq)⟩
section
variable {K : PySem.W.Frag} {F : Hp}
theorem itd_list {a : Addr} {xs : List V} {ds : List D} (h : SqL K F a xs) (r : RpL K F ds xs) : ItD K F (Itl K a) ds := by
  refine ⟨fun i F1 H1 s1 s2 hi => ?_, fun i F1 H1 x H2 s1 s2 hi hy => ?_, fun F1 H1 s1 s2 => ⟨xs, s2.seq (s1.seq h), by rw [r.len]; exact Nat.le_refl _⟩⟩
  · obtain ⟨v, e, _⟩ := r.get (List.getElem?_eq_getElem hi)
    exact ⟨xs, v, s2.seq (s1.seq h), e⟩
  · obtain ⟨v, e, rv⟩ := r.get (List.getElem?_eq_getElem hi)
    obtain ⟨rfl, hy⟩ := hy
    have := hy xs (s2.seq (s1.seq h))
    rw [e] at this; cases this
    exact ⟨F1, _, .refl s2, List.getElem?_eq_getElem hi, rv.mono s1⟩
theorem itd_tup {a : Addr} {xs : List V} {ds : List D} (h : SqT K F a xs) (r : RpL K F ds xs) : ItD K F (Itt K a) ds := by
  refine ⟨fun i F1 H1 s1 s2 hi => ?_, fun i F1 H1 x H2 s1 s2 hi hy => ?_, fun F1 H1 s1 s2 => ⟨xs, sameT s2 (sameT s1 h), by rw [r.len]; exact Nat.le_refl _⟩⟩
  · obtain ⟨v, e, _⟩ := r.get (List.getElem?_eq_getElem hi)
    exact ⟨xs, v, sameT s2 (sameT s1 h), e⟩
  · obtain ⟨v, e, rv⟩ := r.get (List.getElem?_eq_getElem hi)
    obtain ⟨rfl, hy⟩ := hy
    have := hy xs (sameT s2 (sameT s1 h))
    rw [e] at this; cases this
    exact ⟨F1, _, .refl s2, List.getElem?_eq_getElem hi, rv.mono s1⟩
theorem rng_len (lo : Int) (n : Nat) : (rng lo n).length = n := by simp [rng]
theorem rng_get {lo : Int} {n i : Nat} (h : i < n) : (rng lo n)[i]? = some (.int (lo + i)) := by
  unfold rng
  rw [List.getElem?_map, List.getElem?_range h]
  rfl
theorem itd_rng {lo : Int} {n : Nat} : ItD K F (Itr lo n) (rng lo n) := by
  refine ⟨fun i F1 H1 s1 s2 hi => ?_, fun i F1 H1 x H2 s1 s2 hi hy => ?_, fun F1 H1 s1 s2 => ?_⟩
  · rw [rng_len] at hi; exact hi
  · rw [rng_len] at hi
    obtain ⟨rfl, rfl⟩ := hy
    exact ⟨F1, _, .refl s2, rng_get hi, .int _⟩
  · rw [rng_len]; exact Nat.le_refl n
end
section
variable {X : Cx} {tgt e e2 : Expr} {te tb : Ex} {pos p : Pos}
/-- a list or a tuple -/
theorem qi_seq (he : QE X e te) : QI X tgt e (iSeq te) := by
  refine ⟨fun pins s σ H R I h => ?_⟩
  obtain ⟨F0, B, F, δ, Qd, S, h, k⟩ := h
  have he' : PE X e (fun σ' H' Q' => σ' = σ ∧ H' = H ∧ ∀ v F1 H1 d, Ext F H F1 H1 → Rp X.K F1 d v → asSeq d Qd → Q' v H1) :=
    imp_PE he fun σ' H' Q' hh => by
      obtain ⟨rfl, rfl, kk⟩ := hh
      exact ⟨F0, B, F, δ, _, S, h, kk⟩
  refine thn (he'.run pins s σ H _ I ⟨rfl, rfl, fun v F1 H1 d x1 r1 q1 => (show (∃ F1 d, Ext F H F1 H1 ∧ Rp X.K F1 d v ∧ asSeq d Qd) from ⟨F1, d, x1, r1, q1⟩)⟩) fun u s1 hq => ?_
  obtain ⟨v, H1, I1, rv, F1, d, x1, r1, q1⟩ := hq
  cases d with
  | tup xs =>
    obtain ⟨a, us, rfl, h1, h2⟩ := r1.tupI
    cases rv
    obtain ⟨its, rw', p', hz⟩ := I1.tuple (sameT x1.s h1)
    refine wpAny_pyIter_tuple (show s1.heap.IsTuple a its.toArray from p') ?_
    refine ⟨s1.heap.objs.size, [s1.heap.objs.size], _, _, H1, rfl, I1.kept (t' := s1.toks) fun b o e => Heap.get?_push_of_some _ e, turn_tuple a _, ⟨_, Heap.get?_push_size _ rfl, rfl, rfl⟩, fun b hb => ?_, k xs _ F1 H1 x1 (itd_tup h1 h2) q1⟩
    have e : b = s1.heap.objs.size := by simpa using hb
    subst e
    exact I1.fpOk (Nat.le_refl _) (I1.hok.fresh (Nat.le_refl _))
  | lst xs =>
    obtain ⟨a, us, rfl, h1, h2⟩ := r1.lstI
    cases rv
    obtain ⟨its, rw', p', hz⟩ := I1.list (x1.s.seq h1)
    refine wpAny_pyIter_list p'.isList ?_
    refine ⟨s1.heap.objs.size, [s1.heap.objs.size], _, _, H1, rfl, I1.kept (t' := s1.toks) fun b o e => Heap.get?_push_of_some _ e, turn_list a _, ⟨_, Heap.get?_push_size _ rfl, rfl, rfl⟩, fun b hb => ?_, k xs _ F1 H1 x1 (itd_list h1 h2) q1⟩
    have e : b = s1.heap.objs.size := by simpa using hb
    subst e
    exact I1.fpOk (Nat.le_refl _) (I1.hok.fresh (Nat.le_refl _))
  | _ => exact q1.elim
theorem qi_rng1 (hm : X.mg "range" = none) (ha : QE X e te) (hg : Gl X "range" := by rfl) (hse : starEach [e] X.env = (false, eval e X.env) :: starEach [] X.env := by rfl) (hs : starEach [e] X.env = [(false, eval e X.env)] := by rfl) : QI X tgt (.Call (.Name "range" p) [e] [] pos) (iRng1 te) :=
  imp_PI (pi_range1 hg hm (pa_cons ha pa_nil hse) hs) fun σ H R h => by
    obtain ⟨F0, B, F, δ, Qd, S, h, k⟩ := h
    refine ⟨F0, B, F, δ, _, S, h, fun v F1 H1 d x1 r1 q1 => ?_⟩
    cases d with
    | int n => exact ⟨n, by rw [r1.intI], q1.1.1, q1.1.2, k _ _ F1 H1 x1 itd_rng q1.2⟩
    | _ => exact q1.elim
theorem qi_rng2 (hm : X.mg "range" = none) (ha : QE X e te) (hb : QE X e2 tb) (hg : Gl X "range" := by rfl) (hse : starEach [e, e2] X.env = (false, eval e X.env) :: starEach [e2] X.env := by rfl) (hse2 : starEach [e2] X.env = (false, eval e2 X.env) :: starEach [] X.env := by rfl)
    (hs : starEach [e, e2] X.env = [(false, eval e X.env), (false, eval e2 X.env)] := by rfl) (hs2 : starEach [e2] X.env = [(false, eval e2 X.env)] := by rfl) : QI X tgt (.Call (.Name "range" p) [e, e2] [] pos) (iRng2 te tb) :=
  imp_PI (pi_range2 hg hm (pa_cons ha (pa_cons hb pa_nil hse2) hse) hs hs2) fun σ H R h => by
    obtain ⟨F0, B, F, δ, Qd, S, h, k⟩ := h
    refine ⟨F0, B, F, δ, _, S, h, fun v F1 H1 d x1 r1 q1 => ⟨F0, B, F1, δ, _, S.mono x1, q1, fun u F2 H2 d2 x2 r2 q2 => ?_⟩⟩
    cases d with
    | int m =>
      cases d2 with
      | int n => exact ⟨m, n, by rw [r1.intI, r2.intI], q2.1, k _ _ F2 H2 (x1.trans x2) itd_rng q2.2⟩
      | _ => exact q2.elim
    | _ => cases d2 <;> exact q2.elim
end

/-! ### for, while -/
section
variable {X : Cx} {pos : Pos}
theorem qs_for (vs : List Nat) {tgt iter : Expr} {body : List Stmt} {ti : Ar} {g : Tgt} {b : Sm} (hp : PassesOwn (model X.prog X.w) X.A X.env X.xe) (hc : X.calm = true) (hi : QI X tgt iter ti) (hg : QG X tgt g) (hb : QSs X body b)
    (hs : ∀ x, foldedSetIterable iter X.env x = pure x := by intro _; rfl) : QS X (.For tgt iter body [] pos) (sFor vs ti g b) :=
  imp_PS (ps_for hp hc hi hg hb hs) fun D σ H h => by
    obtain ⟨F0, B, F, δ, E, S, h, k⟩ := h
    refine ⟨F0, B, F, δ, _, S, h, fun ds J F1 H1 x1 it q1 => ?_⟩
    obtain ⟨I, h0, step, done⟩ := q1
    refine ⟨fun i m σ' H' => i + m = ds.length ∧ ∃ F' δ', Same F1 F' ∧ SR X.K F0 B F' H' σ' δ' ∧ I i δ', ⟨ds.length, Nat.zero_add _, F1, _, .refl _, (S.mono x1).fgt vs, h0⟩, ?_⟩
    rintro i m σ' H' ⟨hm, F', δ', sF, S', hI⟩
    cases m with
    | zero =>
      have e : i = ds.length := by omega
      subst e
      exact .inl ⟨it.stop F' H' sF S'.ext.s, k.nx F' H' σ' δ' (x1.f.trans sF) S' (done δ' hI)⟩
    | succ m =>
      have hi : i < ds.length := by omega
      refine .inr ⟨it.go i F' H' sF S'.ext.s hi, fun σ2 H2 => ∃ F2 δ2, Same F1 F2 ∧ SR X.K F0 B F2 H2 σ2 δ2 ∧ I (i + 1) δ2, fun σ2 H2 ⟨F2, δ2, s2, S2, h2⟩ => ⟨m, Nat.lt_succ_self _, by omega, F2, δ2, s2, S2, h2⟩, fun x H2 hy => ?_⟩
      obtain ⟨F2, d, x2, ed, rd⟩ := it.yld i F' H' x H2 sF S'.ext.s hi hy
      have key := step i d δ' ed hI
      refine ⟨F0, B, F2, δ', d, _, S'.mono x2, rd, key, fun σ3 δ3 S3 _ h3 => ⟨F0, B, F2, δ3, _, S3, h3, ?_⟩⟩
      have s12 : Same F1 F2 := sF.trans x2.f
      exact ⟨fun F4 H4 σ4 δ4 s4 S4 h4 => ⟨F4, δ4, s12.trans s4, S4, h4⟩, fun F4 H4 σ4 δ4 s4 S4 h4 => k.nx F4 H4 σ4 δ4 ((x1.f.trans s12).trans s4) S4 h4,
        fun F4 H4 σ4 δ4 s4 S4 h4 => ⟨F4, δ4, s12.trans s4, S4, h4⟩, fun F4 H4 v d s4 e4 r4 h4 => k.rt F4 H4 v d ((x1.f.trans s12).trans s4) e4 r4 h4⟩
theorem qs_while {c : Expr} {body : List Stmt} {t : Ts} {b : Sm} (hp : PassesOwn (model X.prog X.w) X.A X.env X.xe) (hc : QT X c t) (hb : QSs X body b) : QS X (.While c body [] pos) (sWhile t b) :=
  imp_PS (ps_while hp hc hb) fun D σ H h => by
    obtain ⟨F0, B, F, δ, E, S, ⟨I, ⟨n0, h0⟩, step⟩, k⟩ := h
    refine ⟨fun n σ' H' => ∃ F' δ', Same F F' ∧ SR X.K F0 B F' H' σ' δ' ∧ I n δ', ⟨n0, F, δ, .refl _, S, h0⟩, ?_⟩
    rintro n σ' H' ⟨F', δ', sF, S', hI⟩
    refine ⟨F0, B, F', δ', _, S', step n δ' hI, fun c F1 H1 x1 q1 => ?_⟩
    cases c with
    | true =>
      rw [if_pos rfl] at q1
      refine iteT ⟨fun σ2 H2 => ∃ F2 δ2, Same F F2 ∧ SR X.K F0 B F2 H2 σ2 δ2 ∧ ∃ n', n' < n ∧ I n' δ2, fun σ2 H2 ⟨F2, δ2, s2, S2, n', hl, h2⟩ => ⟨n', hl, F2, δ2, s2, S2, h2⟩, F0, B, F1, δ', _, S'.mono x1, q1, ?_⟩
      have s12 : Same F F1 := sF.trans x1.f
      exact ⟨fun F4 H4 σ4 δ4 s4 S4 h4 => ⟨F4, δ4, s12.trans s4, S4, h4⟩, fun F4 H4 σ4 δ4 s4 S4 h4 => k.nx F4 H4 σ4 δ4 (s12.trans s4) S4 h4,
        fun F4 H4 σ4 δ4 s4 S4 h4 => ⟨F4, δ4, s12.trans s4, S4, h4⟩, fun F4 H4 v d s4 e4 r4 h4 => k.rt F4 H4 v d (s12.trans s4) e4 r4 h4⟩
    | false =>
      rw [if_neg Bool.false_ne_true] at q1
      exact iteF (k.nx F1 H1 σ' δ' (sF.trans x1.f) (S'.mono x1) q1)
end

/-! ### list comprehensions -/
theorem wipe_idem {τ : L2.St} {vs : List Nat} (h : ∀ u ∈ vs, ∀ x, τ[u]? ≠ some (some x)) : ∀ us : List Nat, (∀ u ∈ us, u ∈ vs) → L2.wipe τ us = τ
  | [], _ => rfl
  | u :: us, hu => by
    unfold L2.wipe
    rw [wipe_idem h us fun z hz => hu z (List.mem_cons_of_mem _ hz)]
    apply List.ext_getElem?
    intro j
    by_cases hj : u = j
    · subst hj
      by_cases hl : u < τ.length
      · rw [List.getElem?_set_self hl]
        cases q : τ[u]? with
        | none => rw [List.getElem?_eq_none_iff] at q; omega
        | some o =>
          cases o with
          | none => rfl
          | some v => exact absurd q (h u (hu u List.mem_cons_self) v)
      · rw [List.getElem?_eq_none (by simpa using hl), List.getElem?_eq_none (by omega)]
    · rw [List.getElem?_set_ne hj]
theorem SR.wipe {K : PySem.W.Frag} {F0 B F H : Hp} {σ : L2.St} {δ : PSt} (S : SR K F0 B F H σ δ) : ∀ vs : List Nat, SR K F0 B F H (L2.wipe σ vs) (wp δ vs)
  | [] => S
  | v :: vs => by
    unfold L2.wipe wp
    exact (S.wipe vs).setNo
section
variable {X : Cx}
theorem qts_nil : PTs X [] (lftT X.K tYes) := ⟨fun _ _ _ H _ I h => by
  obtain ⟨F0, B, F, δ, Qd, S, h, k⟩ := h
  exact wpAny_tests_nil ⟨H, I, k true F H (.refl S.ext.s) h⟩⟩
theorem qts_one {c : Expr} {t : Ts} (h : QT X c t) : PTs X [c] (lftT X.K t) := pts_one h
theorem lft_lc {K : PySem.W.Frag} {ti : Ar} {g : Tgt} {t : Ts} {e : Ex} {vs : List Nat} (hv : g.inn vs = true) {σ : L2.St} {H : Hp} {Q : VK} (h : lftF K (eLc ti vs g t e) σ H Q) : tLc (lftI K ti) (lftG K g) (lftT K t) (lft K e) vs σ H Q := by
  obtain ⟨F0, B, F, δ, Qd, S, h, k⟩ := h
  refine ⟨F0, B, F, δ, _, S, h, fun ds J F1 H1 x1 it q1 p hp => ?_⟩
  obtain ⟨hlen, I, h0, step, done⟩ := q1
  have hF1 : F1 p = none := x1.s.free hp
  refine ⟨fun i m H' => i + m = ds.length ∧ ∃ F' acc us, Ext F1 H1 F' H' ∧ F' p = none ∧ H' p = some (.lst us) ∧ RpL K F' acc us ∧ I i acc ∧ acc.length ≤ i, ⟨ds.length, Nat.zero_add _, F1, [], [], ⟨.refl _, upd_same_of hp, x1.s.trans (upd_same_of hp), fun _ _ q => q⟩, hF1, upd_same, .nil, h0, Nat.le_refl _⟩, ?_⟩
  rintro i m H' ⟨hm, F', acc, us, x2, hF', hH', ra, hI, hacc⟩
  cases m with
  | zero =>
    have e : i = ds.length := by omega
    subst e
    exact .inl ⟨it.stop F' H' x2.f x2.s, k p us acc F' H' (x1.trans x2) (x1.h.free hp) hF' hH' ra (done acc hI)⟩
  | succ m =>
    have hi : i < ds.length := by omega
    refine .inr ⟨it.go i F' H' x2.f x2.s hi, fun H2 => ∃ F2 acc2 us2, Ext F1 H1 F2 H2 ∧ F2 p = none ∧ H2 p = some (.lst us2) ∧ RpL K F2 acc2 us2 ∧ I (i + 1) acc2 ∧ acc2.length ≤ i + 1,
      fun H2 ⟨F2, acc2, us2, a1, a2, a3, a4, a5, a6⟩ => ⟨m, Nat.lt_succ_self _, by omega, F2, acc2, us2, a1, a2, a3, a4, a5, a6⟩, fun x H2 hy => ?_⟩
    obtain ⟨F2, d, x3, ed, rd⟩ := it.yld i F' H' x H2 x2.f x2.s hi hy
    have x23 := x2.trans x3
    have nF2 : F2 p = none := x3.n p (by rw [hH']; simp) hF'
    have S2 : SR K F0 B F2 H2 (L2.wipe σ vs) (wp δ vs) := (S.mono (x1.trans x23)).wipe vs
    refine ⟨F0, B, F2, wp δ vs, d, _, S2, rd, step i d acc ed hI, fun σ3 δ3 S3 w3 h3 => ⟨?_, ?_⟩⟩
    · have := w3 vs hv
      rw [this]
      exact wipe_idem (fun u hu x z => absurd hu (wipe_some z).2) vs fun _ h => h
    · refine ⟨F0, B, F2, δ3, _, S3, h3, fun c F3 H3 x4 q3 => ?_⟩
      have x234 := x23.trans x4
      have nF3 : F3 p = none := x4.n p (by rw [x3.h _ _ hH']; simp) nF2
      have hH3 := x4.h _ _ (x3.h _ _ hH')
      cases c with
      | true =>
        rw [if_pos rfl] at q3
        refine iteT ⟨F0, B, F3, δ3, _, S3.mono x4, q3, fun y F4 H4 z x5 rz q5 => ?_⟩
        have x2345 := x234.trans x5
        have nF4 : F4 p = none := x5.n p (by rw [hH3]; simp) nF3
        have hH4 := x5.h _ _ hH3
        have ra4 : RpL K F4 acc us := ra.mono (x3.f.trans (x4.f.trans x5.f))
        refine ⟨us, hH4, by rw [line_eq, ra.len]; show acc.length < 16777216; omega, F4, acc ++ [z], us ++ [y], ⟨x2345.f, fun b o e => ?_, fun b o e => ?_, x2345.n⟩, nF4, upd_same, ra4.app (.cons rz .nil), q5, by rw [List.length_append, List.length_singleton]; omega⟩
        · rw [upd_ne (ne_of_none e hp)]; exact x2345.h b o e
        · rw [upd_ne (ne_of_none e nF4)]; exact x5.s b o e
      | false =>
        rw [if_neg Bool.false_ne_true] at q3
        exact iteF ⟨F3, acc, us, x234, nF3, hH3, ra.mono (x3.f.trans x4.f), q3, by omega⟩
theorem qf_lc {elt tgt iter : Expr} {ifs : List Expr} {scope : Scope} {own : List (Str × Nat)} {pos : Pos} {ti : Ar} {g : Tgt} {t : Ts} {e : Ex} (hc : X.calm = true) (hN : X.N.Nodup) (hi : QI X tgt iter ti) (ok : BlkOk X.N X.env.scope scope own) (hv : g.inn (own.map (·.2)) = true)
    (hg : ∀ (s : Shared) (H : Hp) (C : Addr) (cl : List (Str × Addr)) (fp : List Addr), QG (X.blk s H scope (compEnvC scope cl C X.env) fp) tgt g) (ht : ∀ (s : Shared) (H : Hp) (C : Addr) (cl : List (Str × Addr)) (fp : List Addr), PTs (X.blk s H scope (compEnvC scope cl C X.env) fp) ifs (lftT X.K t))
    (he : ∀ (s : Shared) (H : Hp) (C : Addr) (cl : List (Str × Addr)) (fp : List Addr), QE (X.blk s H scope (compEnvC scope cl C X.env) fp) elt e) (hs : ∀ x, foldedSetIterable iter X.env x = pure x := by intro _; rfl) :
    QF X (.ListComp elt [⟨tgt, iter, ifs, 0⟩] scope pos) (eLc ti (own.map (·.2)) g t e) :=
  imp_PE (pe_lc hc hN hi ok hg ht he hs) fun _ _ _ => lft_lc hv
theorem qs_ownLc (i : Nat) {y : Str} {py : Pos} {elt tgt iter : Expr} {ifs : List Expr} {scope : Scope} {own : List (Str × Nat)} {pos spos : Pos} {ti : Ar} {g : Tgt} {t : Ts} {e : Ex} (hc : X.calm = true) (hN : X.N.Nodup) (hi : QI X tgt iter ti) (ok : BlkOk X.N X.env.scope scope own) (hv : g.inn (own.map (·.2)) = true)
    (hg : ∀ (s : Shared) (H : Hp) (C : Addr) (cl : List (Str × Addr)) (fp : List Addr), QG (X.blk s H scope (compEnvC scope cl C X.env) fp) tgt g) (ht : ∀ (s : Shared) (H : Hp) (C : Addr) (cl : List (Str × Addr)) (fp : List Addr), PTs (X.blk s H scope (compEnvC scope cl C X.env) fp) ifs (lftT X.K t))
    (he : ∀ (s : Shared) (H : Hp) (C : Addr) (cl : List (Str × Addr)) (fp : List Addr), QE (X.blk s H scope (compEnvC scope cl C X.env) fp) elt e)
    (hy : X.N[i]? = some y := by rfl) (hyl : X.env.scope.names.lookup y = some .local := by rfl) (hsw : swapsWith (.ListComp elt [⟨tgt, iter, ifs, 0⟩] scope pos) (some (.Name y py)) spos.line X.env = pure true := by exact sw_true rfl rfl rfl (by decide +kernel)) (hs : ∀ x, foldedSetIterable iter X.env x = pure x := by intro _; rfl) :
    QS X (.Assign [.Name y py] (.ListComp elt [⟨tgt, iter, ifs, 0⟩] scope pos) spos) (sOwn i (eLc ti (own.map (·.2)) g t e)) :=
  imp_PS (ps_setLc hc hN hy hyl hsw hi ok hg ht he hs) fun D σ H h => lft_lc hv (asg_own h)
theorem qs_setLc (i : Nat) {y : Str} {py : Pos} {elt tgt iter : Expr} {ifs : List Expr} {scope : Scope} {own : List (Str × Nat)} {pos spos : Pos} {ti : Ar} {g : Tgt} {t : Ts} {e : Ex} (hc : X.calm = true) (hN : X.N.Nodup) (hi : QI X tgt iter ti) (ok : BlkOk X.N X.env.scope scope own) (hv : g.inn (own.map (·.2)) = true)
    (hg : ∀ (s : Shared) (H : Hp) (C : Addr) (cl : List (Str × Addr)) (fp : List Addr), QG (X.blk s H scope (compEnvC scope cl C X.env) fp) tgt g) (ht : ∀ (s : Shared) (H : Hp) (C : Addr) (cl : List (Str × Addr)) (fp : List Addr), PTs (X.blk s H scope (compEnvC scope cl C X.env) fp) ifs (lftT X.K t))
    (he : ∀ (s : Shared) (H : Hp) (C : Addr) (cl : List (Str × Addr)) (fp : List Addr), QE (X.blk s H scope (compEnvC scope cl C X.env) fp) elt e)
    (hy : X.N[i]? = some y := by rfl) (hyl : X.env.scope.names.lookup y = some .local := by rfl) (hsw : swapsWith (.ListComp elt [⟨tgt, iter, ifs, 0⟩] scope pos) (some (.Name y py)) spos.line X.env = pure true := by exact sw_true rfl rfl rfl (by decide +kernel)) (hs : ∀ x, foldedSetIterable iter X.env x = pure x := by intro _; rfl) :
    QS X (.Assign [.Name y py] (.ListComp elt [⟨tgt, iter, ifs, 0⟩] scope pos) spos) (sAsg (eLc ti (own.map (·.2)) g t e) (.nm i)) :=
  imp_PS (ps_setLc hc hN hy hyl hsw hi ok hg ht he hs) fun D σ H h => lft_lc hv (lft_lftF (asg_val h))
end

/-! ### a def -/
theorem gt_app_left : ∀ {a b : List Sl} {i : Nat}, i < a.length → gt (a ++ b) i = gt a i
  | [], _, _, h => by simp at h
  | _ :: _, _, 0, _ => rfl
  | _ :: r, b, i + 1, h => gt_app_left (a := r) (by simpa using h)
theorem gt_app_right : ∀ {a b : List Sl} {i : Nat}, a.length ≤ i → gt (a ++ b) i = gt b (i - a.length)
  | [], _, _, _ => rfl
  | _ :: r, b, i + 1, h => by
    show gt (r ++ b) i = _
    rw [gt_app_right (a := r) (by simpa using h)]
    simp
theorem gt_map : ∀ {ds : List D} {i : Nat} {d : D}, gt (ds.map Sl.val) i = .val d → ds[i]? = some d
  | [], _, _, h => by simp [gt] at h
  | x :: _, 0, d, h => by
    have h : Sl.val x = .val d := h
    cases h; rfl
  | _ :: r, i + 1, d, h => by simpa using gt_map (ds := r) (i := i) h
theorem gt_map_own : ∀ {ds : List D} {i : Nat} {a : Nat} {es : List D}, gt (ds.map Sl.val) i ≠ .own a es
  | [], _, _, _ => by simp [gt]
  | _ :: _, 0, _, _ => by simp
  | _ :: r, i + 1, a, es => gt_map_own (ds := r) (i := i)
theorem gt_rep : ∀ {n i : Nat}, gt (List.replicate n .no) i = .no
  | 0, _ => rfl
  | n + 1, 0 => rfl
  | n + 1, i + 1 => by rw [List.replicate_succ]; exact gt_rep (n := n)
theorem SR.start {K : PySem.W.Frag} {F H : Hp} {N : List Str} {vs : List V} {ds : List D} (s : Same F H) (r : RpL K F ds vs) (hl : vs.length ≤ N.length) : SR K F H F H (L2.start N vs) (startP N.length ds) := by
  have e := r.len
  have own0 : ∀ i a es, gt (startP N.length ds) i ≠ .own a es := fun i a es h => by
    unfold startP at h
    by_cases hi : i < (ds.map Sl.val).length
    · rw [gt_app_left hi] at h; exact gt_map_own h
    · rw [gt_app_right (by omega), gt_rep] at h; cases h
  refine ⟨.refl s, ?_, fun i d h => ?_, fun i a es h => absurd h (own0 i a es), fun i j a es fs h => absurd h (own0 i a es)⟩
  · unfold L2.start startP
    simp only [List.length_append, List.length_map, List.length_replicate]
    omega
  · unfold startP at h
    by_cases hi : i < (ds.map Sl.val).length
    · rw [gt_app_left hi] at h
      obtain ⟨v, h1, h2⟩ := r.get (gt_map h)
      refine ⟨v, ?_, h2⟩
      unfold L2.start
      rw [List.getElem?_append_left (by rw [List.length_map]; rw [List.length_map] at hi; omega), List.getElem?_map, h1]
      rfl
    · rw [gt_app_right (by omega), gt_rep] at h; cases h
/-- THE RULE for a def of the text: its body's walk, and the pure side's proof -/
theorem q_def {P : Program} {w : World} {K : PySem.W.Frag} {mg : Str → Option Value} {base : Heap} {x qual : Str} {st : Stmt} {f : Addr} {fd : FuncData} {N ps : List Str} {k : Nat} {pm : Pm} {b : Sm} (F : Fun K x qual st f fd) (S : FnScope N ps (defScope st)) (n : Nat) (hn : N.length = n)
    (len : ∀ ds Q, pm ds Q → ds.length = ps.length)
    (walk : ∀ (cdv : Value) (A : Around) (outer : List Env) (s : Shared) (H : Hp) (E : XK), Room k (A.deeper (envOfC qual (defScope st) s.heap.objs.size f cdv)) → QSs (cxOf CX0 P w K mg base N qual (defScope st) f cdv A outer s H E).nox (defBody st) b)
    (pure_ : ∀ ds Q, pm ds Q → b (endsOf Q) (startP n ds)) : FnOk P w K mg base CX0 (k + 1) f fd ps (lsp K pm) := by
  subst hn
  refine F.ok S (fun vs H Q E h => ?_) fun cdv A outer s H vs Q E hr h => ?_
  · obtain ⟨F, ds, Qd, _, r, h, _⟩ := h
    rw [r.len]; exact len ds Qd h
  · obtain ⟨F1, ds, Qd, sF, r, h, kk⟩ := h
    have hpl : ps.length ≤ N.length := by have := congrArg List.length S.pre; rw [List.length_take] at this; omega
    refine ⟨_, walk cdv A outer s H E hr, F1, H, F1, startP N.length ds, endsOf Qd, SR.start sF r (by rw [r.len, len ds Qd h]; exact hpl), pure_ ds Qd h, fun F' H' σ' δ' s1 S1 h1 => kk _ _ _ _ S1.ext .non h1, fun F' H' σ' δ' s1 S1 h1 => h1.elim, fun F' H' σ' δ' s1 S1 h1 => h1.elim, fun F' H' v d s1 e1 r1 h1 => kk v F' H' d e1 r1 h1⟩
end PL

set_option Elab.async false
set_option linter.all false
set_option maxRecDepth 100000
namespace PL
open PySem PySem.Spec PyProof.Rows L2

/-- the built-in names that the text leaves alone -/
structure Bi (mg : Str → Option Value) : Prop where
  abs : mg "abs" = none
  all : mg "all" = none
  any : mg "any" = none
  enumerate : mg "enumerate" = none
  int : mg "int" = none
  isinstance : mg "isinstance" = none
  len : mg "len" = none
  list : mg "list" = none
  max : mg "max" = none
  min : mg "min" = none
  range : mg "range" = none
  reversed : mg "reversed" = none
  set : mg "set" = none
  sorted : mg "sorted" = none
  str : mg "str" = none
  sum : mg "sum" = none
  tuple : mg "tuple" = none
  type : mg "type" = none
  zip : mg "zip" = none
  bool : mg "bool" = none
  dict : mg "dict" = none

def FdAt (K : PySem.W.Frag) (f : Addr) (fd : FuncData) : Prop := ∃ oc od osl, K.lookup f = some ⟨oc, od, .func fd, osl⟩
theorem fdat {K : PySem.W.Frag} {x qual : Str} {st : Stmt} {f : Addr} {fd : FuncData} (F : Fun K x qual st f fd) : FdAt K f fd := by
  obtain ⟨oc, od, kV, doc, pm, an, cdv, ct, osl, _, lk, _⟩ := F.ex
  exact ⟨_, _, _, lk⟩
/-- a def that is there and keeps a pure promise -/
def Cal (P : Program) (w : World) (K : PySem.W.Frag) (mg : Str → Option Value) (base : Heap) (x : Str) (k : Nat) (ps : List Str) (pm : Pm) : Prop :=
  ∃ f fd, FnOk P w K mg base CX0 k f fd ps (lsp K pm) ∧ mg x = some (.ref f) ∧ PySem.W.keepIn K (.ref f) = true ∧ L2.Binds K fd ps [] ∧ FdAt K f fd
theorem q_callC {X : Cx} {e : Expr} {es : List Expr} {pos p : Pos} {x : Str} {k : Nat} {ps : List Str} {pm : Pm} {t : Ar} (C : Cal X.prog X.w X.K X.mg X.base x k ps pm) (hr : Room k X.A) (ha : QA X (e :: es) t) (hg : Gl X x := by rfl)
    (hdb : (x == ("__debug__" : Str)) = false := by decide) (he : starEach (e :: es) X.env = (false, eval e X.env) :: starEach es X.env := by rfl) (hpl : (backTo pos (starEach es X.env)).any (·.1) = false := by rfl) :
    QE X (.Call (.Name x p) (e :: es) [] pos) (eCall pm t) := by
  obtain ⟨f, fd, F, hm, hk, hb, _⟩ := C
  exact q_call F hr hm hk hb ha hg hdb he hpl
theorem q_callC0 {X : Cx} {pos p : Pos} {x : Str} {k : Nat} {ps : List Str} {pm : Pm} (C : Cal X.prog X.w X.K X.mg X.base x k ps pm) (hr : Room k X.A) (hg : Gl X x := by rfl)
    (hdb : (x == ("__debug__" : Str)) = false := by decide) : QE X (.Call (.Name x p) [] [] pos) (eCall pm aNil) := by
  obtain ⟨f, fd, F, hm, hk, hb, _⟩ := C
  exact q_call0 F hr hm hk hb hg hdb
section
variable {P : Program} {w : World} {K : PySem.W.Frag} {mg : Str → Option Value} {base : Heap} {x : Str} {k : Nat} {ps : List Str} {pm pm' : Pm} {f : Addr} {fd : FuncData}
theorem cal_zero (hm : mg x = some (.ref f)) (hk : PySem.W.keepIn K (.ref f) = true) (hb : L2.Binds K fd ps []) (hf : FdAt K f fd) (z : ∀ ds Q, pm ds Q → False) : Cal P w K mg base x k ps pm := by
  refine ⟨f, fd, ⟨fun vs H Q E h => ?_, fun A outer s H args us vs Q E _ _ _ _ h => ?_⟩, hm, hk, hb, hf⟩
  · obtain ⟨F, ds, Qd, _, _, h, _⟩ := h
    exact (z _ _ h).elim
  · obtain ⟨F, ds, Qd, _, _, h, _⟩ := h
    exact (z _ _ h).elim
theorem Cal.imp (C : Cal P w K mg base x k ps pm) (h : ∀ ds Q, pm' ds Q → pm ds Q) : Cal P w K mg base x k ps pm' := by
  obtain ⟨f, fd, F, a, b, c⟩ := C
  refine ⟨f, fd, F.imp fun vs H Q E q => ?_, a, b, c⟩
  obtain ⟨F, ds, Qd, s, r, q, kk⟩ := q
  exact ⟨F, ds, Qd, s, r, h _ _ q, kk⟩
theorem cal_fn {st : Stmt} {qual : Str} (C : Cal P w K mg base x k ps pm) (hm : mg x = some (.ref f)) (F : Fun K x qual st f fd) : FnOk P w K mg base CX0 k f fd ps (lsp K pm) := by
  obtain ⟨f', fd', G, hm', _, _, _, _, _, lk'⟩ := C
  rw [hm] at hm'
  cases hm'
  obtain ⟨oc, od, kV, doc, pm, an, cdv, ct, osl, _, lk, _⟩ := F.ex
  rw [lk] at lk'
  cases lk'
  exact G
end

/-- the law's own promise -/
theorem law_start {K : PySem.W.Frag} {a : Addr} {ns : List Int} {H : Hp} {E : XK} {n : Nat} (hl : ns.length ≤ n) (hn : n = 63) (hS : SqL K H a (ns.map V.int)) : lsp K pLaw [.ref a] H (fun v _ => v = .bl true) E := by
  subst hn
  refine ⟨H, [.lst (ns.map .int)], fun d => d = .bl true, .refl _, .cons (.lst hS (RpL.ints ns)) .nil, ⟨ns, rfl, hl, rfl⟩, fun v F' H' d x1 r q => ?_⟩
  subst q
  exact r.blI

/-! ### owned lists read in place -/
section
variable {X : Cx} {pos p : Pos}
theorem k_addI : OpR X (inplaceOp .Add) (rI0 fun i j => .int (i + j)) ∧ V2 X.K (rI0 fun i j => .int (i + j)) oAddI := ⟨iop_add, v2I0 fun x y Q h => by
  cases x <;> cases y <;> first | exact h.elim | exact ⟨_, _, rfl, rfl, h⟩⟩
theorem q_lenS (hm : X.mg "len" = none) (i : Nat) {x : Str} {px : Pos} (hi : X.N[i]? = some x := by rfl) (hv : Vis X.env.scope x := by first | exact Or.inl rfl | exact Or.inr (Or.inl rfl) | exact Or.inr (Or.inr rfl)) (hd : (x == ("__debug__" : Str)) = false := by decide)
    (hcd : (x == ("__classdict__" : Str)) = false := by decide) (hg : Gl X "len" := by rfl) (he : starEach [.Name x px] X.env = (false, eval (.Name x px) X.env) :: starEach [] X.env := by rfl) : QE X (.Call (.Name "len" p) [.Name x px] [] pos) (eLenS i) :=
  imp_PE (pe_callB call_len hg hm (by decide +kernel) (pa_cons (pv i hi hv hd hcd) pa_nil he) (by decide) (by decide) he rfl) fun σ H Q h => by
    obtain ⟨F0, B, F, δ, Qd, S, h, k⟩ := h
    unfold eLenS asOwn at h
    split at h
    · rename_i a ds eg
      obtain ⟨h1, h2, h3, xs, h4, h5⟩ := S.own i a ds eg
      exact ⟨.ref a, h1, _, _, rfl, .inl ⟨xs, .of h4, rfl⟩, by rw [h5.len]; exact k _ F H _ (.refl S.ext.s) (.int _) h⟩
    · exact h.elim
theorem q_tupleS (hm : X.mg "tuple" = none) (i : Nat) {x : Str} {px : Pos} (hi : X.N[i]? = some x := by rfl) (hv : Vis X.env.scope x := by first | exact Or.inl rfl | exact Or.inr (Or.inl rfl) | exact Or.inr (Or.inr rfl)) (hd : (x == ("__debug__" : Str)) = false := by decide)
    (hcd : (x == ("__classdict__" : Str)) = false := by decide) (hg : Gl X "tuple" := by rfl) (he : starEach [.Name x px] X.env = (false, eval (.Name x px) X.env) :: starEach [] X.env := by rfl) : QE X (.Call (.Name "tuple" p) [.Name x px] [] pos) (eTupleS i) :=
  imp_PE (pe_callTy call_tuple_of hg hm (by decide +kernel) (pa_cons (pv i hi hv hd hcd) pa_nil he) (by decide) (by decide) he rfl) fun σ H Q h => by
    obtain ⟨F0, B, F, δ, Qd, S, h, k⟩ := h
    unfold eTupleS asOwn at h
    split at h
    · rename_i a ds eg
      obtain ⟨h1, h2, h3, xs, h4, h5⟩ := S.own i a ds eg
      refine ⟨.ref a, h1, a, xs, rfl, .inl ⟨.of h4, fun p hp => ?_⟩⟩
      have x2 : Ext F H (upd F p (.tup xs)) (upd H p (.tup xs)) := Ext.new S.ext.s hp
      exact k _ _ _ _ x2 (.tup (.of upd_same) (h5.mono x2.f)) h
    · exact h.elim
theorem qf_list {e : Expr} {te : Ex} (hm : X.mg "list" = none) (ha : QE X e te) (hg : Gl X "list" := by rfl) (he : starEach [e] X.env = (false, eval e X.env) :: starEach [] X.env := by rfl) : QF X (.Call (.Name "list" p) [e] [] pos) (eCall pList (aCons te aNil)) :=
  imp_PE (pe_callTy call_list_of hg hm (by decide +kernel) (pa_cons ha pa_nil he) (by decide) (by decide) he rfl) fun σ H Q h => by
    obtain ⟨F0, B, F, δ, Qd, S, h, k⟩ := h
    refine ⟨F0, B, F, δ, _, S, h, fun v F1 H1 d x1 r1 q1 => ?_⟩
    have key : ∀ (ds : List D) (a : Addr) (xs : List V), (SqL X.K H1 a xs ∨ SqT X.K H1 a xs) → RpL X.K F1 ds xs → Qd (.lst ds) → v = .ref a → ∃ p ys, [v] = [V.ref p] ∧ (SqL X.K H1 p ys ∨ SqT X.K H1 p ys) ∧ ∀ l, H1 l = none → Q (.ref l) (upd H1 l (.lst ys)) := by
      intro ds a xs hs hr hq e
      subst e
      refine ⟨a, xs, rfl, hs, fun l hl => ?_⟩
      have sH : Same H1 (upd H1 l (.lst xs)) := upd_same_of hl
      exact k l xs ds F1 _ ⟨x1.f, x1.h.trans sH, x1.s.trans sH, x1.n⟩ (x1.h.free hl) (x1.s.free hl) upd_same hr hq
    cases d with
    | tup xs =>
      obtain ⟨a, us, e, h1, h2⟩ := r1.tupI
      exact key xs a us (.inr (sameT x1.s h1)) h2 q1 e
    | lst xs =>
      obtain ⟨a, us, e, h1, h2⟩ := r1.lstI
      exact key xs a us (.inl (x1.s.seq h1)) h2 q1 e
    | _ => exact q1.elim
end
end PL

set_option linter.all false
/-! PLL: tools for the pure side. -/
namespace PL
open PySem
theorem ite_ff {α : Sort _} {a b : α} : (if (false = true) then a else b) = b := by simp
theorem rng_eq (lo : Int) (n : Nat) : rng lo n = (List.range n).map fun (k : Nat) => D.int (lo + k) := rfl
theorem rng_length (lo : Int) (n : Nat) : (rng lo n).length = n := by simp [rng]
theorem rng_at {lo : Int} {n i : Nat} {d : D} (h : (rng lo n)[i]? = some d) : i < n ∧ d = .int (lo + i) := by
  unfold rng at h
  rw [List.getElem?_map] at h
  by_cases hi : i < n
  · rw [List.getElem?_range hi] at h
    exact ⟨hi, (Option.some.inj h).symm⟩
  · rw [List.getElem?_eq_none (by simpa using hi)] at h; cases h
theorem mem_rng {lo : Int} {n : Nat} {d : D} (h : d ∈ rng lo n) : ∃ k : Nat, k < n ∧ d = .int (lo + k) := by
  unfold rng at h
  obtain ⟨k, hk, rfl⟩ := List.mem_map.mp h
  exact ⟨k, List.mem_range.mp hk, rfl⟩

/-! what pw uses -/
theorem asVal_ {d : D} {Q : D → Prop} : asVal (.val d) Q = Q d := rfl
theorem asOwn_ {a : Nat} {ds : List D} {Q : Nat → List D → Prop} : asOwn (.own a ds) Q = Q a ds := rfl
theorem asB_ {b : Bool} {Q : Bool → Prop} : asB (.bl b) Q = Q b := rfl
theorem asI_ {i : Int} {Q : Int → Prop} : asI (.int i) Q = Q i := rfl
theorem asSeq_t {xs : List D} {Q : List D → Prop} : asSeq (.tup xs) Q = Q xs := rfl
theorem asSeq_l {xs : List D} {Q : List D → Prop} : asSeq (.lst xs) Q = Q xs := rfl
theorem asLst_ {xs : List D} {Q : List D → Prop} : asLst (.lst xs) Q = Q xs := rfl
theorem frzS_ {a : Nat} {ds : List D} : frzS (.own a ds) = .val (.lst ds) := rfl
theorem truD_b {b : Bool} {Q : Bool → Prop} : truD (.bl b) Q = Q b := rfl
theorem truD_i {b : Int} {Q : Bool → Prop} : truD (.int b) Q = Q (b != 0) := rfl
theorem truD_n {Q : Bool → Prop} : truD .non Q = Q false := rfl
theorem truD_t {b : List D} {Q : Bool → Prop} : truD (.tup b) Q = Q (!b.isEmpty) := rfl
theorem truD_l {b : List D} {Q : Bool → Prop} : truD (.lst b) Q = Q (!b.isEmpty) := rfl
theorem truD_s {x : Str} {Q : Bool → Prop} : truD (.str x) Q = (x.length ≤ 16777216 ∧ Q ((x.length : Int) != 0)) := rfl
theorem oAdd_ii {i j : Int} {Q : D → Prop} : oAdd (.int i) (.int j) Q = Q (.int (i + j)) := rfl
theorem oAddI_ii {i j : Int} {Q : D → Prop} : oAddI (.int i) (.int j) Q = Q (.int (i + j)) := rfl
theorem oSub_ii {i j : Int} {Q : D → Prop} : oSub (.int i) (.int j) Q = Q (.int (i - j)) := rfl
theorem oMul_ii {i j : Int} {Q : D → Prop} : oMul (.int i) (.int j) Q = (MulB i j ∧ Q (.int (i * j))) := rfl
theorem oFdiv_ii {i j : Int} {Q : D → Prop} : oFdiv (.int i) (.int j) Q = ((0 < j ∧ j < 2 ^ 64) ∧ Q (.int (i / j))) := rfl
theorem oFdivN_ii {i j : Int} {Q : D → Prop} : oFdivN (.int i) (.int j) Q = ((j ≠ 0 ∧ -1073741824 < j ∧ j < 1073741824) ∧ Q (.int (Int.fdiv i j))) := rfl
theorem oMod_ii {i j : Int} {Q : D → Prop} : oMod (.int i) (.int j) Q = (0 < j ∧ Q (.int (i % j))) := rfl
theorem oModN_ii {i j : Int} {Q : D → Prop} : oModN (.int i) (.int j) Q = (j ≠ 0 ∧ Q (.int (Int.fmod i j))) := rfl
theorem oPow_ii {i j : Int} {Q : D → Prop} : oPow (.int i) (.int j) Q = ((0 ≤ j ∧ j ≤ 1000000 ∧ -(2 ^ 64) < i ∧ i < 2 ^ 64) ∧ Q (.int (i ^ j.toNat))) := rfl
theorem oLt_ii {i j : Int} {Q : D → Prop} : oLt (.int i) (.int j) Q = Q (.bl (decide (i < j))) := rfl
theorem oLe_ii {i j : Int} {Q : D → Prop} : oLe (.int i) (.int j) Q = Q (.bl (decide (i ≤ j))) := rfl
theorem oGt_ii {i j : Int} {Q : D → Prop} : oGt (.int i) (.int j) Q = Q (.bl (decide (j < i))) := rfl
theorem oGe_ii {i j : Int} {Q : D → Prop} : oGe (.int i) (.int j) Q = Q (.bl (decide (j ≤ i))) := rfl
theorem oAdd_tt {x y : List D} {Q : D → Prop} : oAdd (.tup x) (.tup y) Q = (x.length + y.length ≤ 16777216 ∧ Q (.tup (x ++ y))) := rfl
theorem oAdd_ll {x y : List D} {Q : D → Prop} : oAdd (.lst x) (.lst y) Q = (x.length + y.length ≤ 16777216 ∧ Q (.lst (x ++ y))) := rfl
theorem oAdd_ss {x y : Str} {Q : D → Prop} : oAdd (.str x) (.str y) Q = (x.length + y.length ≤ 16777216 ∧ Q (.str (x ++ y))) := rfl
theorem oNeg_i {i : Int} {Q : D → Prop} : oNeg (.int i) Q = Q (.int (-i)) := rfl
theorem oIx_t {xs : List D} {i : Int} {Q : D → Prop} : oIx (.tup xs) (.int i) Q = atD xs i Q := rfl
theorem oIx_l {xs : List D} {i : Int} {Q : D → Prop} : oIx (.lst xs) (.int i) Q = atD xs i Q := rfl
theorem oIx_s {x : Str} {i : Int} {Q : D → Prop} : oIx (.str x) (.int i) Q = (x.length ≤ 16777216 ∧ ∃ j c, ixP x.cps.toList.length i = some j ∧ x.cps.toList[j]? = some c ∧ Q (.str ⟨#[c]⟩)) := rfl
theorem oCut_t {xs : List D} {l h : Option Int} {Q : D → Prop} : oCut (.tup xs) l h Q = Q (.tup (cutD xs l h)) := rfl
theorem oCut_l {xs : List D} {l h : Option Int} {Q : D → Prop} : oCut (.lst xs) l h Q = Q (.lst (cutD xs l h)) := rfl
theorem pLen_t {xs : List D} {Q : D → Prop} : pLen [.tup xs] Q = Q (.int xs.length) := rfl
theorem pLen_l {xs : List D} {Q : D → Prop} : pLen [.lst xs] Q = Q (.int xs.length) := rfl
theorem pLen_s {x : Str} {Q : D → Prop} : pLen [.str x] Q = (x.length ≤ 16777216 ∧ Q (.int x.length)) := rfl
theorem pAbs_ {i : Int} {Q : D → Prop} : pAbs [.int i] Q = Q (.int (if i < 0 then -i else i)) := rfl
theorem pInt_i {i : Int} {Q : D → Prop} : pInt [.int i] Q = Q (.int i) := rfl
theorem pInt_b {b : Bool} {Q : D → Prop} : pInt [.bl b] Q = Q (.int (if b then 1 else 0)) := rfl
theorem pMax2_ {i j : Int} {Q : D → Prop} : pMax2 [.int i, .int j] Q = Q (.int (if j > i then j else i)) := rfl
theorem pMin2_ {i j : Int} {Q : D → Prop} : pMin2 [.int i, .int j] Q = Q (.int (if j < i then j else i)) := rfl
theorem pTuple_t {xs : List D} {Q : D → Prop} : pTuple [.tup xs] Q = Q (.tup xs) := rfl
theorem pTuple_l {xs : List D} {Q : D → Prop} : pTuple [.lst xs] Q = Q (.tup xs) := rfl
theorem pList_t {xs : List D} {Q : D → Prop} : pList [.tup xs] Q = Q (.lst xs) := rfl
theorem pList_l {xs : List D} {Q : D → Prop} : pList [.lst xs] Q = Q (.lst xs) := rfl
theorem pAllL_ {xs : List D} {Q : D → Prop} : pAllL [.lst xs] Q = (∃ b, allB xs = some b ∧ Q (.bl b)) := rfl
theorem pAnyL_ {xs : List D} {Q : D → Prop} : pAnyL [.lst xs] Q = (∃ b, anyB xs = some b ∧ Q (.bl b)) := rfl
theorem pSumL_ {xs : List D} {Q : D → Prop} : pSumL [.lst xs] Q = (∃ n, sumD xs = some n ∧ Q (.int n)) := rfl
theorem isTy_nint  : isTy .non .int = false := rfl
theorem isTy_nbool  : isTy .non .bool = false := rfl
theorem isTy_nstr  : isTy .non .str = false := rfl
theorem isTy_ntuple  : isTy .non .tuple = false := rfl
theorem isTy_nlist  : isTy .non .list = false := rfl
theorem isTy_bint {b : Bool} : isTy (.bl b) .int = true := rfl
theorem isTy_bbool {b : Bool} : isTy (.bl b) .bool = true := rfl
theorem isTy_bstr {b : Bool} : isTy (.bl b) .str = false := rfl
theorem isTy_btuple {b : Bool} : isTy (.bl b) .tuple = false := rfl
theorem isTy_blist {b : Bool} : isTy (.bl b) .list = false := rfl
theorem isTy_iint {i : Int} : isTy (.int i) .int = true := rfl
theorem isTy_ibool {i : Int} : isTy (.int i) .bool = false := rfl
theorem isTy_istr {i : Int} : isTy (.int i) .str = false := rfl
theorem isTy_ituple {i : Int} : isTy (.int i) .tuple = false := rfl
theorem isTy_ilist {i : Int} : isTy (.int i) .list = false := rfl
theorem isTy_sint {x : Str} : isTy (.str x) .int = false := rfl
theorem isTy_sbool {x : Str} : isTy (.str x) .bool = false := rfl
theorem isTy_sstr {x : Str} : isTy (.str x) .str = true := rfl
theorem isTy_stuple {x : Str} : isTy (.str x) .tuple = false := rfl
theorem isTy_slist {x : Str} : isTy (.str x) .list = false := rfl
theorem isTy_tint {xs : List D} : isTy (.tup xs) .int = false := rfl
theorem isTy_tbool {xs : List D} : isTy (.tup xs) .bool = false := rfl
theorem isTy_tstr {xs : List D} : isTy (.tup xs) .str = false := rfl
theorem isTy_ttuple {xs : List D} : isTy (.tup xs) .tuple = true := rfl
theorem isTy_tlist {xs : List D} : isTy (.tup xs) .list = false := rfl
theorem isTy_lint {xs : List D} : isTy (.lst xs) .int = false := rfl
theorem isTy_lbool {xs : List D} : isTy (.lst xs) .bool = false := rfl
theorem isTy_lstr {xs : List D} : isTy (.lst xs) .str = false := rfl
theorem isTy_ltuple {xs : List D} : isTy (.lst xs) .tuple = false := rfl
theorem isTy_llist {xs : List D} : isTy (.lst xs) .list = true := rfl
theorem tg_nm {i : Nat} {d : D} {δ : PSt} {Q : PSt → Prop} : tg (.nm i) d δ Q = Q (st δ i (.val d)) := rfl
theorem tg_tp {ts : List Tgt} {xs : List D} {δ : PSt} {Q : PSt → Prop} : tg (.tp ts) (.tup xs) δ Q = tgL ts xs δ Q := by simp only [tg]
theorem tgL_nil {δ : PSt} {Q : PSt → Prop} : tgL [] [] δ Q = Q δ := by simp only [tgL]
theorem tgL_cons {t : Tgt} {ts : List Tgt} {x : D} {xs : List D} {δ : PSt} {Q : PSt → Prop} : tgL (t :: ts) (x :: xs) δ Q = tg t x δ fun δ' => tgL ts xs δ' Q := by simp only [tgL]
theorem shp_n {n : Nat}  : shp n .non = true := by cases n <;> simp only [shp]
theorem shp_b {n : Nat} {b : Bool} : shp n (.bl b) = true := by cases n <;> simp only [shp]
theorem shp_i {n : Nat} {i : Int} : shp n (.int i) = true := by cases n <;> simp only [shp]
theorem shp_t {n : Nat} {xs : List D} : shp (n + 1) (.tup xs) = shpL n xs := by simp only [shp]
theorem shp_l {n : Nat} {xs : List D} : shp (n + 1) (.lst xs) = shpL n xs := by simp only [shp]
theorem shpL_nil {n : Nat} : shpL n [] = true := by simp only [shpL]
theorem shpL_cons {n : Nat} {x : D} {xs : List D} : shpL n (x :: xs) = (shp n x && shpL n xs) := by simp only [shpL]
theorem eqv_non_int  {j : Int} : D.eqv .non (.int j) = false := by simp only [D.eqv]
theorem eqv_int_non  {j : Int} : D.eqv (.int j) .non = false := by simp only [D.eqv]
theorem eqv_str_int {x : Str} {j : Int} : D.eqv (.str x) (.int j) = false := by simp only [D.eqv]
theorem eqv_int_str {x : Str} {j : Int} : D.eqv (.int j) (.str x) = false := by simp only [D.eqv]
theorem eqv_tup_int {xs : List D} {j : Int} : D.eqv (.tup xs) (.int j) = false := by simp only [D.eqv]
theorem eqv_int_tup {xs : List D} {j : Int} : D.eqv (.int j) (.tup xs) = false := by simp only [D.eqv]
theorem eqv_lst_int {xs : List D} {j : Int} : D.eqv (.lst xs) (.int j) = false := by simp only [D.eqv]
theorem eqv_int_lst {xs : List D} {j : Int} : D.eqv (.int j) (.lst xs) = false := by simp only [D.eqv]
theorem eqv_bb {a b : Bool} : D.eqv (.bl a) (.bl b) = (a == b) := by simp only [D.eqv]
theorem eqv_nn : D.eqv .non .non = true := by simp only [D.eqv]
theorem eqv_tt {x y : List D} : D.eqv (.tup x) (.tup y) = D.eqvL x y := by simp only [D.eqv]
theorem eqv_ll {x y : List D} : D.eqv (.lst x) (.lst y) = D.eqvL x y := by simp only [D.eqv]
theorem eqvL_nn : D.eqvL [] [] = true := by simp only [D.eqvL]
theorem eqvL_cc {a b : D} {x y : List D} : D.eqvL (a :: x) (b :: y) = (D.eqv a b && D.eqvL x y) := by simp only [D.eqvL]
theorem eqvL_nc {b : D} {y : List D} : D.eqvL [] (b :: y) = false := by simp only [D.eqvL]
theorem eqvL_cn {b : D} {y : List D} : D.eqvL (b :: y) [] = false := by simp only [D.eqvL]
/-! end of pw -/
theorem mulB_l {i j : Int} (h1 : -(2 ^ 64) < i) (h2 : i < 2 ^ 64) : MulB i j = True := eq_true (.inl ⟨h1, h2⟩)
theorem mulB_r {i j : Int} (h1 : -(2 ^ 64) < j) (h2 : j < 2 ^ 64) : MulB i j = True := eq_true (.inr ⟨h1, h2⟩)
/-! loops -/
theorem while_inv {α : Type} (s : α → PSt) (P : α → Prop) (m : α → Nat) (a0 : α) {t : Ts} {b : Sm} {E : En} {δ : PSt} (hd : δ = s a0) (h0 : P a0)
    (step : ∀ a, P a → t (s a) fun c => if c = true then b { nx := fun δ' => ∃ a', δ' = s a' ∧ P a' ∧ m a' < m a, rt := E.rt, bk := E.nx, ct := fun δ' => ∃ a', δ' = s a' ∧ P a' ∧ m a' < m a } (s a) else E.nx (s a)) : sWhile t b E δ := by
  refine ⟨fun n δ => ∃ a, δ = s a ∧ P a ∧ m a = n, ⟨_, a0, hd, h0, rfl⟩, ?_⟩
  rintro n _ ⟨a, rfl, hP, rfl⟩
  have e : (fun δ' => ∃ n', n' < m a ∧ ∃ a, δ' = s a ∧ P a ∧ m a = n') = fun δ' => ∃ a', δ' = s a' ∧ P a' ∧ m a' < m a := by
    funext δ'
    apply propext
    constructor
    · rintro ⟨n', hn, a', e, hp, rfl⟩; exact ⟨a', e, hp, hn⟩
    · rintro ⟨a', e, hp, hn⟩; exact ⟨_, hn, a', e, hp, rfl⟩
  rw [e]
  exact step a hP
theorem for_inv {α : Type} (s : α → PSt) (P : Nat → α → Prop) (a0 : α) {ds : List D} {g : Tgt} {b : Sm} {E : En} {δ : PSt} (hd : δ = s a0) (h0 : P 0 a0)
    (step : ∀ i d a, ds[i]? = some d → P i a → tg g d (s a) fun δ' => b { nx := fun δ'' => ∃ a', δ'' = s a' ∧ P (i + 1) a', rt := E.rt, bk := E.nx, ct := fun δ'' => ∃ a', δ'' = s a' ∧ P (i + 1) a' } δ')
    (done : ∀ a, P ds.length a → E.nx (s a)) : forD ds g b E δ := by
  refine ⟨fun i δ => ∃ a, δ = s a ∧ P i a, ⟨a0, hd, h0⟩, ?_, ?_⟩
  · rintro i d _ hi ⟨a, rfl, hp⟩
    exact step i d a hi hp
  · rintro _ ⟨a, rfl, hp⟩
    exact done a hp
theorem for_rng {α : Type} (s : α → PSt) (P : Nat → α → Prop) (a0 : α) {lo : Int} {n : Nat} {g : Tgt} {b : Sm} {E : En} {δ : PSt} (hd : δ = s a0) (h0 : P 0 a0)
    (step : ∀ (i : Nat) a, i < n → P i a → tg g (.int (lo + i)) (s a) fun δ' => b { nx := fun δ'' => ∃ a', δ'' = s a' ∧ P (i + 1) a', rt := E.rt, bk := E.nx, ct := fun δ'' => ∃ a', δ'' = s a' ∧ P (i + 1) a' } δ')
    (done : ∀ a, P n a → E.nx (s a)) : forD (rng lo n) g b E δ := by
  refine for_inv s P a0 hd h0 (fun i d a hi hp => ?_) (by rw [rng_length]; exact done)
  obtain ⟨h, rfl⟩ := rng_at hi
  exact step i a h hp
/-- a loop whose turns keep one word of the state, whatever the item -/
theorem for_all {α : Type} (s : α → PSt) (P : α → Prop) (a0 : α) {ds : List D} {g : Tgt} {b : Sm} {E : En} {δ : PSt} (hd : δ = s a0) (h0 : P a0)
    (step : ∀ d a, d ∈ ds → P a → tg g d (s a) fun δ' => b { nx := fun δ'' => ∃ a', δ'' = s a' ∧ P a', rt := E.rt, bk := E.nx, ct := fun δ'' => ∃ a', δ'' = s a' ∧ P a' } δ')
    (done : ∀ a, P a → E.nx (s a)) : forD ds g b E δ :=
  for_inv s (fun _ => P) a0 hd h0 (fun i d a hi hp => step d a (List.mem_of_getElem? hi) hp) done

/-! the same by predicates of the state -/
theorem for_rngI (I : Nat → PSt → Prop) {lo : Int} {n : Nat} {g : Tgt} {b : Sm} {E : En} {δ : PSt} (h0 : I 0 δ)
    (step : ∀ (i : Nat) δ, i < n → I i δ → tg g (.int (lo + i)) δ fun δ' => b { nx := I (i + 1), rt := E.rt, bk := E.nx, ct := I (i + 1) } δ')
    (done : ∀ δ, I n δ → E.nx δ) : forD (rng lo n) g b E δ := by
  refine ⟨I, h0, fun i d δ hi hp => ?_, by rw [rng_length]; exact done⟩
  obtain ⟨h, rfl⟩ := rng_at hi
  exact step i δ h hp
theorem for_I (I : Nat → PSt → Prop) {ds : List D} {g : Tgt} {b : Sm} {E : En} {δ : PSt} (h0 : I 0 δ)
    (step : ∀ (i : Nat) d δ, ds[i]? = some d → I i δ → tg g d δ fun δ' => b { nx := I (i + 1), rt := E.rt, bk := E.nx, ct := I (i + 1) } δ')
    (done : ∀ δ, I ds.length δ → E.nx δ) : forD ds g b E δ := ⟨I, h0, step, done⟩
theorem for_allI (I : PSt → Prop) {ds : List D} {g : Tgt} {b : Sm} {E : En} {δ : PSt} (h0 : I δ)
    (step : ∀ d δ, d ∈ ds → I δ → tg g d δ fun δ' => b { nx := I, rt := E.rt, bk := E.nx, ct := I } δ')
    (done : ∀ δ, I δ → E.nx δ) : forD ds g b E δ := ⟨fun _ => I, h0, fun _ d δ hi => step d δ (List.mem_of_getElem? hi), done⟩
theorem while_I (I : Nat → PSt → Prop) {t : Ts} {b : Sm} {E : En} {δ : PSt} (h0 : ∃ n, I n δ)
    (step : ∀ n δ, I n δ → t δ fun c => if c = true then b { nx := fun δ' => ∃ n', n' < n ∧ I n' δ', rt := E.rt, bk := E.nx, ct := fun δ' => ∃ n', n' < n ∧ I n' δ' } δ else E.nx δ) : sWhile t b E δ := ⟨I, h0, step⟩

/-! comprehensions -/
theorem lc_filter (p : D → Bool) (f : D → D) {ds : List D} {g : Tgt} {t : Ts} {e : Ex} {δ : PSt} {Q : List D → Prop} (hl : ds.length ≤ 16777216)
    (h : ∀ d ∈ ds, ∀ (R : D → Prop) (R0 : Prop), (p d = true → R (f d)) → (p d = false → R0) → tg g d δ fun δ' => t δ' fun c => if c = true then e δ' R else R0)
    (q : Q ((ds.filter p).map f)) : lcD ds g t e δ Q := by
  refine ⟨hl, fun i acc => acc = ((ds.take i).filter p).map f, by simp, fun i d acc hi ha => ?_, fun acc ha => ?_⟩
  · subst ha
    have hm : d ∈ ds := List.mem_of_getElem? hi
    refine h d hm _ _ (fun hp => ?_) fun hp => ?_
    · show _ = _
      rw [List.take_add_one, hi]
      simp [List.filter_append, hp]
    · show _ = _
      rw [List.take_add_one, hi]
      simp [List.filter_append, hp]
  · subst ha
    rw [List.take_length]
    exact q
theorem lc_map (f : D → D) {ds : List D} {g : Tgt} {e : Ex} {δ : PSt} {Q : List D → Prop} (hl : ds.length ≤ 16777216)
    (h : ∀ d ∈ ds, ∀ (R : D → Prop), R (f d) → tg g d δ fun δ' => e δ' R)
    (q : Q (ds.map f)) : lcD ds g tYes e δ Q := by
  refine lc_filter (fun _ => true) f hl (fun d hd R R0 h1 _ => ?_) (by rw [List.filter_eq_self.mpr fun _ _ => rfl]; exact q)
  have := h d hd R (h1 rfl)
  simpa only [tYes, if_true] using this
theorem lc_rng (f : Nat → D) {lo : Int} {n : Nat} {g : Tgt} {e : Ex} {δ : PSt} {Q : List D → Prop} (hl : n ≤ 16777216)
    (h : ∀ k, k < n → ∀ (R : D → Prop), R (f k) → tg g (.int (lo + (k : Nat))) δ fun δ' => e δ' R)
    (q : Q ((List.range n).map f)) : lcD (rng lo n) g tYes e δ Q := by
  refine lc_map (fun d => match d with | .int i => f (i - lo).toNat | _ => .non) (by rw [rng_length]; exact hl) (fun d hd R hR => ?_) ?_
  · obtain ⟨k, hk, rfl⟩ := mem_rng hd
    have e : (lo + (k : Int) - lo).toNat = k := by omega
    simp only [e] at hR
    exact h k hk R hR
  · rw [rng_eq, List.map_map]
    have e : ((fun d => match d with | .int i => f (i - lo).toNat | _ => .non) ∘ fun (k : Nat) => D.int (lo + k)) = f := by
      funext k
      show f (lo + (k : Int) - lo).toNat = f k
      rw [show (lo + (k : Int) - lo).toNat = k by omega]
    rw [e]
    exact q
theorem lc_rng_filter (p : Nat → Bool) (f : Nat → D) {lo : Int} {n : Nat} {g : Tgt} {t : Ts} {e : Ex} {δ : PSt} {Q : List D → Prop} (hl : n ≤ 16777216)
    (h : ∀ k, k < n → ∀ (R : D → Prop) (R0 : Prop), (p k = true → R (f k)) → (p k = false → R0) → tg g (.int (lo + (k : Nat))) δ fun δ' => t δ' fun c => if c = true then e δ' R else R0)
    (q : Q (((List.range n).filter p).map f)) : lcD (rng lo n) g t e δ Q := by
  refine lc_filter (fun d => match d with | .int i => p (i - lo).toNat | _ => false) (fun d => match d with | .int i => f (i - lo).toNat | _ => .non) (by rw [rng_length]; exact hl) (fun d hd R R0 hR hR0 => ?_) ?_
  · obtain ⟨k, hk, rfl⟩ := mem_rng hd
    have e : (lo + (k : Int) - lo).toNat = k := by omega
    simp only [e] at hR hR0
    exact h k hk R R0 hR hR0
  · rw [rng_eq, List.filter_map, List.map_map]
    have e1 : ((fun d => match d with | .int i => f (i - lo).toNat | _ => .non) ∘ fun (k : Nat) => D.int (lo + k)) = f := by
      funext k
      show f (lo + (k : Int) - lo).toNat = f k
      rw [show (lo + (k : Int) - lo).toNat = k by omega]
    have e2 : ((fun d => match d with | .int i => p (i - lo).toNat | _ => false) ∘ fun (k : Nat) => D.int (lo + k)) = p := by
      funext k
      show p (lo + (k : Int) - lo).toNat = p k
      rw [show (lo + (k : Int) - lo).toNat = k by omega]
    rw [e1, e2]
    exact q

/-! places, bools -/
theorem ixP_nat {n j : Nat} (h : j < n) : ixP n (j : Int) = some j := by
  unfold ixP
  rw [if_pos (by omega), if_pos (by omega)]
  simp
theorem atD_nat {xs : List D} {j : Nat} {d : D} {Q : D → Prop} (h : xs[j]? = some d) (q : Q d) : atD xs (j : Int) Q :=
  ⟨j, d, ixP_nat (List.getElem?_eq_some_iff.mp h).1, h, q⟩
theorem atD_at {xs : List D} {k : Int} {j : Nat} {d : D} {Q : D → Prop} (e : k = (j : Int)) (h : xs[j]? = some d) (q : Q d) : atD xs k Q := by
  subst e; exact atD_nat h q
theorem atD_mem {xs : List D} {k : Int} {Q : D → Prop} (h0 : 0 ≤ k) (h1 : k < xs.length) (q : ∀ d, d ∈ xs → Q d) : atD xs k Q := by
  have hj : k.toNat < xs.length := by omega
  refine atD_at (j := k.toNat) (d := xs[k.toNat]) (by omega) (List.getElem?_eq_getElem hj) (q _ (List.getElem_mem hj))
theorem atD_ints {ns : List Int} {k : Int} {Q : D → Prop} (h0 : 0 ≤ k) (h1 : k < ns.length) (q : ∀ x, x ∈ ns → Q (.int x)) : atD (ns.map .int) k Q :=
  atD_mem h0 (by simpa using h1) fun d hd => by
    obtain ⟨x, hx, rfl⟩ := List.mem_map.mp hd
    exact q x hx
/-- the last item -/
theorem atD_last {xs : List D} {d : D} {Q : D → Prop} (h : xs.getLast? = some d) (q : Q d) : atD xs (-1) Q := by
  have hne : xs ≠ [] := by intro z; subst z; simp at h
  have hl : 0 < xs.length := List.length_pos_iff.mpr hne
  refine ⟨xs.length - 1, d, ?_, ?_, q⟩
  · unfold ixP
    rw [if_neg (by omega), if_pos (by omega)]
    congr 1
    omega
  · rw [← List.getLast?_eq_getElem?]; exact h
theorem allB_map {α : Type} (xs : List α) (p : α → Bool) : allB (xs.map fun x => D.bl (p x)) = some (xs.all p) := by
  induction xs with
  | nil => rfl
  | cons x xs ih => simp [allB, ih]
theorem anyB_map {α : Type} (xs : List α) (p : α → Bool) : anyB (xs.map fun x => D.bl (p x)) = some (xs.any p) := by
  induction xs with
  | nil => rfl
  | cons x xs ih => simp [anyB, ih]
theorem sumD_map (xs : List Int) : sumD (xs.map D.int) = some xs.sum := by
  induction xs with
  | nil => rfl
  | cons x xs ih => simp [sumD, ih]
theorem sumD_mapf {α : Type} (xs : List α) (f : α → Int) : sumD (xs.map fun x => D.int (f x)) = some (xs.map f).sum := by
  induction xs with
  | nil => rfl
  | cons x xs ih => simp [sumD, ih]
theorem eqv_int (i j : Int) : D.eqv (.int i) (.int j) = decide (i = j) := by
  simp only [D.eqv]; rw [Bool.eq_iff_iff]; simp
end PL

set_option linter.all false
/-! PLN: plain number theory. -/
namespace PL
/-- a prime -/
def Prm (p : Nat) : Prop := 2 ≤ p ∧ ∀ d, 1 < d → d < p → ¬ d ∣ p
instance (p : Nat) : Decidable (Prm p) := decidable_of_iff (2 ≤ p ∧ ∀ d, d < p → (1 < d → ¬ d ∣ p)) ⟨fun h => ⟨h.1, fun d h1 h2 => h.2 d h2 h1⟩, fun h => ⟨h.1, fun d h1 h2 => h.2 d h2 h1⟩⟩
theorem Prm.coprime {p a : Nat} (hp : Prm p) (h : ¬ p ∣ a) : Nat.Coprime p a := by
  have hd : Nat.gcd p a ∣ p := Nat.gcd_dvd_left p a
  have hle := Nat.le_of_dvd (by have := hp.1; omega) hd
  have hpos : 0 < Nat.gcd p a := Nat.gcd_pos_of_pos_left a (by have := hp.1; omega)
  rcases Nat.lt_or_ge 1 (Nat.gcd p a) with h1 | h1
  · rcases Nat.lt_or_ge (Nat.gcd p a) p with h2 | h2
    · exact absurd hd (hp.2 _ h1 h2)
    · have : Nat.gcd p a = p := by omega
      exact absurd (this ▸ Nat.gcd_dvd_right p a) h
  · show Nat.gcd p a = 1
    omega
theorem Prm.dvd_mul {p a b : Nat} (hp : Prm p) (h : p ∣ a * b) : p ∣ a ∨ p ∣ b := by
  by_cases ha : p ∣ a
  · exact .inl ha
  · exact .inr ((hp.coprime ha).dvd_of_dvd_mul_left h)
theorem Prm.dvd_pow {p a : Nat} (hp : Prm p) : ∀ {k : Nat}, p ∣ a ^ k → p ∣ a
  | 0, h => by
    have := Nat.le_of_dvd (by simp) h
    have := hp.1
    simp at *; omega
  | k + 1, h => by
    rw [Nat.pow_succ] at h
    rcases hp.dvd_mul h with h | h
    · exact hp.dvd_pow h
    · exact h
theorem Prm.eq_of_dvd {p q : Nat} (hp : Prm p) (hq : Prm q) (h : p ∣ q) : p = q := by
  have hle := Nat.le_of_dvd (by have := hq.1; omega) h
  rcases Nat.lt_or_ge p q with h1 | h1
  · exact absurd h (hq.2 p (by have := hp.1; omega) h1)
  · omega
theorem Prm.dvd_prod {p : Nat} (hp : Prm p) : ∀ {ps : List (Nat × Nat)}, (∀ x ∈ ps, Prm x.1) → p ∣ (ps.map fun x => x.1 ^ x.2).prod → ∃ x ∈ ps, x.1 = p
  | [], _, h => by
    have := Nat.le_of_dvd (by simp) h
    have := hp.1
    simp at *; omega
  | x :: ps, hs, h => by
    rw [List.map_cons, List.prod_cons] at h
    rcases hp.dvd_mul h with h | h
    · exact ⟨x, List.mem_cons_self, (hp.eq_of_dvd (hs x List.mem_cons_self) (hp.dvd_pow h)).symm⟩
    · obtain ⟨y, hy, e⟩ := hp.dvd_prod (fun z hz => hs z (List.mem_cons_of_mem _ hz)) h
      exact ⟨y, List.mem_cons_of_mem _ hy, e⟩
/-- the parts of a number: primes in order, how often, their product -/
structure Parts (n : Nat) (ps : List (Nat × Nat)) : Prop where
  prime : ∀ x ∈ ps, Prm x.1 ∧ 1 ≤ x.2
  rise : List.Pairwise (fun a b : Nat × Nat => a.1 < b.1) ps
  prod : (ps.map fun x => x.1 ^ x.2).prod = n
theorem Parts.tail {n : Nat} {x : Nat × Nat} {ps : List (Nat × Nat)} (h : Parts n (x :: ps)) : Parts ((ps.map fun x => x.1 ^ x.2).prod) ps :=
  ⟨fun y hy => h.prime y (List.mem_cons_of_mem _ hy), (List.pairwise_cons.mp h.rise).2, rfl⟩
theorem Parts.pos {n : Nat} : ∀ {ps : List (Nat × Nat)}, Parts n ps → 0 < n
  | [], h => by have := h.prod; simp at this; omega
  | x :: ps, h => by
    rw [← h.prod, List.map_cons, List.prod_cons]
    exact Nat.mul_pos (Nat.pow_pos (by have := (h.prime x List.mem_cons_self).1.1; omega)) h.tail.pos
theorem Parts.head_dvd {n : Nat} {x : Nat × Nat} {ps : List (Nat × Nat)} (h : Parts n (x :: ps)) : x.1 ∣ n := by
  rw [← h.prod, List.map_cons, List.prod_cons]
  have := (h.prime x List.mem_cons_self).2
  refine Nat.dvd_mul_right_of_dvd ⟨x.1 ^ (x.2 - 1), ?_⟩ _
  rw [← Nat.pow_succ']
  congr 1; omega
theorem parts_unique : ∀ {ps qs : List (Nat × Nat)} {n : Nat}, Parts n ps → Parts n qs → ps = qs
  | [], [], _, _, _ => rfl
  | [], y :: qs, n, h, g => by
    have e := h.prod
    have d := g.head_dvd
    have := (g.prime y List.mem_cons_self).1.1
    rw [← e] at d
    have := Nat.le_of_dvd (by simp) d
    simp at this; omega
  | x :: ps, [], n, h, g => by
    have e := g.prod
    have d := h.head_dvd
    have := (h.prime x List.mem_cons_self).1.1
    rw [← e] at d
    have := Nat.le_of_dvd (by simp) d
    simp at this; omega
  | x :: ps, y :: qs, n, h, g => by
    have hx := h.prime x List.mem_cons_self
    have hy := g.prime y List.mem_cons_self
    have h1 := (List.pairwise_cons.mp h.rise).1
    have g1 := (List.pairwise_cons.mp g.rise).1
    have exy : x.1 = y.1 := by
      obtain ⟨z, hz, ez⟩ := hx.1.dvd_prod (fun z hz => (g.prime z hz).1) (g.prod ▸ h.head_dvd)
      obtain ⟨w, hw, ew⟩ := hy.1.dvd_prod (fun z hz => (h.prime z hz).1) (h.prod ▸ g.head_dvd)
      have a1 : y.1 ≤ x.1 := by
        rcases List.mem_cons.mp hz with q | q
        · subst q; omega
        · have := g1 z q; omega
      have a2 : x.1 ≤ y.1 := by
        rcases List.mem_cons.mp hw with q | q
        · subst q; omega
        · have := h1 w q; omega
      omega
    have hp := h.prod
    have gp := g.prod
    rw [List.map_cons, List.prod_cons] at hp gp
    have key : ∀ {a b : Nat} {us vs : List (Nat × Nat)}, (∀ z ∈ us, Prm z.1 ∧ x.1 < z.1) → x.1 ^ a * (us.map fun x => x.1 ^ x.2).prod = x.1 ^ b * (vs.map fun x => x.1 ^ x.2).prod → ¬ a < b := by
      intro a b us vs hu e hab
      have e2 : x.1 ^ b = x.1 ^ a * (x.1 * x.1 ^ (b - a - 1)) := by
        rw [← Nat.pow_succ', ← Nat.pow_add]
        congr 1; omega
      rw [e2, Nat.mul_assoc, Nat.mul_assoc] at e
      have e3 := Nat.eq_of_mul_eq_mul_left (Nat.pow_pos (by have := hx.1.1; omega)) e
      obtain ⟨z, hz, ez⟩ := hx.1.dvd_prod (fun z hz => (hu z hz).1) (e3 ▸ Nat.dvd_mul_right _ _)
      have := (hu z hz).2
      omega
    have e : x.1 ^ x.2 * (ps.map fun x => x.1 ^ x.2).prod = x.1 ^ y.2 * (qs.map fun x => x.1 ^ x.2).prod := by
      rw [hp, exy, gp]
    have k1 := key (fun z hz => ⟨(h.prime z (List.mem_cons_of_mem _ hz)).1, h1 z hz⟩) e
    have k2 := key (fun z hz => ⟨(g.prime z (List.mem_cons_of_mem _ hz)).1, by rw [exy]; exact g1 z hz⟩) e.symm
    have e2 : x.2 = y.2 := by omega
    have exy' : x = y := Prod.ext exy e2
    subst exy'
    have e3 := Nat.eq_of_mul_eq_mul_left (Nat.pow_pos (by have := hx.1.1; omega)) e
    rw [parts_unique h.tail (e3 ▸ g.tail)]
end PL

set_option Elab.async false
set_option linter.all false
/-! PLE: more of the pure side: in, sorted, sets within sorted and len, [::-1]. -/
namespace PL
open PySem
def flatD : D → Bool
  | .tup _ => false
  | .lst _ => false
  | _ => true
def oInB (n : Bool) : Op2 := fun x y Q => match y with
  | .lst ds => (shp 60 x = true ∧ shp 60 (.lst ds) = true) ∧ Q (.bl (xor n (ds.any fun z => D.eqv z x)))
  | .tup ds => (flatD x = true ∧ ds.all flatD = true) ∧ Q (.bl (xor n (ds.any fun z => D.eqv z x)))
  | _ => False
abbrev oIn : Op2 := oInB false
abbrev oNin : Op2 := oInB true
theorem oIn_t (x : D) (ds : List D) (Q : D → Prop) : oIn x (.tup ds) Q = ((flatD x = true ∧ ds.all flatD = true) ∧ Q (.bl (ds.any fun z => D.eqv z x))) := by
  show ((flatD x = true ∧ ds.all flatD = true) ∧ Q (.bl (xor false (ds.any fun z => D.eqv z x)))) = _
  rw [Bool.false_xor]
theorem oIn_l (x : D) (ds : List D) (Q : D → Prop) : oIn x (.lst ds) Q = ((shp 60 x = true ∧ shp 60 (.lst ds) = true) ∧ Q (.bl (ds.any fun z => D.eqv z x))) := by
  show ((shp 60 x = true ∧ shp 60 (.lst ds) = true) ∧ Q (.bl (xor false (ds.any fun z => D.eqv z x)))) = _
  rw [Bool.false_xor]
theorem oNin_t (x : D) (ds : List D) (Q : D → Prop) : oNin x (.tup ds) Q = ((flatD x = true ∧ ds.all flatD = true) ∧ Q (.bl (!ds.any fun z => D.eqv z x))) := by
  show ((flatD x = true ∧ ds.all flatD = true) ∧ Q (.bl (xor true (ds.any fun z => D.eqv z x)))) = _
  rw [Bool.true_xor]
theorem oNin_l (x : D) (ds : List D) (Q : D → Prop) : oNin x (.lst ds) Q = ((shp 60 x = true ∧ shp 60 (.lst ds) = true) ∧ Q (.bl (!ds.any fun z => D.eqv z x))) := by
  show ((shp 60 x = true ∧ shp 60 (.lst ds) = true) ∧ Q (.bl (xor true (ds.any fun z => D.eqv z x)))) = _
  rw [Bool.true_xor]
theorem flatD_i (i : Int) : flatD (.int i) = true := rfl
theorem flatD_b (i : Bool) : flatD (.bl i) = true := rfl
theorem flatD_n : flatD .non = true := rfl
theorem flatD_s (i : Str) : flatD (.str i) = true := rfl
theorem any_int (x : Int) : ∀ ns : List Int, ((ns.map D.int).any fun z => D.eqv z (.int x)) = decide (x ∈ ns)
  | [] => rfl
  | n :: ns => by
    rw [List.map_cons, List.any_cons, any_int x ns, eqv_int]
    by_cases h : n = x
    · subst h; simp
    · have : ¬ x = n := fun e => h e.symm
      simp [h, this]
theorem flat_ints : ∀ ns : List Int, (ns.map D.int).all flatD = true
  | [] => rfl
  | n :: ns => by rw [List.map_cons, List.all_cons, flat_ints ns]; rfl
theorem shpL_ints (n : Nat) : ∀ ns : List Int, shpL n (ns.map D.int) = true
  | [] => by simp [shpL]
  | k :: ns => by simp [shpL, shp, shpL_ints n ns]
theorem sorted_uniq : ∀ {a b : List Int}, a.Pairwise (· ≤ ·) → b.Pairwise (· ≤ ·) → a.Perm b → a = b
  | [], b, _, _, p => (p.symm.eq_nil).symm
  | x :: a, [], _, _, p => absurd p.eq_nil (by simp)
  | x :: a, y :: b, ha, hb, p => by
    obtain ⟨h1, h2⟩ := List.pairwise_cons.mp ha
    obtain ⟨g1, g2⟩ := List.pairwise_cons.mp hb
    have e : x = y := by
      rcases List.mem_cons.mp (p.mem_iff.mp List.mem_cons_self) with c | c
      · exact c
      · rcases List.mem_cons.mp (p.mem_iff.mpr List.mem_cons_self) with d | d
        · exact d.symm
        · have := h1 y d
          have := g1 x c
          omega
    subst e
    rw [sorted_uniq h2 g2 (p.cons_inv)]
theorem strict_uniq {a b : List Int} (ha : a.Pairwise (· < ·)) (hb : b.Pairwise (· < ·)) (h : ∀ k, k ∈ a ↔ k ∈ b) : a = b :=
  sorted_uniq (ha.imp Int.le_of_lt) (hb.imp Int.le_of_lt) ((List.perm_ext_iff_of_nodup (ha.imp Int.ne_of_lt) (hb.imp Int.ne_of_lt)).mpr h)
def pSorted : Pm
  | [.lst xs], Q => ∃ ns ms : List Int, xs = ns.map D.int ∧ ms.Perm ns ∧ ms.Pairwise (· ≤ ·) ∧ Q (.lst (ms.map D.int))
  | _, _ => False
/-- sorted(set(l)) -/
def pSortSet : Pm
  | [.lst xs], Q => ∃ ns ms : List Int, xs = ns.map D.int ∧ (∀ k, k ∈ ms ↔ k ∈ ns) ∧ ms.Pairwise (· < ·) ∧ (ms.length < 64 ∧ ns.length < 4000) ∧ Q (.lst (ms.map D.int))
  | _, _ => False
/-- len(set(l)) -/
def pLenSet : Pm
  | [.lst xs], Q => ∃ ns ms : List Int, xs = ns.map D.int ∧ (∀ k, k ∈ ms ↔ k ∈ ns) ∧ ms.Nodup ∧ ns.length < 4000 ∧ Q (.int ms.length)
  | _, _ => False
def oRev : Op1
  | .lst xs, Q => Q (.lst xs.reverse)
  | .tup xs, Q => Q (.tup xs.reverse)
  | _, _ => False
theorem oRev_l (xs : List D) (Q : D → Prop) : oRev (.lst xs) Q = Q (.lst xs.reverse) := rfl
theorem oRev_t (xs : List D) (Q : D → Prop) : oRev (.tup xs) Q = Q (.tup xs.reverse) := rfl
/-! comprehensions over encoded lists -/
theorem lc_encF {α : Type} (enc : α → D) (xs : List α) (p : α → Bool) (f : α → D) {g : Tgt} {t : Ts} {e : Ex} {δ : PSt} {Q : List D → Prop} (hl : xs.length ≤ 16777216)
    (h : ∀ x ∈ xs, ∀ (R : D → Prop) (R0 : Prop), (p x = true → R (f x)) → (p x = false → R0) → tg g (enc x) δ fun δ' => t δ' fun c => if c = true then e δ' R else R0)
    (q : Q ((xs.filter p).map f)) : lcD (xs.map enc) g t e δ Q := by
  refine ⟨by rw [List.length_map]; exact hl, fun i acc => acc = ((xs.take i).filter p).map f, by simp, fun i d acc hi ha => ?_, fun acc ha => ?_⟩
  · subst ha
    rw [List.getElem?_map] at hi
    obtain ⟨x, hx, rfl⟩ := Option.map_eq_some_iff.mp hi
    refine h x (List.mem_of_getElem? hx) _ _ (fun hp => ?_) fun hp => ?_
    · show _ = _
      rw [List.take_add_one, hx]
      simp [List.filter_append, hp]
    · show _ = _
      rw [List.take_add_one, hx]
      simp [List.filter_append, hp]
  · subst ha
    rw [List.length_map, List.take_length]
    exact q
theorem lc_enc {α : Type} (enc : α → D) (xs : List α) (f : α → D) {g : Tgt} {e : Ex} {δ : PSt} {Q : List D → Prop} (hl : xs.length ≤ 16777216)
    (h : ∀ x ∈ xs, ∀ (R : D → Prop), R (f x) → tg g (enc x) δ fun δ' => e δ' R) (q : Q (xs.map f)) : lcD (xs.map enc) g tYes e δ Q := by
  refine lc_encF enc xs (fun _ => true) f hl (fun x hx R R0 h1 _ => ?_) (by rw [List.filter_eq_self.mpr fun _ _ => rfl]; exact q)
  have := h x hx R (h1 rfl)
  simpa only [tYes, if_true] using this
/-- the item at a place of an encoded list -/
theorem atD_enc {α : Type} {enc : α → D} {xs : List α} {k : Int} {j : Nat} {x : α} {Q : D → Prop} (e : k = (j : Int)) (h : xs[j]? = some x) (q : Q (enc x)) : atD (xs.map enc) k Q :=
  atD_at e (d := enc x) (by rw [List.getElem?_map, h]; rfl) q
theorem atD_encM {α : Type} {enc : α → D} {xs : List α} {k : Int} {Q : D → Prop} (h0 : 0 ≤ k) (h1 : k < xs.length) (q : ∀ x, x ∈ xs → Q (enc x)) : atD (xs.map enc) k Q :=
  atD_mem h0 (by simpa using h1) fun d hd => by
    obtain ⟨x, hx, rfl⟩ := List.mem_map.mp hd
    exact q x hx
/-! max, min, sum over lists and tuples of ints; lists made by * and + -/
def asNs : List D → (List D → Prop) → Prop
  | [.lst xs], Q => Q xs
  | [.tup xs], Q => Q xs
  | _, _ => False
def pMax : Pm := fun ds Q => asNs ds fun xs => ∃ (ns : List Int) (m : Int), xs = ns.map D.int ∧ m ∈ ns ∧ (∀ y ∈ ns, y ≤ m) ∧ Q (.int m)
def pMin : Pm := fun ds Q => asNs ds fun xs => ∃ (ns : List Int) (m : Int), xs = ns.map D.int ∧ m ∈ ns ∧ (∀ y ∈ ns, m ≤ y) ∧ Q (.int m)
def pSumS : Pm := fun ds Q => asNs ds fun xs => ∃ n, sumD xs = some n ∧ Q (.int n)
theorem pMax_l (xs : List D) (Q : D → Prop) : pMax [.lst xs] Q = ∃ (ns : List Int) (m : Int), xs = ns.map D.int ∧ m ∈ ns ∧ (∀ y ∈ ns, y ≤ m) ∧ Q (.int m) := rfl
theorem pMax_t (xs : List D) (Q : D → Prop) : pMax [.tup xs] Q = ∃ (ns : List Int) (m : Int), xs = ns.map D.int ∧ m ∈ ns ∧ (∀ y ∈ ns, y ≤ m) ∧ Q (.int m) := rfl
theorem pMin_l (xs : List D) (Q : D → Prop) : pMin [.lst xs] Q = ∃ (ns : List Int) (m : Int), xs = ns.map D.int ∧ m ∈ ns ∧ (∀ y ∈ ns, m ≤ y) ∧ Q (.int m) := rfl
theorem pMin_t (xs : List D) (Q : D → Prop) : pMin [.tup xs] Q = ∃ (ns : List Int) (m : Int), xs = ns.map D.int ∧ m ∈ ns ∧ (∀ y ∈ ns, m ≤ y) ∧ Q (.int m) := rfl
theorem pSumS_l (xs : List D) (Q : D → Prop) : pSumS [.lst xs] Q = ∃ n, sumD xs = some n ∧ Q (.int n) := rfl
theorem pSumS_t (xs : List D) (Q : D → Prop) : pSumS [.tup xs] Q = ∃ n, sumD xs = some n ∧ Q (.int n) := rfl
def oRepL : Op2
  | .lst xs, .int n, Q => (-(2 ^ 63) ≤ n ∧ n < 2 ^ 63 ∧ xs.length * n.toNat ≤ 16777216) ∧ Q (.lst (List.replicate n.toNat xs).flatten)
  | _, _, _ => False
theorem oRepL_ (xs : List D) (n : Int) (Q : D → Prop) : oRepL (.lst xs) (.int n) Q = ((-(2 ^ 63) ≤ n ∧ n < 2 ^ 63 ∧ xs.length * n.toNat ≤ 16777216) ∧ Q (.lst (List.replicate n.toNat xs).flatten)) := rfl
def oCatL : Op2
  | .lst xs, .lst ys, Q => xs.length + ys.length ≤ 16777216 ∧ Q (.lst (xs ++ ys))
  | _, _, _ => False
theorem oCatL_ (xs ys : List D) (Q : D → Prop) : oCatL (.lst xs) (.lst ys) Q = (xs.length + ys.length ≤ 16777216 ∧ Q (.lst (xs ++ ys))) := rfl
theorem rep_one (n : Nat) (d : D) : (List.replicate n [d]).flatten = List.replicate n d := by
  induction n with
  | zero => rfl
  | succ n ih => rw [List.replicate_succ, List.flatten_cons, ih, List.replicate_succ]; rfl
def eChn3 (p q r : Op2) (a b c d : Ex) : Ex := fun δ Q => a δ fun x => b δ fun y => p x y fun z => asB z fun k => if k = true then c δ fun w => q y w fun z => asB z fun k => if k = true then d δ fun v => r w v Q else Q (.bl false) else Q (.bl false)
end PL

set_option Elab.async false
set_option linter.all false
set_option maxRecDepth 100000
/-! PLS8: in, sorted, set(..) within sorted and len, [::-1]. -/
namespace PL
open PySem PySem.Spec PyProof.Rows L2

theorem sh_eq {s s' : Shared} (h : s'.os = s.os) : s' = { s with heap := s'.heap, gens := s'.gens, drawn := s'.drawn, toks := s'.toks } := by
  cases s'
  cases h
  rfl
section
variable {P : Program} {w : World} {A : Around} {E : Value → Shared → Prop} {s : Shared}
/-- a set that was made just now -/
abbrev nSet (w : World) : Obj := { cls := .type "set", dict := none, data := .set #[] 0 (.fresh 0 0 (!w.params.followText "set-order")) }
abbrev lIt (l : Addr) : Obj := { cls := .type "list_iterator", data := .fields #[.ref l, .int 0 0] }
set_option maxHeartbeats 4000000 in
/-- set(l), l a list of ints -/
theorem set_of_ints {l : Addr} {its : Array Value} (ns : List Int) {Q : Value → Shared → Prop} (hh : A.handled = none) (hl : s.heap.IsList l its)
    (hi : IntsAre its.toList ns) (hb : ns.length + 1 < scanBound)
    (h : ∀ (g : Heap) (tk c : Nat), SetR w g s.heap.objs.size (fun j => decide (j ∈ ns)) c → (∀ b o, s.heap.get? b = some o → g.get? b = some o) →
      Q (.ref s.heap.objs.size) { s with heap := g, toks := tk }) : wpAny (model P w) A (call (.type "set") [.ref l]) Q E s := by
  have sz : its.size = ns.length := by simpa using IntsAre.length hi
  obtain ⟨c, tl, mro⟩ := F.called_set.mro
  have m1 := F.called_set.made
  have m2 := F.called_set.sub
  refine wpAny_call (codeAny_of_tree ?_)
  show wpAny _ _ (callAny (.type "set") _) _ _ _
  refine wpAny_pure ⟨Code.quiet_builtin _ (by decide +kernel), codeAny_builtin F.entry_type_call ?_⟩
  rw [Around.under_plain (weight_type_call_type "set" [.ref l] []) rfl]
  have n1 := F.called_set.notType
  have n2 := F.called_set.canCreate
  have n3 := F.typeCall_set_1 (.ref l)
  repeat (any_goals (first | assumption | wp_step))
  refine codeAny_mono (code_set_led1 (.ref l) (E := E) (Q₁ := fun x u => x = .ref s.heap.objs.size ∧ u = { s with heap := s.heap.push (nSet w) }) ⟨rfl, rfl⟩) fun r u hr => ?_
  cases r with
  | error e => exact hr
  | ok fl =>
    cases fl with
    | ret x =>
      obtain ⟨rfl, rfl⟩ := hr
      have eS : (s.heap.push (nSet w)).get? s.heap.objs.size = some (nSet w) := Heap.get?_push_size _ rfl
      have eT : Shared.TypeIs { s with heap := s.heap.push (nSet w) } (.ref s.heap.objs.size) "set" := ⟨_, eS, rfl⟩
      have i1 := F.called_set.init.lookup
      have i2 := F.called_set.init.bind (.ref s.heap.objs.size)
      repeat (any_goals (first | assumption | wp_step))
      refine codeAny_mono (codeAny_call_builtin (R := wants (fun r u => r = .none ∧ ∃ g tk c, u = { s with heap := g, toks := tk } ∧
        SetR w g s.heap.objs.size (fun j => decide (j ∈ ns)) c ∧ (∀ b o, s.heap.get? b = some o → g.get? b = some o)) E) F.called_set.init.plain F.entry_set_init (check_set_init_1 eT ?_)) fun r u hr => ?_
      · obtain ⟨⟨k0, k1, k2, k3⟩, ho, hc, n, hd⟩ := hl
        simp only at hc hd
        subst hc hd
        have ho2 : (s.heap.push (nSet w)).get? l = some { cls := .type "list", dict := k1, data := .seq its n, slots := k3 } := Heap.get?_push_of_some _ ho
        have s1 := F.sub_list_set
        have s2 := F.sub_list_frozenset
        have s3 : (Value.type "list" == Value.type "dict") = false := by decide
        have hl2 : (s.heap.push (nSet w)).IsList l its := ⟨_, ho2, rfl, n, rfl⟩
        unfold Builtin.«set.__init__» noKeywords Builtin.Frozenset.updateFrom
        generalize eP : pyIter = PI
        wp_walk
        subst eP
        refine wpAny_pyIter_list hl2 ?_
        refine wpAny_bind (wpAny_runValue ?_)
        have lt : l < s.heap.objs.size := Heap.lt_size ho
        have z1 : (s.heap.push (nSet w)).objs.size = s.heap.objs.size + 1 := Heap.size_push ..
        have ne : l ≠ (s.heap.push (nSet w)).objs.size := by rw [z1]; exact Nat.ne_of_lt (Nat.lt_succ_of_lt lt)
        have nf : s.heap.objs.size ∉ [(s.heap.push (nSet w)).objs.size, l] := by
          rw [z1]
          intro z
          rcases List.mem_cons.mp z with z | z
          · exact Nat.ne_of_lt (Nat.lt_succ_self _) z
          · exact Nat.ne_of_gt lt (List.mem_singleton.mp z)
        have hv : ∀ (i : Nat) (v : Value), its[i]? = some v → ∃ k t, ns[i]? = some k ∧ v = .int k t := fun i v hv => by
          have hi2 : i < ns.length := by rw [← sz]; exact (Array.getElem?_eq_some_iff.mp hv).1
          obtain ⟨t, e⟩ := IntsAre.int_at hi i v (by rw [Array.getElem?_toList]; exact hv)
          exact ⟨ns[i], t, List.getElem?_eq_getElem hi2, by rw [e, List.getD_eq_getElem?_getD, List.getElem?_eq_getElem hi2]; rfl⟩
        refine set_update_ints ((Walks.list (show A.in1.in1.in1.handled = none from hh) _ l ne its).toS) s.heap.objs.size nf ns sz hb hv (its.size - 0) 0 _ (by omega) (Nat.zero_le _)
          ⟨⟨_, Heap.get?_push_size _ rfl, rfl, rfl⟩, (hl2.push _)⟩ ⟨0, Nat.le_refl 0, setR_new_at (Heap.get?_push_of_some _ eS)⟩ ?_
        intro u c' hm _ hS
        obtain ⟨g, g2, d2, t2, o2⟩ := u
        have e1 : g2 = s.gens := hm.gens
        have e2 : d2 = s.drawn := hm.drawn
        have e3 : o2 = s.os := hm.os
        subst e1 e2 e3
        show wpAny _ _ _ _ _ _
        refine wpAny_pure ?_
        show wpAny _ _ (ret Value.none) _ _ _
        refine wpAny_pure ⟨rfl, g, t2, c', rfl, hS, fun b o e => hm.heap b o (fun z => ?_) (Heap.get?_push_of_some _ (Heap.get?_push_of_some _ e))⟩
        have lb := Heap.lt_size e
        rcases List.mem_cons.mp z with z | z
        · exact Nat.ne_of_lt lb z
        · have z' : b = (s.heap.push (nSet w)).objs.size := List.mem_singleton.mp z
          rw [z1] at z'
          exact Nat.ne_of_lt (Nat.lt_succ_of_lt lb) z'
      · cases r with
        | error e => exact hr
        | ok fl =>
          cases fl with
          | ret x =>
            obtain ⟨rfl, g, tk, c, rfl, q1, q2⟩ := hr
            repeat (any_goals (first | assumption | wp_step))
            exact h g tk c q1 q2
          | _ => exact hr
    | _ => exact hr
end

/-! ### x in l -/
section
variable {X : Cx} {K : PySem.W.Frag}
theorem flat_rp {F : Hp} {d : D} {v : V} (h : flatD d = true) (r : Rp K F d v) : flatV v = true := by
  cases d <;> first | (cases r.nonI; rfl) | (cases r.blI; rfl) | (cases r.intI; rfl) | (cases r.strI; rfl) | (exact absurd h Bool.false_ne_true)
theorem flat_eq {F : Hp} {d e : D} {v u : V} (h : flatD d = true) (h' : flatD e = true) (r : Rp K F d v) (q : Rp K F e u) : eqV v u = D.eqv d e := by
  cases d <;> first | (exact absurd h Bool.false_ne_true) | skip
  all_goals (cases e <;> first | (exact absurd h' Bool.false_ne_true) | skip)
  all_goals first | cases r.nonI | cases r.blI | cases r.intI | cases r.strI
  all_goals first | cases q.nonI | cases q.blI | cases q.intI | cases q.strI
  all_goals simp only [eqV, D.eqv]
theorem flat_all {F : Hp} : ∀ {ds : List D} {vs : List V}, ds.all flatD = true → RpL K F ds vs → vs.all flatV = true
  | [], _, _, r => by simp only [RpL] at r; subst r; rfl
  | d :: ds, _, h, r => by
    obtain ⟨v, q, rfl, h2, h3⟩ := r.inv
    rw [List.all_cons, Bool.and_eq_true] at h ⊢
    exact ⟨flat_rp h.1 h2, flat_all h.2 h3⟩
theorem flat_any {F : Hp} {x : D} {u : V} (hx : flatD x = true) (q : Rp K F x u) : ∀ {ds : List D} {vs : List V}, ds.all flatD = true → RpL K F ds vs → inV u vs = ds.any fun z => D.eqv z x
  | [], _, _, r => by simp only [RpL] at r; subst r; rfl
  | d :: ds, _, h, r => by
    obtain ⟨v, r', rfl, h2, h3⟩ := r.inv
    rw [List.all_cons, Bool.and_eq_true] at h
    unfold inV
    rw [List.any_cons, List.any_cons, flat_eq h.1 hx h2 q]
    congr 1
    exact flat_any hx q h.2 h3
theorem py_any {x : D} : ∀ ds : List D, ((toPyL ds).any fun z => PyData.eqv z (toPy x)) = ds.any fun z => D.eqv z x
  | [] => rfl
  | d :: ds => by
    simp only [toPyL, List.any_cons, eqv_py, py_any ds]
theorem k_in (hu : X.A.units + 64 < cLine) (hu2 : X.A.units + 65 < cLine) : OpR X (compareOp .In) (fun x y H Q => rInD X.K x y H Q ∨ rIn X.K false x y H Q) ∧ V2 X.K (fun x y H Q => rInD X.K x y H Q ∨ rIn X.K false x y H Q) oIn := ⟨(op_inD hu2).or op_in_seq, fun F H x y v u Qd Q s rx ry h k => by
  cases y with
  | lst ds =>
    obtain ⟨⟨h1, h2⟩, q⟩ := h
    rw [Bool.false_xor] at q
    refine .inl ⟨toPy x, toPyL ds, dp_of s rx, ?_, shp_shaped h1, ?_, by rw [py_any]; exact k _ F H _ (.refl s) (.bl _) q⟩
    · have := dp_of s ry
      simp only [toPy] at this
      exact this
    · have := shp_shaped h2
      simp only [toPy] at this
      exact this
  | tup ds =>
    obtain ⟨⟨h1, h2⟩, q⟩ := h
    rw [Bool.false_xor] at q
    obtain ⟨a, vs, rfl, g1, g2⟩ := ry.tupI
    refine .inr ⟨a, vs, rfl, .inr (sameT s g1), flat_rp h1 rx, flat_all h2 g2, ?_⟩
    show Q (.bl (inV v vs)) H
    rw [flat_any h1 rx h2 g2]
    exact k _ F H _ (.refl s) (.bl _) q
  | _ => exact h.elim⟩
theorem k_nin (hu : X.A.units + 64 < cLine) (hu2 : X.A.units + 65 < cLine) : OpR X (compareOp .NotIn) (fun x y H Q => rNotInD X.K x y H Q ∨ rIn X.K true x y H Q) ∧ V2 X.K (fun x y H Q => rNotInD X.K x y H Q ∨ rIn X.K true x y H Q) oNin := ⟨(op_notInD hu2).or op_notIn_seq, fun F H x y v u Qd Q s rx ry h k => by
  cases y with
  | lst ds =>
    obtain ⟨⟨h1, h2⟩, q⟩ := h
    rw [Bool.true_xor] at q
    refine .inl ⟨toPy x, toPyL ds, dp_of s rx, ?_, shp_shaped h1, ?_, by rw [py_any]; exact k _ F H _ (.refl s) (.bl _) q⟩
    · have := dp_of s ry
      simp only [toPy] at this
      exact this
    · have := shp_shaped h2
      simp only [toPy] at this
      exact this
  | tup ds =>
    obtain ⟨⟨h1, h2⟩, q⟩ := h
    rw [Bool.true_xor] at q
    obtain ⟨a, vs, rfl, g1, g2⟩ := ry.tupI
    refine .inr ⟨a, vs, rfl, .inr (sameT s g1), flat_rp h1 rx, flat_all h2 g2, ?_⟩
    show Q (.bl (!inV v vs)) H
    rw [flat_any h1 rx h2 g2]
    exact k _ F H _ (.refl s) (.bl _) q
  | _ => exact h.elim⟩

/-! ### sorted(l), sorted(set(l)), len(set(l)), ints -/
theorem ints_rp {F : Hp} : ∀ {ns : List Int} {vs : List V}, RpL K F (ns.map D.int) vs → vs = ns.map V.int
  | [], _, r => by simpa only [List.map_nil, RpL] using r
  | n :: ns, _, r => by
    obtain ⟨v, q, rfl, h2, h3⟩ := RpL.inv r
    rw [ints_rp h3, h2.intI]
    rfl
theorem qf_sorted {e : Expr} {te : Ex} {p pos : Pos} (hm : X.mg "sorted" = none) (ha : QE X e te) (hg : Gl X "sorted" := by rfl) (na : starEach [e] X.env = (false, eval e X.env) :: starEach [] X.env := by rfl) :
    QF X (.Call (.Name "sorted" p) [e] [] pos) (eCall pSorted (aCons te aNil)) :=
  imp_PE (pe_callB cr_sortedI hg hm (by decide +kernel) (pa_cons ha pa_nil na) (by decide) (by decide) na rfl) fun σ H Q h => by
    obtain ⟨F0, B, F, δ, Qd, S, h, k⟩ := h
    refine ⟨F0, B, F, δ, _, S, h, fun v F1 H1 d x1 r1 q1 => ?_⟩
    cases d with
    | lst xs =>
      obtain ⟨ns, ms, rfl, hp, hs, q⟩ := q1
      obtain ⟨a, vs, rfl, h1, h2⟩ := r1.lstI
      have e := ints_rp h2
      subst e
      refine ⟨a, ns, rfl, x1.s.seq h1, fun ns' l p' s' hl => ?_⟩
      have e2 : ns' = ms := sorted_uniq s' hs (p'.trans hp.symm)
      subst e2
      have sH : Same H1 (upd H1 l (.lst (ns'.map V.int))) := upd_same_of hl
      exact k l (ns'.map V.int) (ns'.map D.int) F1 _ ⟨x1.f, x1.h.trans sH, x1.s.trans sH, x1.n⟩ (x1.h.free hl) (x1.s.free hl) upd_same (.ints _) q
    | _ => exact q1.elim
theorem setR_count {w : World} {h : Heap} {a : Addr} {c : Nat} {ns ms : List Int} (R : SetR w h a (fun j => decide (j ∈ ns)) c) (hn : ms.Nodup) (hm : ∀ k, k ∈ ms ↔ k ∈ ns) : c = ms.length := by
  obtain ⟨o, es, ep, t, _, _, _, _, nd, hk, _, _, e, _⟩ := R
  have p : (es.toList.map keyOf).Perm ms := (List.perm_ext_iff_of_nodup nd hn).mpr fun k => by
    rw [hm k, ← hk k, decide_eq_true_eq]
  have := p.length_eq
  rw [List.length_map, Array.length_toList] at this
  omega
theorem qf_sortSet {e : Expr} {te : Ex} {p p2 q pos : Pos} (hc : X.calm = true) (hm : X.mg "sorted" = none) (hm2 : X.mg "set" = none) (ha : QE X e te) (hg : Gl X "sorted" := by rfl) (hg2 : Gl X "set" := by rfl)
    (na : starEach [e] X.env = (false, eval e X.env) :: starEach [] X.env := by rfl) : QF X (.Call (.Name "sorted" p) [.Call (.Name "set" p2) [e] [] q] [] pos) (eCall pSortSet (aCons te aNil)) := by
  refine ⟨fun pins s σ H Q I h => ?_⟩
  obtain ⟨F0, B, F, δ, Qd, S, h, k⟩ := h
  refine Call_ (ld_blt I hg hm (by decide +kernel : bootBuiltins "sorted" = some (.builtin "sorted")) ?_)
  refine callWith_builtin1 (args_cons ?_ rfl) rfl rfl
  refine Call_ (ld_blt I hg2 hm2 boot_set ?_)
  refine callWith_type1 (args_cons (thn (ha.run pins s σ H (fun v H1 => ∃ F1 d, Ext F H F1 H1 ∧ Rp X.K F1 d v ∧ pSortSet [d] Qd) I ⟨F0, B, F, δ, _, S, h, fun v F1 H1 d x1 r1 q1 => ⟨F1, d, x1, r1, q1⟩⟩) fun v s1 ⟨x, H1, I1, r1, q1⟩ => args_nil ?_) na) na rfl
  obtain ⟨F1, d, x1, rd, q1⟩ := q1
  cases d with
  | lst xs =>
    obtain ⟨ns, ms, rfl, hmm, hs, ⟨h64, hl⟩, q2⟩ := q1
    obtain ⟨a, vs, rfl, g1, g2⟩ := rd.lstI
    have e := ints_rp g2
    subst e
    cases r1
    obtain ⟨its, rv, pl, hz⟩ := I1.list (x1.s.seq g1)
    refine set_of_ints ns (I1.ok.hd hc) pl.isList (by simpa using rv.ints) (by unfold scanBound; omega) fun g tk c R hk => args_nil ?_
    have ec := setR_count R (hs.imp Int.ne_of_lt) hmm
    subst ec
    have I2 : Inv X pins σ H1 { s1 with heap := g, toks := tk } := I1.kept fun b o e => hk b o e
    refine sorted_set R (I2.ok.hd hc) h64 fun u l out c2 ns' kk eg eo hp hget hi hp2 hm3 hl2 => ?_
    have e2 : ns' = ms := strict_uniq hp2 hs fun k => by rw [hm3 k, decide_eq_true_eq, ← hmm k]
    subst e2
    have hlen : (ns'.map V.int).length ≤ sizeLine := by rw [List.length_map, sizeLine_eq]; omega
    have hn : H1 l = none := I2.hok.fresh hp
    have J : Inv X pins σ (upd H1 l (.lst (ns'.map V.int))) { ({ s1 with heap := g, toks := tk } : Shared) with heap := u.heap, gens := u.gens, drawn := u.drawn, toks := u.toks } :=
      I2.call (ch := []) (Un.laid kk hp hn) (I2.hok.laid kk hp ⟨hlen, out.toList, c2, vals_of_ints hi, hget⟩) (by rw [eg]; exact I2.bare) (fun _ z => nomatch z)
    have eu : u = { ({ s1 with heap := g, toks := tk } : Shared) with heap := u.heap, gens := u.gens, drawn := u.drawn, toks := u.toks } := sh_eq eo
    rw [eu]
    have sH : Same H1 (upd H1 l (.lst (ns'.map V.int))) := upd_same_of hn
    exact ⟨.ref l, _, J, rfl, k l (ns'.map V.int) (ns'.map D.int) F1 _ ⟨x1.f, x1.h.trans sH, x1.s.trans sH, x1.n⟩ (x1.h.free hn) (x1.s.free hn) upd_same (.ints _) q2⟩
  | _ => exact q1.elim
theorem q_lenSet {e : Expr} {te : Ex} {p p2 q pos : Pos} (hc : X.calm = true) (hm : X.mg "len" = none) (hm2 : X.mg "set" = none) (ha : QE X e te) (hg : Gl X "len" := by rfl) (hg2 : Gl X "set" := by rfl)
    (na : starEach [e] X.env = (false, eval e X.env) :: starEach [] X.env := by rfl) : QE X (.Call (.Name "len" p) [.Call (.Name "set" p2) [e] [] q] [] pos) (eCall pLenSet (aCons te aNil)) := by
  refine ⟨fun pins s σ H Q I h => ?_⟩
  obtain ⟨F0, B, F, δ, Qd, S, h, k⟩ := h
  refine Call_ (ld_blt I hg hm PySem.boot_len ?_)
  refine callWith_builtin1 (args_cons ?_ rfl) rfl rfl
  refine Call_ (ld_blt I hg2 hm2 boot_set ?_)
  refine callWith_type1 (args_cons (thn (ha.run pins s σ H (fun v H1 => ∃ F1 d, Ext F H F1 H1 ∧ Rp X.K F1 d v ∧ pLenSet [d] Qd) I ⟨F0, B, F, δ, _, S, h, fun v F1 H1 d x1 r1 q1 => ⟨F1, d, x1, r1, q1⟩⟩) fun v s1 ⟨x, H1, I1, r1, q1⟩ => args_nil ?_) na) na rfl
  obtain ⟨F1, d, x1, rd, q1⟩ := q1
  cases d with
  | lst xs =>
    obtain ⟨ns, ms, rfl, hmm, hs, hl, q2⟩ := q1
    obtain ⟨a, vs, rfl, g1, g2⟩ := rd.lstI
    have e := ints_rp g2
    subst e
    cases r1
    obtain ⟨its, rv, pl, hz⟩ := I1.list (x1.s.seq g1)
    refine set_of_ints ns (I1.ok.hd hc) pl.isList (by simpa using rv.ints) (by unfold scanBound; omega) fun g tk c R hk => args_nil ?_
    have ec := setR_count R hs hmm
    subst ec
    have I2 : Inv X pins σ H1 { s1 with heap := g, toks := tk } := I1.kept fun b o e => hk b o e
    obtain ⟨o, es, ep, t, ho, hex, hd, _, _, _, hb, hf, hn, _⟩ := R
    refine call_len_set ho hex hd hf (by unfold scanBound at hb; omega) ⟨.int ms.length, H1, I2.tok _, ⟨_, by rw [hn]⟩, k (.int ms.length) F1 H1 (.int ms.length) x1 (.int _) q2⟩
  | _ => exact q1.elim

theorem RpL.rev {F : Hp} : ∀ {ds : List D} {vs : List V}, RpL K F ds vs → RpL K F ds.reverse vs.reverse
  | [], _, h => by simp only [RpL] at h; subst h; exact .nil
  | d :: ds, _, h => by
    obtain ⟨v, r, rfl, h2, h3⟩ := h.inv
    rw [List.reverse_cons, List.reverse_cons]
    exact h3.rev.app (.cons h2 .nil)
/-! ### [::-1] -/
end
section
variable {prog : Program} {w : World} {A : Around} {E : Value → Shared → Prop} {s : Shared}
theorem rev_adjust (n : Nat) : Builtin.Slice.sliceAdjust none none (-1) (n : Int) = ((n : Int) - 1, -1) := by
  unfold Builtin.Slice.sliceAdjust
  simp
theorem rev_places (n : Nat) : Builtin.Slice.slicePlaces ((n : Int) - 1) (-1) (-1) = n := by
  unfold Builtin.Slice.slicePlaces
  have h1 : ¬ ((-1 : Int) > 0) := by decide
  simp only [h1, if_false, show (- -1 : Int) = 1 by decide, Int.ediv_one]
  split <;> omega
theorem rev_pick (xs : Array Value) : ((List.range xs.size).filterMap fun (m : Nat) => xs[((xs.size : Int) - 1 + (m : Int) * -1).toNat]?).toArray = xs.toList.reverse.toArray := by
  have e : (List.range xs.size).filterMap (fun (m : Nat) => xs[((xs.size : Int) - 1 + (m : Int) * -1).toNat]?) = ((List.range xs.size).map fun k => xs.size - 1 - k).filterMap (xs[·]?) := by
    rw [List.filterMap_map]
    have all : ∀ l : List Nat, (∀ m ∈ l, m < xs.size) → l.filterMap (fun (m : Nat) => xs[((xs.size : Int) - 1 + (m : Int) * -1).toNat]?) = l.filterMap ((xs[·]?) ∘ fun k => xs.size - 1 - k) := by
      intro l
      induction l with
      | nil => intro _; rfl
      | cons m l ih =>
        intro h
        have h1 := h m List.mem_cons_self
        have h2 : ((xs.size : Int) - 1 + (m : Int) * -1).toNat = xs.size - 1 - m := by omega
        rw [List.filterMap_cons, List.filterMap_cons, h2, ih fun k hk => h k (List.mem_cons_of_mem _ hk)]
        rfl
    exact all _ fun m hm => List.mem_range.mp hm
  rw [e, PySem.W.krv_range, List.filterMap_reverse, PySem.W.krv_all]
theorem tup_rev {t sl : Addr} {its : Array Value} {vl vu vs : Value} {Q : Value → Shared → Prop} (ht : IsTup s.heap t its) (hs : s.heap.IsSliceOf sl vl vu vs) (pl : IsPart vl none) (pu : IsPart vu none) (ps : IsPart vs (some (-1)))
    (h : Q (.ref s.heap.objs.size) { s with heap := s.heap.push { cls := .type "tuple", data := .seq its.toList.reverse.toArray } }) (hz : its.size ≤ sizeLine) : wpAny (model prog w) A (getItem (.ref t) (.ref sl)) Q E s := by
  have ok : sizeOk (.seq its.toList.reverse.toArray) := by
    show its.toList.reverse.toArray.size ≤ sizeLine
    simpa using hz
  obtain ⟨os, hos, hcs, hds⟩ := id hs
  have hT : s.TypeIs (.ref sl) "slice" := ⟨os, hos, hcs⟩
  unfold getItem
  try with_reducible refine wpAny_holding ?_
  first | refine wpAny_bind (wpAny_pure ?_) | skip
  refine wpAny_bind (wpAny_sequenceKey ht.typeIs (by decide) ?_)
  refine wpAny_bind (wpAny_callSpecial?_slot (name := Str.ofString "__getitem__") ht.typeIs slot_tuple_getitem (wpAny_call_entry slot_tuple_getitem ht.typeIs entry_tuple_getitem ?_ (args_tuple_getitem _ _)))
  show wpAny _ _ (Builtin.Tuple.tupleItemsOf (.ref t) >>= _) _ _ s
  refine wpAny_bind (tupleItemsOf_ ht ?_)
  refine wpAny_bind (wpAny_typeOf hT ?_)
  rw [if_pos (by decide)]
  have app : ∀ {Q : Int × Int × Nat → Shared → Prop}, Q ((its.size : Int) - 1, -1, its.size) s → wpAny (model prog w) A.in1 (Builtin.Slice.sliceApplied (.ref sl) (pure (its.size : Int))) Q E s := by
    intro Q hQ
    unfold Builtin.Slice.sliceApplied Builtin.Slice.sliceFields
    refine wpAny_bind (wpAny_bind (wpAny_field hos hds (x := vl) rfl (wpAny_bind (wpAny_field hos hds (x := vu) rfl (wpAny_bind (wpAny_field hos hds (x := vs) rfl (wpAny_pure ?_)))))))
    refine wpAny_bind (HT.slicePart_ ps ?_)
    show wpAny _ _ (if ((-1 : Int) == 0) = true then _ else _) _ _ s
    rw [if_neg (by decide)]
    refine wpAny_bind (HT.slicePart_ pl (wpAny_bind (HT.slicePart_ pu (wpAny_bind (wpAny_pure ?_)))))
    show wpAny _ _ (match Builtin.Slice.sliceAdjust none none (-1) (its.size : Int) with | (lo, hi) => pure (lo, (-1 : Int), Builtin.Slice.slicePlaces lo hi (-1))) _ _ s
    rw [rev_adjust]
    show wpAny _ _ (pure ((its.size : Int) - 1, (-1 : Int), Builtin.Slice.slicePlaces ((its.size : Int) - 1) (-1) (-1))) _ _ s
    rw [rev_places]
    exact wpAny_pure hQ
  refine wpAny_bind (app ?_)
  have no : ¬ ((((its.size : Int) - 1 == 0) && ((-1 : Int) == 1) && (its.size == its.size)) = true) := by
    rw [show ((-1 : Int) == 1) = false by decide, Bool.and_false, Bool.false_and]
    exact Bool.false_ne_true
  show wpAny _ _ (if (((its.size : Int) - 1 == 0) && ((-1 : Int) == 1) && (its.size == its.size)) = true then _ else _) _ _ s
  rw [if_neg no, rev_pick]
  first
    | exact wpAny_bind (m := Builtin.Tuple.tupleExact _) (wpAny_newObj_type (wpAny_pure ⟨_, rfl, wpAny_pure h⟩) ok)
    | exact wpAny_bind (m := Builtin.Tuple.tupleExact _) (wpAny_newObj_type (wpAny_bind (wpAny_pure (wpAny_pure ⟨_, rfl, wpAny_pure h⟩))) ok)
    | exact wpAny_bind (wpAny_bind (m := Builtin.Tuple.tupleExact _) (wpAny_newObj_type (wpAny_pure (wpAny_pure ⟨_, rfl, wpAny_pure h⟩)) ok))
    | exact wpAny_bind (wpAny_bind (m := Builtin.Tuple.tupleExact _) (wpAny_newObj_type (wpAny_pure ⟨_, rfl, wpAny_pure h⟩) ok))
end
section
variable {X : Cx}
/-- x[::-1], x a list or a tuple -/
theorem q_rev {e : Expr} {te : Ex} {k : Nat} {p1 p2 p3 pos : Pos} (he : QE X e te) : QE X (.Subscript e (.Slice none none (some (.UnaryOp .USub (.Constant (.int 1) k p1) p2)) p3) pos) (e1 oRev te) := by
  refine ⟨fun pins s σ H Q I h => ?_⟩
  obtain ⟨F0, B, F, δ, Qd, S, h, kk⟩ := h
  refine Subscript_ (thn (he.run pins s σ H (fun v H1 => ∃ F1 d, Ext F H F1 H1 ∧ Rp X.K F1 d v ∧ oRev d Qd) I ⟨F0, B, F, δ, _, S, h, fun v F1 H1 d x1 r1 q1 => ⟨F1, d, x1, r1, q1⟩⟩) fun v s1 ⟨x, H1, I1, r1, q1⟩ => ?_)
  obtain ⟨F1, d, x1, rd, q1⟩ := q1
  have st : PO X (some (.UnaryOp .USub (.Constant (.int 1) k p1) p2)) (tPart (tUn (rU fun i => .int (-i)) (tC (.int 1)))) := po_some (pe_un un_neg pe_int)
  refine wpAny_Slice (thn (po_none.run pins s1 σ H1 (fun o H2 => o = none ∧ H2 = H1) I1 ⟨rfl, rfl⟩) fun vl s2 ⟨l, H2, I2, pl, el, e2⟩ => ?_)
  cases el
  cases e2
  refine thn (po_none.run pins s2 σ H1 (fun o H3 => o = none ∧ H3 = H1) I2 ⟨rfl, rfl⟩) fun vu s3 ⟨u, H3, I3, pu, eu, e3⟩ => ?_
  cases eu
  cases e3
  refine thn (st.run pins s3 σ H1 (fun o H4 => o = some (-1) ∧ H4 = H1) I3 ⟨1, rfl, -1, rfl, rfl, rfl⟩) fun vs s4 ⟨o, H4, I4, ps, eo, e4⟩ => ?_
  cases eo
  cases e4
  have I5 : Inv X pins σ H1 { s4 with heap := s4.heap.push { cls := .type "slice", data := .fields #[vl, vu, vs] } } := I4.kept (t' := s4.toks) fun b ob q => Heap.get?_push_of_some _ q
  cases d with
  | lst xs =>
    obtain ⟨a, ys, rfl, g1, g2⟩ := rd.lstI
    cases r1
    obtain ⟨its, r, ht, hz⟩ := I5.list (x1.s.seq g1)
    have hlen := r.length
    show wpAny _ X.A (subscriptTail e (.Slice none none (some (.UnaryOp .USub (.Constant (.int 1) k p1) p2)) p3) (.ref a) (.ref s4.heap.objs.size)) _ _ _
    refine tail_any (ops := [.ref a, .ref s4.heap.objs.size]) ht.isList.typeIs (PySem.slot_list_getitem.lookup) ?_ (by with_unfolding_all rfl)
    refine wpAny_getItem_list_slice ht.isList (Heap.IsSliceOf.new _ vl vu vs) pl pu ps (by decide) ?_ (by rw [List.size_toArray]; omega)
    rw [PySem.W.krv_pick]
    have hn := I5.hok.fresh (Nat.le_refl _)
    have x4 : Ext F1 H1 (upd F1 _ (.lst ys.reverse)) (upd H1 _ (.lst ys.reverse)) := Ext.new x1.s hn
    refine ⟨.ref _, _, I5.laid (t' := s4.toks) (o := .lst ys.reverse) (fun b ob q => Heap.get?_push_of_some _ q) (Nat.le_refl _) ⟨by rw [List.length_reverse]; exact hz, _, 0, r.reverse, Heap.get?_push_size _ rfl⟩, rfl, kk _ _ _ _ (x1.trans x4) (.lst (.of upd_same) (g2.rev.mono x4.f)) q1⟩
  | tup xs =>
    obtain ⟨a, ys, rfl, g1, g2⟩ := rd.tupI
    cases r1
    obtain ⟨its, r, ht, hz⟩ := I5.tuple (sameT x1.s g1)
    have hlen := r.length
    show wpAny _ X.A (subscriptTail e (.Slice none none (some (.UnaryOp .USub (.Constant (.int 1) k p1) p2)) p3) (.ref a) (.ref s4.heap.objs.size)) _ _ _
    refine tail_any (ops := [.ref a, .ref s4.heap.objs.size]) ht.typeIs (slot_tuple_getitem.lookup) ?_ (by with_unfolding_all rfl)
    refine tup_rev ht (Heap.IsSliceOf.new _ vl vu vs) pl pu ps ?_ (by rw [List.size_toArray]; omega)
    have hn := I5.hok.fresh (Nat.le_refl _)
    have x4 : Ext F1 H1 (upd F1 _ (.tup ys.reverse)) (upd H1 _ (.tup ys.reverse)) := Ext.new x1.s hn
    refine ⟨.ref _, _, I5.laid (t' := s4.toks) (o := .tup ys.reverse) (fun b ob q => Heap.get?_push_of_some _ q) (Nat.le_refl _) ⟨by rw [List.length_reverse]; exact hz, _, r.reverse, IsTup.new _ _⟩, rfl, kk _ _ _ _ (x1.trans x4) (.tup (.of upd_same) (g2.rev.mono x4.f)) q1⟩
  | _ => exact q1.elim
end
theorem units65 {k : Nat} {A : Around} (r : Room k A) : A.units + 65 < cLine := by have := r.un; omega
end PL

set_option Elab.async false
set_option linter.all false
set_option maxRecDepth 100000
/-! PLS9: max, min, sum over tuples too; fresh lists by + and *. -/
namespace PL
open PySem PySem.Spec PyProof.Rows L2

section
variable {P : Program} {w : World} {A : Around} {E : Value → Shared → Prop} {s : Shared} {t : Addr} {its : List Value} {ns : List Int} {Q : Value → Shared → Prop}
theorem ints_val (hi : IntsAre its ns) : ∀ (i : Nat) (v : Value), its.toArray[i]? = some v → ∃ t, v = .int (ns.getD i 0) t := fun i v hv =>
  IntsAre.int_at hi i v (by simpa using hv)
theorem ns_mem {m i : Nat} (h : i < ns.length) : ns.getD i 0 ∈ ns := by
  rw [List.getD_eq_getElem?_getD, List.getElem?_eq_getElem h]
  exact List.getElem_mem h
theorem ns_at {y : Int} (h : y ∈ ns) : ∃ i, i < ns.length ∧ ns.getD i 0 = y := by
  obtain ⟨i, hi, e⟩ := List.mem_iff_getElem.mp h
  exact ⟨i, hi, by rw [List.getD_eq_getElem?_getD, List.getElem?_eq_getElem hi, ← e]; rfl⟩
theorem pre_take : ∀ k, k ≤ ns.length → preSum (fun i => ns.getD i 0) k = (ns.take k).sum
  | 0, _ => by simp [preSum]
  | k + 1, h => by
    have ih := pre_take k (by omega)
    have e : ns.getD k 0 = ns[k] := by rw [List.getD_eq_getElem?_getD, List.getElem?_eq_getElem (by omega)]; rfl
    rw [List.take_add_one, List.getElem?_eq_getElem (by omega)]
    show preSum (fun i => ns.getD i 0) k + ns.getD k 0 = (ns.take k ++ [ns[k]]).sum
    rw [ih, e, List.sum_append, List.sum_cons, List.sum_nil, Int.add_zero]
theorem new_keep {b : Addr} {o : Obj} {wr : List Addr} {g h' : Heap} {x : Obj} (hw : wr = [g.objs.size]) (hk : ∀ b o, b ∉ wr → (g.push x).get? b = some o → h'.get? b = some o) (e : g.get? b = some o) : h'.get? b = some o := by
  refine hk b o (fun z => ?_) (Heap.get?_push_of_some _ e)
  rw [hw] at z
  have e1 : b = g.objs.size := List.mem_singleton.mp z
  have e2 := Heap.lt_size e
  rw [e1] at e2
  exact absurd e2 (Nat.lt_irrefl _)
theorem two_lt {b n : Nat} {g : Heap} {x : Obj} (hn : n < g.objs.size) (h : b ∈ [g.objs.size, n]) : b < (g.push x).objs.size := by
  rw [Heap.size_push]
  rcases List.mem_cons.mp h with e | h
  · rw [e]; exact Nat.lt_succ_self _
  · rw [List.mem_singleton.mp h]; exact Nat.lt_succ_of_lt hn
theorem max_tup (hh : A.handled = none) (ht : s.heap.IsTuple t its.toArray) (hi : IntsAre its ns) (hne : 0 < ns.length)
    (h : ∀ g tk m t', (∀ b o, s.heap.get? b = some o → g.get? b = some o) → m ∈ ns → (∀ y ∈ ns, y ≤ m) → Q (.int m t') { s with heap := g, toks := tk }) : wpAny (model P w) A (call (.builtin "max") [.ref t]) Q E s := by
  have hlt : t < s.heap.objs.size := let ⟨o, ho, _⟩ := ht; Heap.lt_size ho
  have sz : its.toArray.size = ns.length := by rw [List.size_toArray]; exact IntsAre.length hi
  refine call_max_walk (wpAny_pyIter_tuple ht ?_)
  refine ⟨_, _, _, _, _, _, _, rfl, Walks.tuple (A := A.in1) hh _ t (Nat.ne_of_lt hlt) its.toArray, ⟨⟨_, Heap.get?_push_size _ rfl, rfl, rfl⟩, ht.push _⟩, fun b hb => two_lt hlt hb, by rw [sz]; exact hne, CmpOf.ints_gt (fun i => ns.getD i 0) (ints_val hi), fun v g tk hP hk => ?_⟩
  obtain ⟨t', rfl⟩ := ints_val hi _ v hP
  obtain ⟨b1, b2⟩ := argBest_gt (fun i => ns.getD i 0) (its.toArray.size - 1)
  refine h g tk _ t' (fun b o e => new_keep rfl hk e) (ns_mem (m := 0) (by omega)) fun y hy => ?_
  obtain ⟨i, hi2, e⟩ := ns_at hy
  rw [← e]
  exact b2 i (by omega)
theorem min_tup (hh : A.handled = none) (ht : s.heap.IsTuple t its.toArray) (hi : IntsAre its ns) (hne : 0 < ns.length)
    (h : ∀ g tk m t', (∀ b o, s.heap.get? b = some o → g.get? b = some o) → m ∈ ns → (∀ y ∈ ns, m ≤ y) → Q (.int m t') { s with heap := g, toks := tk }) : wpAny (model P w) A (call (.builtin "min") [.ref t]) Q E s := by
  have hlt : t < s.heap.objs.size := let ⟨o, ho, _⟩ := ht; Heap.lt_size ho
  have sz : its.toArray.size = ns.length := by rw [List.size_toArray]; exact IntsAre.length hi
  refine call_min_walk (wpAny_pyIter_tuple ht ?_)
  refine ⟨_, _, _, _, _, _, _, rfl, Walks.tuple (A := A.in1) hh _ t (Nat.ne_of_lt hlt) its.toArray, ⟨⟨_, Heap.get?_push_size _ rfl, rfl, rfl⟩, ht.push _⟩, fun b hb => two_lt hlt hb, by rw [sz]; exact hne, CmpOf.ints_lt (fun i => ns.getD i 0) (ints_val hi), fun v g tk hP hk => ?_⟩
  obtain ⟨t', rfl⟩ := ints_val hi _ v hP
  obtain ⟨b1, b2⟩ := argBest_lt (fun i => ns.getD i 0) (its.toArray.size - 1)
  refine h g tk _ t' (fun b o e => new_keep rfl hk e) (ns_mem (m := 0) (by omega)) fun y hy => ?_
  obtain ⟨i, hi2, e⟩ := ns_at hy
  rw [← e]
  exact b2 i (by omega)
theorem sum_tup (hh : A.handled = none) (ht : s.heap.IsTuple t its.toArray) (hi : IntsAre its ns)
    (h : ∀ g tk t', (∀ b o, s.heap.get? b = some o → g.get? b = some o) → Q (.int ns.sum t') { s with heap := g, toks := tk }) : wpAny (model P w) A (call (.builtin "sum") [.ref t]) Q E s := by
  have hlt : t < s.heap.objs.size := let ⟨o, ho, _⟩ := ht; Heap.lt_size ho
  have sz : its.toArray.size = ns.length := by rw [List.size_toArray]; exact IntsAre.length hi
  refine call_sum_walkG (wpAny_pyIter_tuple ht ?_)
  refine ⟨_, _, _, _, _, _, fun i => ns.getD i 0, rfl, Walks.tuple (A := A.in1) hh _ t (Nat.ne_of_lt hlt) its.toArray, ⟨⟨_, Heap.get?_push_size _ rfl, rfl, rfl⟩, ht.push _⟩, fun b hb => two_lt hlt hb, ints_val hi, fun g tk t' hk => ?_⟩
  rw [sz, pre_take _ (Nat.le_refl _), List.take_length]
  exact h g tk t' fun b o e => new_keep rfl hk e
end
section
variable {X : Cx}
def rMaxS (K : PySem.W.Frag) : List V → Hp → VK → Prop := fun vs H Q => ∃ (a : Addr) (ns : List Int), vs = [V.ref a] ∧ (SqL K H a (ns.map V.int) ∨ SqT K H a (ns.map V.int)) ∧ 0 < ns.length ∧ ∀ m, m ∈ ns → (∀ y ∈ ns, y ≤ m) → Q (.int m) H
def rMinS (K : PySem.W.Frag) : List V → Hp → VK → Prop := fun vs H Q => ∃ (a : Addr) (ns : List Int), vs = [V.ref a] ∧ (SqL K H a (ns.map V.int) ∨ SqT K H a (ns.map V.int)) ∧ 0 < ns.length ∧ ∀ m, m ∈ ns → (∀ y ∈ ns, m ≤ y) → Q (.int m) H
def rSumS (K : PySem.W.Frag) : List V → Hp → VK → Prop := fun vs H Q => ∃ (a : Addr) (ns : List Int), vs = [V.ref a] ∧ (SqL K H a (ns.map V.int) ∨ SqT K H a (ns.map V.int)) ∧ Q (.int ns.sum) H
theorem cr_maxS (hc : X.calm = true) : CallR X (.builtin "max") (rMaxS X.K) := by
  intro pins s σ H vs us Q I r h
  obtain ⟨a, ns, rfl, hs, hne, q⟩ := h
  rw [Vals.ref1 r]
  rcases hs with hs | hs
  · obtain ⟨its, rv, hl, _⟩ := I.list hs
    exact max_raw (I.ok.hd hc) hl.isList rv.ints hne fun g tk m t' hk h1 h2 => ⟨.int _, H, I.kept hk, ⟨_, rfl⟩, q m h1 h2⟩
  · obtain ⟨its, rv, hl, _⟩ := I.tuple hs
    exact max_tup (I.ok.hd hc) hl rv.ints hne fun g tk m t' hk h1 h2 => ⟨.int _, H, I.kept hk, ⟨_, rfl⟩, q m h1 h2⟩
theorem cr_minS (hc : X.calm = true) : CallR X (.builtin "min") (rMinS X.K) := by
  intro pins s σ H vs us Q I r h
  obtain ⟨a, ns, rfl, hs, hne, q⟩ := h
  rw [Vals.ref1 r]
  rcases hs with hs | hs
  · obtain ⟨its, rv, hl, _⟩ := I.list hs
    exact min_raw (I.ok.hd hc) hl.isList rv.ints hne fun g tk m t' hk h1 h2 => ⟨.int _, H, I.kept hk, ⟨_, rfl⟩, q m h1 h2⟩
  · obtain ⟨its, rv, hl, _⟩ := I.tuple hs
    exact min_tup (I.ok.hd hc) hl rv.ints hne fun g tk m t' hk h1 h2 => ⟨.int _, H, I.kept hk, ⟨_, rfl⟩, q m h1 h2⟩
theorem cr_sumS (hc : X.calm = true) : CallR X (.builtin "sum") (rSumS X.K) := by
  intro pins s σ H vs us Q I r h
  obtain ⟨a, ns, rfl, hs, q⟩ := h
  rw [Vals.ref1 r]
  rcases hs with hs | hs
  · obtain ⟨its, rv, hl, _⟩ := I.list hs
    exact sum_raw (I.ok.hd hc) hl.isList rv.ints fun g tk t' hk => ⟨.int _, H, I.kept hk, ⟨_, rfl⟩, q⟩
  · obtain ⟨its, rv, hl, _⟩ := I.tuple hs
    exact sum_tup (I.ok.hd hc) hl rv.ints fun g tk t' hk => ⟨.int _, H, I.kept hk, ⟨_, rfl⟩, q⟩
theorem asNs_of {F H : Hp} {K : PySem.W.Frag} (s : Same F H) {ds : List D} {vs : List V} {R : List D → Prop} (r : RpL K F ds vs) (h : asNs ds R) : ∃ a us xs, vs = [.ref a] ∧ (SqL K H a us ∨ SqT K H a us) ∧ RpL K F xs us ∧ R xs := by
  unfold asNs at h
  split at h
  · obtain ⟨v, rfl, r1⟩ := r.one
    obtain ⟨a, us, rfl, h1, h2⟩ := r1.lstI
    exact ⟨a, us, _, rfl, .inl (s.seq h1), h2, h⟩
  · obtain ⟨v, rfl, r1⟩ := r.one
    obtain ⟨a, us, rfl, h1, h2⟩ := r1.tupI
    exact ⟨a, us, _, rfl, .inr (sameT s h1), h2, h⟩
  · exact h.elim
theorem b_maxS (hc : X.calm = true) : CallR X (.builtin "max") (rMaxS X.K) ∧ VC X.K (rMaxS X.K) pMax := ⟨cr_maxS hc, fun F H ds vs Qd Q s r h k => by
  obtain ⟨a, us, xs, rfl, h1, h2, ns, m, rfl, hm, hy, q⟩ := asNs_of s r h
  have e := ints_rp h2
  subst e
  refine ⟨a, ns, rfl, h1, List.length_pos_of_mem hm, fun m' hm' hy' => ?_⟩
  have : m' = m := Int.le_antisymm (hy m' hm') (hy' m hm)
  subst this
  exact k _ F H _ (.refl s) (.int _) q⟩
theorem b_minS (hc : X.calm = true) : CallR X (.builtin "min") (rMinS X.K) ∧ VC X.K (rMinS X.K) pMin := ⟨cr_minS hc, fun F H ds vs Qd Q s r h k => by
  obtain ⟨a, us, xs, rfl, h1, h2, ns, m, rfl, hm, hy, q⟩ := asNs_of s r h
  have e := ints_rp h2
  subst e
  refine ⟨a, ns, rfl, h1, List.length_pos_of_mem hm, fun m' hm' hy' => ?_⟩
  have : m' = m := Int.le_antisymm (hy' m hm) (hy m' hm')
  subst this
  exact k _ F H _ (.refl s) (.int _) q⟩
theorem b_sumS (hc : X.calm = true) : CallR X (.builtin "sum") (rSumS X.K) ∧ VC X.K (rSumS X.K) pSumS := ⟨cr_sumS hc, fun F H ds vs Qd Q s r h k => by
  obtain ⟨a, us, xs, rfl, h1, h2, n, e, q⟩ := asNs_of s r h
  obtain ⟨bs, rfl, e2⟩ := ints_of_sum e h2
  exact ⟨a, bs, rfl, h1, by rw [e2]; exact k _ F H _ (.refl s) (.int _) q⟩⟩
theorem qf_cat {a b : Expr} {ta tb : Ex} {pos : Pos} (ha : QE X a ta) (hb : QE X b tb) : QF X (.BinOp a .Add b pos) (e2 oCatL ta tb) :=
  imp_PE (pe_op op_catL ha hb) fun σ H Q h => by
    obtain ⟨F0, B, F, δ, Qd, S, h, k⟩ := h
    refine ⟨F0, B, F, δ, _, S, h, fun v F1 H1 x x1 r1 q1 => ⟨F0, B, F1, δ, _, S.mono x1, q1, fun u F2 H2 y x2 r2 q2 => ?_⟩⟩
    cases x with
    | lst xs =>
      cases y with
      | lst ys =>
        obtain ⟨p, vs, rfl, h1, h2⟩ := (r1.mono x2.f).lstI
        obtain ⟨q, us, rfl, g1, g2⟩ := r2.lstI
        refine ⟨p, q, vs, us, rfl, rfl, x2.s.seq h1, x2.s.seq g1, by rw [line_eq, h2.len, g2.len]; exact q2.1, fun l hl => ?_⟩
        have x12 := x1.trans x2
        have sH : Same H2 (upd H2 l (.lst (vs ++ us))) := upd_same_of hl
        exact k l (vs ++ us) (xs ++ ys) F2 _ ⟨x12.f, x12.h.trans sH, x12.s.trans sH, x12.n⟩ (x12.h.free hl) (x12.s.free hl) upd_same (h2.app g2) q2.2
      | _ => exact q2.elim
    | _ => cases y <;> exact q2.elim
theorem qf_rep {a b : Expr} {ta tb : Ex} {pos : Pos} (ha : QF X a ta) (hb : QE X b tb) : QF X (.BinOp a .Mult b pos) (e2 oRepL ta tb) :=
  imp_PE (pe_op op_rep ha hb) fun σ H Q h => by
    obtain ⟨F0, B, F, δ, Qd, S, h, k⟩ := h
    refine ⟨F0, B, F, δ, _, S, h, fun p vs xs F1 H1 x1 hp0 hp1 hp r1 q1 => ⟨F0, B, F1, δ, _, S.mono x1, q1, fun u F2 H2 y x2 r2 q2 => ?_⟩⟩
    cases y with
    | int n =>
      refine ⟨p, n, vs, rfl, r2.intI, x2.h _ _ hp, q2.1.1, q2.1.2.1, by rw [line_eq, r1.len]; exact q2.1.2.2, fun l hl => ?_⟩
      have x12 := x1.trans x2
      have sH : Same H2 (upd H2 l (.lst (List.replicate n.toNat vs).flatten)) := upd_same_of hl
      exact k l _ _ F2 _ ⟨x12.f, x12.h.trans sH, x12.s.trans sH, x12.n⟩ (x12.h.free hl) (x12.s.free hl) upd_same ((r1.mono x2.f).rep n.toNat) q2.2
    | _ => exact q2.elim
end
end PL

set_option Elab.async false
set_option linter.all false
set_option maxRecDepth 100000
/-! PLS10: chains of three comparisons. -/
namespace PL
open PySem PySem.Spec PyProof.Rows L2
section
variable {X : Cx} {a b c d : Expr} {ta tb tc td : Ex} {pos : Pos}
theorem q_chn3 {op op' op'' : CmpOp} {r r' r'' : R2} {p q t : Op2} (ho : OpR X (compareOp op) r ∧ V2 X.K r p) (ho' : OpR X (compareOp op') r' ∧ V2 X.K r' q) (ho'' : OpR X (compareOp op'') r'' ∧ V2 X.K r'' t) (ha : QE X a ta) (hb : QE X b tb) (hc : QE X c tc) (hd : QE X d td)
    (hm : lastMarks [op, op', op''] [b, c, d] = false := by with_unfolding_all rfl) : QE X (.Compare a [op, op', op''] [b, c, d] pos) (eChn3 p q t ta tb tc td) := by
  refine ⟨fun pins s σ H Q I h => ?_⟩
  obtain ⟨F0, B, F, δ, Qd, S, h, k⟩ := h
  refine Compare_chain (thn (ha.run pins s σ H (fun v H1 => ∃ F1 x, Ext F H F1 H1 ∧ Rp X.K F1 x v ∧ (tb δ fun y => p x y fun z => asB z fun k => if k = true then tc δ fun w => q y w fun z => asB z fun k => if k = true then td δ fun v => t w v Qd else Qd (.bl false) else Qd (.bl false))) I
    ⟨F0, B, F, δ, _, S, h, fun v F1 H1 d x1 r1 q1 => ⟨F1, d, x1, r1, q1⟩⟩) fun v s1 ⟨vx, H1, I1, rv, F1, x, x1, rx, h1⟩ => ?_) hm
  refine chain_link (thn (hb.run pins s1 σ H1 (fun v H2 => ∃ F2 y, Ext F1 H1 F2 H2 ∧ Rp X.K F2 y v ∧ (p x y fun z => asB z fun k => if k = true then tc δ fun w => q y w fun z => asB z fun k => if k = true then td δ fun v => t w v Qd else Qd (.bl false) else Qd (.bl false))) I1
    ⟨F0, B, F1, δ, _, S.mono x1, h1, fun v F2 H2 d x2 r2 q2 => ⟨F2, d, x2, r2, q2⟩⟩) fun u s2 ⟨vy, H2, I2, ru, F2, y, x2, ry, h2⟩ => ?_)
  refine thn (ho.1 pins s2 σ H2 vx vy v u (fun w H3 => ∃ F3 k, Ext F2 H2 F3 H3 ∧ w = .bl k ∧ (if k = true then tc δ fun w => q y w fun z => asB z fun k => if k = true then td δ fun v => t w v Qd else Qd (.bl false) else Qd (.bl false))) I2 rv ru
    (ho.2 F2 H2 x y vx vy _ _ x2.s (rx.mono x2.f) ry h2 fun w F3 H3 d x3 r3 q3 => ?_)) fun dv s3 ⟨z, H3, I3, r3, F3, kk, x3, e, h3⟩ => ?_
  · cases d with
    | bl c => exact ⟨F3, c, x3, r3.blI, q3⟩
    | _ => exact q3.elim
  subst e
  cases r3
  refine wpAny_truthy_bool ?_
  have x13 := (x1.trans x2).trans x3
  cases kk with
  | false => rw [if_neg Bool.false_ne_true]; exact ⟨.bl false, H3, I3, rfl, k _ F3 H3 (.bl false) x13 (.bl false) h3⟩
  | true =>
    rw [if_pos rfl]; refine (chain_link (thn (hc.run pins s3 σ H3 (fun v H4 => ∃ F4 w, Ext F3 H3 F4 H4 ∧ Rp X.K F4 w v ∧ (q y w fun z => asB z fun k => if k = true then td δ fun v => t w v Qd else Qd (.bl false))) I3
      ⟨F0, B, F3, δ, _, S.mono x13, h3, fun v F4 H4 d x4 r4 q4 => ⟨F4, d, x4, r4, q4⟩⟩) fun w' s4 ⟨vw, H4, I4, rw4, F4, w, x4, rw, h4⟩ => ?_))
    refine thn (ho'.1 pins s4 σ H4 vy vw u w' (fun w5 H5 => ∃ F5 k, Ext F4 H4 F5 H5 ∧ w5 = .bl k ∧ (if k = true then td δ fun v => t w v Qd else Qd (.bl false))) I4 ru rw4
      (ho'.2 F4 H4 y w vy vw _ _ x4.s (ry.mono (x3.f.trans x4.f)) rw h4 fun w5 F5 H5 d x5 r5 q5 => ?_)) fun dv s5 ⟨z, H5, I5, r5, F5, kk, x5, e, h5⟩ => ?_
    · cases d with
      | bl c => exact ⟨F5, c, x5, r5.blI, q5⟩
      | _ => exact q5.elim
    subst e
    cases r5
    refine wpAny_truthy_bool ?_
    have x15 := (x13.trans x4).trans x5
    cases kk with
    | false => rw [if_neg Bool.false_ne_true]; exact ⟨.bl false, H5, I5, rfl, k _ F5 H5 (.bl false) x15 (.bl false) h5⟩
    | true =>
      rw [if_pos rfl]; refine (chain_last (thn (hd.run pins s5 σ H5 (fun v H6 => ∃ F6 z, Ext F5 H5 F6 H6 ∧ Rp X.K F6 z v ∧ t w z Qd) I5
        ⟨F0, B, F5, δ, _, S.mono x15, h5, fun v F6 H6 d x6 r6 q6 => ⟨F6, d, x6, r6, q6⟩⟩) fun v6 s6 ⟨vz, H6, I6, rv6, F6, z, x6, rz, h6⟩ => ?_))
      exact ho''.1 pins s6 σ H6 vw vz w' v6 Q I6 rw4 rv6 (ho''.2 F6 H6 w z vw vz Qd Q x6.s (rw.mono (x5.f.trans x6.f)) rz h6 fun w7 F7 H7 d x7 r7 q7 => k w7 F7 H7 d ((x15.trans x6).trans x7) r7 q7)
end
end PL

namespace G
open PL
open PySem (Str)
local macro_rules | `(tactic| simp_wf) => `(tactic| ((try simp only [sSeq, sNil, sRet, sRetN, sIf, sAsg, sPar, sAug, sOwn, sFrz, sFgt, sEnd, sApp, sSet, sDrop, sBrk, sCnt, eVar, eC, e1, e2, eIxS, eLenS, eTupleS, tB, tTru, tAnd, tOr, tNot, eAnd, eOr, eNot, eIf, eChn, aNil, aCons, eTup, eLst, eCall, eIsI, oEq, oNe, oIsN, oNotN, frz1, endsOf, iSeq, iRng1, iRng2, sFor, eLc, wp, tYes, eSlice, oNo, oSome, startP, oIn_t, oIn_l, oNin_t, oNin_l, flatD_i, flatD_b, flatD_n, flatD_s, any_int, flat_ints, oRev_l, oRev_t, pMax_l, pMax_t, pMin_l, pMin_t, pSumS_l, pSumS_t, oRepL_, oCatL_, rep_one, asVal_, asOwn_, asB_, asI_, asSeq_t, asSeq_l, asLst_, frzS_, truD_b, truD_i, truD_n, truD_t, truD_l, truD_s, oAdd_ii, oAddI_ii, oSub_ii, oMul_ii, oFdiv_ii, oFdivN_ii, oMod_ii, oModN_ii, oPow_ii, oLt_ii, oLe_ii, oGt_ii, oGe_ii, oAdd_tt, oAdd_ll, oAdd_ss, oNeg_i, oIx_t, oIx_l, oIx_s, oCut_t, oCut_l, pLen_t, pLen_l, pLen_s, pAbs_, pInt_i, pInt_b, pMax2_, pMin2_, pTuple_t, pTuple_l, pList_t, pList_l, pAllL_, pAnyL_, pSumL_, isTy_nint, isTy_nbool, isTy_nstr, isTy_ntuple, isTy_nlist, isTy_bint, isTy_bbool, isTy_bstr, isTy_btuple, isTy_blist, isTy_iint, isTy_ibool, isTy_istr, isTy_ituple, isTy_ilist, isTy_sint, isTy_sbool, isTy_sstr, isTy_stuple, isTy_slist, isTy_tint, isTy_tbool, isTy_tstr, isTy_ttuple, isTy_tlist, isTy_lint, isTy_lbool, isTy_lstr, isTy_ltuple, isTy_llist, tg_nm, tg_tp, tgL_nil, tgL_cons, shp_n, shp_b, shp_i, shp_t, shp_l, shpL_nil, shpL_cons, eqv_non_int, eqv_int_non, eqv_str_int, eqv_int_str, eqv_tup_int, eqv_int_tup, eqv_lst_int, eqv_int_lst, eqv_bb, eqv_nn, eqv_tt, eqv_ll, eqvL_nn, eqvL_cc, eqvL_nc, eqvL_cn, gt_zero, gt_succ, st_zero, st_succ, List.map_cons, List.map_nil, List.length_cons, List.length_nil, Nat.reduceAdd, Nat.reduceSub, List.replicate, List.cons_append, List.nil_append, eqv_int, if_true, ite_ff, Bool.false_eq_true, if_false, decide_eq_true_eq, true_and, and_true, and_self, beq_iff_eq, Bool.not_eq_true', decide_eq_false_iff_not, bne_iff_ne, ne_eq, reduceIte, Bool.true_and, Bool.and_true, Bool.and_self, reduceCtorEq, decide_true, decide_false, Bool.not_true, Bool.not_false, Nat.reduceLeDiff, Int.reduceLE, Int.reducePow, Int.reduceNeg, Int.reduceLT, Int.reduceToNat, Nat.reduceMul, Int.reduceAdd, Int.reduceMul, Int.reduceSub, Nat.reduceLT, mulB_l, mulB_r, Int.reduceEq, Nat.reduceEqDiff, Int.reduceMod, Int.reduceDiv, eq_self, beq_self_eq_true, Bool.true_beq, Bool.false_beq, not_true_eq_false, not_false_eq_true]); (repeat ((refine nxt ?_); (try simp only [sSeq, sNil, sRet, sRetN, sIf, sAsg, sPar, sAug, sOwn, sFrz, sFgt, sEnd, sApp, sSet, sDrop, sBrk, sCnt, eVar, eC, e1, e2, eIxS, eLenS, eTupleS, tB, tTru, tAnd, tOr, tNot, eAnd, eOr, eNot, eIf, eChn, aNil, aCons, eTup, eLst, eCall, eIsI, oEq, oNe, oIsN, oNotN, frz1, endsOf, iSeq, iRng1, iRng2, sFor, eLc, wp, tYes, eSlice, oNo, oSome, startP, oIn_t, oIn_l, oNin_t, oNin_l, flatD_i, flatD_b, flatD_n, flatD_s, any_int, flat_ints, oRev_l, oRev_t, pMax_l, pMax_t, pMin_l, pMin_t, pSumS_l, pSumS_t, oRepL_, oCatL_, rep_one, asVal_, asOwn_, asB_, asI_, asSeq_t, asSeq_l, asLst_, frzS_, truD_b, truD_i, truD_n, truD_t, truD_l, truD_s, oAdd_ii, oAddI_ii, oSub_ii, oMul_ii, oFdiv_ii, oFdivN_ii, oMod_ii, oModN_ii, oPow_ii, oLt_ii, oLe_ii, oGt_ii, oGe_ii, oAdd_tt, oAdd_ll, oAdd_ss, oNeg_i, oIx_t, oIx_l, oIx_s, oCut_t, oCut_l, pLen_t, pLen_l, pLen_s, pAbs_, pInt_i, pInt_b, pMax2_, pMin2_, pTuple_t, pTuple_l, pList_t, pList_l, pAllL_, pAnyL_, pSumL_, isTy_nint, isTy_nbool, isTy_nstr, isTy_ntuple, isTy_nlist, isTy_bint, isTy_bbool, isTy_bstr, isTy_btuple, isTy_blist, isTy_iint, isTy_ibool, isTy_istr, isTy_ituple, isTy_ilist, isTy_sint, isTy_sbool, isTy_sstr, isTy_stuple, isTy_slist, isTy_tint, isTy_tbool, isTy_tstr, isTy_ttuple, isTy_tlist, isTy_lint, isTy_lbool, isTy_lstr, isTy_ltuple, isTy_llist, tg_nm, tg_tp, tgL_nil, tgL_cons, shp_n, shp_b, shp_i, shp_t, shp_l, shpL_nil, shpL_cons, eqv_non_int, eqv_int_non, eqv_str_int, eqv_int_str, eqv_tup_int, eqv_int_tup, eqv_lst_int, eqv_int_lst, eqv_bb, eqv_nn, eqv_tt, eqv_ll, eqvL_nn, eqvL_cc, eqvL_nc, eqvL_cn, gt_zero, gt_succ, st_zero, st_succ, List.map_cons, List.map_nil, List.length_cons, List.length_nil, Nat.reduceAdd, Nat.reduceSub, List.replicate, List.cons_append, List.nil_append, eqv_int, if_true, ite_ff, Bool.false_eq_true, if_false, decide_eq_true_eq, true_and, and_true, and_self, beq_iff_eq, Bool.not_eq_true', decide_eq_false_iff_not, bne_iff_ne, ne_eq, reduceIte, Bool.true_and, Bool.and_true, Bool.and_self, reduceCtorEq, decide_true, decide_false, Bool.not_true, Bool.not_false, Nat.reduceLeDiff, Int.reduceLE, Int.reducePow, Int.reduceNeg, Int.reduceLT, Int.reduceToNat, Nat.reduceMul, Int.reduceAdd, Int.reduceMul, Int.reduceSub, Nat.reduceLT, mulB_l, mulB_r, Int.reduceEq, Nat.reduceEqDiff, Int.reduceMod, Int.reduceDiv, eq_self, beq_self_eq_true, Bool.true_beq, Bool.false_beq, not_true_eq_false, not_false_eq_true])))))

/-- the sum of the divisors of n, by the loop -/
def lpS : Nat → Nat → Nat → Nat → Nat
  | 0, _, _, t => t
  | f + 1, n, d, t => bif Nat.ble (d * d) n then lpS f n (d + 1) (bif Nat.beq (n % d) 0 then t + d + (bif Nat.ble n (d * d) then 0 else n / d) else t) else t
def totN (n : Nat) : Nat := lpS n n 1 0
def lpD : Nat → Nat → Nat → List Nat → List Nat → List Nat × List Nat
  | 0, _, _, lo, hi => (lo, hi)
  | f + 1, n, d, lo, hi => if d * d ≤ n then (if n % d = 0 then (if d * d < n then lpD f n (d + 1) (lo ++ [d]) (hi ++ [n / d]) else lpD f n (d + 1) (lo ++ [d]) hi) else lpD f n (d + 1) lo hi) else (lo, hi)
def dvN (n : Nat) : List Nat := (lpD n n 1 [] []).1 ++ (lpD n n 1 [] []).2.reverse
theorem lpD_sum (n : Nat) : ∀ f d lo hi, (lpD f n d lo hi).1.sum + (lpD f n d lo hi).2.sum = lpS f n d (lo.sum + hi.sum)
  | 0, d, lo, hi => rfl
  | f + 1, d, lo, hi => by
    unfold lpD lpS
    by_cases h1 : d * d ≤ n
    · rw [if_pos h1, Nat.ble_eq.mpr h1, cond_true]
      by_cases h2 : n % d = 0
      · rw [if_pos h2, h2, Nat.beq_refl, cond_true]
        by_cases h3 : d * d < n
        · have : Nat.ble n (d * d) = false := by rw [Bool.eq_false_iff]; intro h; have := Nat.ble_eq.mp h; omega
          rw [if_pos h3, this, cond_false, lpD_sum n f]
          congr 1; simp; omega
        · have : Nat.ble n (d * d) = true := Nat.ble_eq.mpr (by omega)
          rw [if_neg h3, this, cond_true, lpD_sum n f]
          congr 1; simp; omega
      · have : Nat.beq (n % d) 0 = false := by rw [Bool.eq_false_iff]; intro h; exact h2 (Nat.eq_of_beq_eq_true h)
        rw [if_neg h2, this, cond_false, lpD_sum n f]
    · have : Nat.ble (d * d) n = false := by rw [Bool.eq_false_iff]; intro h; exact h1 (Nat.ble_eq.mp h)
      rw [if_neg h1, this, cond_false]
theorem dvN_sum (n : Nat) : (dvN n).sum = totN n := by
  unfold dvN totN
  rw [List.sum_append, List.sum_reverse, lpD_sum]; rfl
theorem lpS_le (n : Nat) : ∀ f d t, lpS f n d t ≤ t + f * (2 * n)
  | 0, d, t => by simp [lpS]
  | f + 1, d, t => by
    unfold lpS
    cases h1 : Nat.ble (d * d) n with
    | false => rw [cond_false]; exact Nat.le_add_right _ _
    | true =>
      rw [cond_true]
      have h1 := Nat.ble_eq.mp h1
      have hd : d ≤ n := by
        rcases Nat.eq_zero_or_pos d with e | e
        · omega
        · exact Nat.le_trans (Nat.le_mul_of_pos_left d e) h1
      have hq : n / d ≤ n := Nat.div_le_self _ _
      refine Nat.le_trans (lpS_le n f _ _) ?_
      rw [show (f + 1) * (2 * n) = f * (2 * n) + 2 * n from Nat.succ_mul _ _]
      cases Nat.beq (n % d) 0 <;> cases Nat.ble n (d * d) <;> simp only [cond_true, cond_false] <;> omega
theorem totN_le (n : Nat) : totN n ≤ n * (2 * n) := by
  have := lpS_le n n 1 0
  unfold totN; omega
/-- the tallest d of the loop -/
theorem sq_lt {d n : Nat} (h : n < d) : ¬ d * d ≤ n := by
  intro h2
  have : d * 1 ≤ d * d := Nat.mul_le_mul_left d (by omega)
  omega
theorem sq_big {n d : Nat} (h : d * d ≤ n) : d ≤ n := by
  rcases Nat.lt_or_ge n d with c | c
  · exact absurd h (sq_lt c)
  · exact c
/-- no divisor from d on -/
def lpA : Nat → Nat → Nat → Bool
  | 0, _, _ => true
  | f + 1, n, d => bif Nat.ble (d * d) n then (bif Nat.beq (n % d) 0 then false else lpA f n (d + 1)) else true
def aloneB (n : Nat) : Bool := lpA n n 2 && Nat.blt 1 n
def restN (n : Nat) : Int := (totN n : Int) - n
def nxN (n : Nat) : Nat := totN n - n
def chN : Nat → Nat → List Nat
  | 0, x => [x]
  | k + 1, x => if 1 < x then x :: chN k (nxN x) else [x]
theorem lpS_ge (n : Nat) : ∀ f d t, t ≤ lpS f n d t
  | 0, d, t => Nat.le_refl _
  | f + 1, d, t => by
    unfold lpS
    cases h1 : Nat.ble (d * d) n with
    | false => exact Nat.le_refl _
    | true =>
      rw [cond_true]
      refine Nat.le_trans ?_ (lpS_ge n f _ _)
      cases Nat.beq (n % d) 0 <;> simp only [cond_true, cond_false] <;> omega
theorem totN_ge {n : Nat} (h : 1 ≤ n) : n ≤ totN n := by
  obtain ⟨f, rfl⟩ : ∃ f, n = f + 1 := ⟨n - 1, by omega⟩
  unfold totN lpS
  have h1 : Nat.ble (1 * 1) (f + 1) = true := Nat.ble_eq.mpr (by omega)
  rw [h1, cond_true, Nat.mod_one, Nat.beq_refl, cond_true]
  refine Nat.le_trans ?_ (lpS_ge _ _ _ _)
  cases h2 : Nat.ble (f + 1) (1 * 1) with
  | true => have := Nat.ble_eq.mp h2; rw [cond_true]; omega
  | false => rw [cond_false, Nat.div_one]; omega
theorem restN_nx {n : Nat} (h : 1 ≤ n) : restN n = (nxN n : Nat) := by
  have := totN_ge h
  unfold restN nxN; omega
def numL (ns : List Nat) : List D := ns.map fun (x : Nat) => D.int x
theorem numL_app (a b : List Nat) : numL (a ++ b) = numL a ++ numL b := by simp [numL]
theorem sumD_num (ns : List Nat) : sumD (numL ns) = some (ns.sum : Nat) := by
  induction ns with
  | nil => rfl
  | cons x xs ih =>
    show (sumD (numL xs)).map ((x : Int) + ·) = _
    rw [ih, List.sum_cons]; simp

def p_divisors_of : Pm := fun ds Q => ∃ n : Nat, ds = [.int n] ∧ n ≤ 1000000000 ∧ Q (.tup (numL (dvN n)))
def p_power_of : Pm := fun ds Q => ∃ k : Nat, ds = [.int 2, .int k] ∧ k ≤ 60 ∧ Q (.int ((2 ^ k : Nat) : Int))
def p_rest_sum : Pm := fun ds Q => ∃ n : Nat, ds = [.int n] ∧ n ≤ 1000000000 ∧ Q (.int (restN n))
def p_has_two_divisors : Pm := fun ds Q => ∃ n : Nat, ds = [.int n] ∧ n ≤ 1000000000 ∧ Q (.bl (decide ((dvN n).length = 2)))
def p_is_perfect : Pm := fun ds Q => ∃ n : Nat, ds = [.int n] ∧ n ≤ 1000000000 ∧ Q (.bl (decide (restN n = n)))
def p_perfect_at : Pm := fun ds Q => ∃ k : Nat, ds = [.int (k + 1 : Nat)] ∧ k ≤ 20 ∧ Q (if (dvN (2 ^ (k + 1) - 1)).length = 2 then .int ((2 ^ k * (2 ^ (k + 1) - 1) : Nat) : Int) else .non)
def p_are_friends : Pm := fun ds Q => ∃ a b : Nat, ds = [.int a, .int b] ∧ a ≤ 1000000000 ∧ b ≤ 1000000000 ∧ Q (.bl (decide (a ≠ b ∧ restN a = b ∧ restN b = a)))
def p_chain_from : Pm := fun ds Q => ∃ n k : Nat, ds = [.int n, .int (k + 1 : Nat)] ∧ k ≤ 100 ∧ 1 ≤ n ∧ (∀ x ∈ chN k n, x ≤ 1000000000) ∧ Q (.tup (numL (chN k n)))
def p__law_cell : Pm := fun ds Q => ∃ (ns : List Int) (k : Int), ds = [.lst (ns.map .int), .int k] ∧ 0 ≤ k ∧ k ≤ 1000 ∧ ∀ i : Int, Q (.int i)
def p__law_draws : Pm := fun ds Q => ∃ c n : Int, ds = [.int c, .int n] ∧ 0 ≤ n ∧ n ≤ 1000000 ∧ ∀ xs : List Int, (xs.length : Int) = n → (∀ x ∈ xs, 0 ≤ x ∧ x < 5040) → Q (.lst (xs.map .int))
def isInt : D → Bool
  | .int _ => true
  | _ => false
def p__law_is_integer : Pm := fun ds Q => ∃ v, ds = [v] ∧ Q (.bl (isInt v))
mutual
/-- what a due datum may be: no list; tuples short; texts of true signs -/
def dueOk : Nat → D → Bool
  | _, .non => true
  | _, .bl _ => true
  | _, .int _ => true
  | _, .str x => strOkD x
  | 0, .tup _ => false
  | n + 1, .tup xs => decide (xs.length ≤ 1000000) && dueOkL n xs
  | _, .lst _ => false
def dueOkL : Nat → List D → Bool
  | _, [] => true
  | n, x :: xs => dueOk n x && dueOkL n xs
end
theorem dueOk_n {n : Nat} : dueOk n .non = true := by cases n <;> simp only [dueOk]
theorem dueOk_b {n : Nat} {b : Bool} : dueOk n (.bl b) = true := by cases n <;> simp only [dueOk]
theorem dueOk_i {n : Nat} {i : Int} : dueOk n (.int i) = true := by cases n <;> simp only [dueOk]
theorem dueOk_t {n : Nat} {xs : List D} : dueOk (n + 1) (.tup xs) = (decide (xs.length ≤ 1000000) && dueOkL n xs) := by simp only [dueOk]
theorem dueOkL_nil {n : Nat} : dueOkL n [] = true := by simp only [dueOkL]
theorem dueOkL_cons {n : Nat} {x : D} {xs : List D} : dueOkL n (x :: xs) = (dueOk n x && dueOkL n xs) := by simp only [dueOkL]
theorem dueOkL_all {n : Nat} {xs : List D} : dueOkL n xs = xs.all (dueOk n) := by
  induction xs with
  | nil => simp only [dueOkL, List.all_nil]
  | cons x xs ih => simp only [dueOkL, List.all_cons, ih]
mutual
/-- the texts within are of true signs -/
def txtOk : D → Bool
  | .str x => strOkD x
  | .tup xs => txtOkL xs
  | .lst xs => txtOkL xs
  | _ => true
def txtOkL : List D → Bool
  | [] => true
  | x :: xs => txtOk x && txtOkL xs
end
theorem txtOk_i {i : Int} : txtOk (.int i) = true := by simp only [txtOk]
theorem txtOk_b {b : Bool} : txtOk (.bl b) = true := by simp only [txtOk]
theorem txtOk_n : txtOk .non = true := by simp only [txtOk]
theorem txtOk_t {xs : List D} : txtOk (.tup xs) = txtOkL xs := by simp only [txtOk]
theorem txtOkL_nil : txtOkL [] = true := by simp only [txtOkL]
theorem txtOkL_cons {x : D} {xs : List D} : txtOkL (x :: xs) = (txtOk x && txtOkL xs) := by simp only [txtOkL]
theorem txtOkL_all {xs : List D} : txtOkL xs = xs.all txtOk := by
  induction xs with
  | nil => simp only [txtOkL, List.all_nil]
  | cons x xs ih => simp only [txtOkL, List.all_cons, ih]
def pr__law_is : Nat → Pm
  | 0 => fun _ _ => False
  | n + 1 => fun ds Q => ∃ v due, ds = [v, due] ∧ txtOk v = true ∧ dueOk n due = true ∧ Q (.bl (decide (v = due)))
def p__law_is : Pm := fun ds Q => ∃ v due, ds = [v, due] ∧ txtOk v = true ∧ dueOk 11 due = true ∧ Q (.bl (decide (v = due)))
def p__law_rest : Pm := fun ds Q => ∃ n : Nat, ds = [.int n] ∧ n ≤ 1000000000 ∧ Q (.int (restN n))
def p__law_alone : Pm := fun ds Q => ∃ n : Nat, ds = [.int n] ∧ 1 ≤ n ∧ n ≤ 1000000000 ∧ Q (.bl (aloneB n))
def p__law_twos : Pm := fun ds Q => ∃ k : Nat, ds = [.int k] ∧ k ≤ 60 ∧ Q (.int ((2 ^ k : Nat) : Int))
def p__law_chain : Pm := fun ds Q => ∃ n k : Nat, ds = [.int n, .int (k + 1 : Nat)] ∧ k ≤ 100 ∧ 1 ≤ n ∧ (∀ x ∈ chN k n, x ≤ 1000000000) ∧ Q (.tup (numL (chN k n)))
def p_law : Pm := pLaw
def b_divisors_of : Sm :=
  (sSeq (sOwn 1 (eLst aNil))
    (sSeq (sOwn 2 (eLst aNil))
    (sSeq (sAsg (eC (.int 1)) (.nm 3))
    (sSeq (sWhile (tB (e2 oLe (e2 oMul (eVar 3) (eVar 3)) (eVar 0))) (sCut [] (sIf (tB (e2 oEq (e2 oMod (eVar 0) (eVar 3)) (eC (.int 0)))) (sSeq (sApp 1 (eVar 3))
    (sIf (tB (e2 oLt (e2 oMul (eVar 3) (eVar 3)) (eVar 0))) (sApp 2 (e2 oFdiv (eVar 0) (eVar 3))) sNil)) sNil)
    (sAug 3 oAddI (eC (.int 1)))))
    (sFrz 1 (sFrz 2 (sRet (eCall pTuple (aCons (e2 oAdd (eVar 1) (e1 oRev (eVar 2))) aNil)))))))))
def b_power_of : Sm :=
  (sSeq (sAsg (eC (.int 1)) (.nm 2))
    (sSeq (sFor [1, 3] (iRng1 (eVar 1)) (.nm 3) (sEnd [1, 3] (sAug 2 oMul (eVar 0))))
    (sRet (eVar 2))))
def b_rest_sum : Sm :=
  (sRet (e2 oSub (eCall pSumS (aCons (eCall p_divisors_of (aCons (eVar 0) aNil)) aNil)) (eVar 0)))
def b_has_two_divisors : Sm :=
  (sRet (e2 oEq (eCall pLen (aCons (eCall p_divisors_of (aCons (eVar 0) aNil)) aNil)) (eC (.int 2))))
def b_is_perfect : Sm :=
  (sRet (e2 oEq (eCall p_rest_sum (aCons (eVar 0) aNil)) (eVar 0)))
def b_perfect_at : Sm :=
  (sSeq (sAsg (e2 oSub (eCall p_power_of (aCons (eC (.int 2)) (aCons (eVar 0) aNil))) (eC (.int 1))) (.nm 1))
    (sSeq (sIf (tNot (tTru (eCall p_has_two_divisors (aCons (eVar 1) aNil)))) (sRet (eC .non)) sNil)
    (sRet (e2 oMul (eCall p_power_of (aCons (eC (.int 2)) (aCons (e2 oSub (eVar 0) (eC (.int 1))) aNil))) (eVar 1)))))
def b_are_friends : Sm :=
  (sRet (eAnd (e2 oNe (eVar 0) (eVar 1)) (eAnd (e2 oEq (eCall p_rest_sum (aCons (eVar 0) aNil)) (eVar 1)) (e2 oEq (eCall p_rest_sum (aCons (eVar 1) aNil)) (eVar 0)))))
def b_chain_from : Sm :=
  (sSeq (sOwn 2 (eLst (aCons (eVar 0) aNil)))
    (sSeq (sFgt [0] (sWhile (tAnd (tB (e2 oLt (eLenS 2) (eVar 1))) (tB (e2 oGt (eIxS 2 (e1 oNeg (eC (.int 1)))) (eC (.int 1))))) (sEnd [0] (sApp 2 (eCall p_rest_sum (aCons (eIxS 2 (e1 oNeg (eC (.int 1)))) aNil))))))
    (sRet (eTupleS 2))))
def b__law_cell : Sm :=
  (sSeq (sIf (tB (e2 oLt (eVar 1) (eCall pLen (aCons (eVar 0) aNil)))) (sRet (e2 oIx (eVar 0) (eVar 1))) sNil)
    (sRet (e2 oAdd (e2 oMul (eC (.int 5)) (eVar 1)) (eC (.int 3)))))
def b__law_draws : Sm :=
  (sSeq (sAsg (eCall pAbs (aCons (eCall pInt (aCons (eVar 0) aNil)) aNil)) (.nm 2))
    (sSeq (sAsg (e2 oGe (eVar 2) (e2 oPow (eC (.int 10)) (eC (.int 18)))) (.nm 3))
    (sSeq (sAsg (eVar 2) (.nm 4))
    (sSeq (sOwn 5 (eLst aNil))
    (sSeq (sFor [0, 1, 6, 7] (iRng1 (eVar 1)) (.nm 6) (sEnd [0, 1, 6, 7] (sIf (tAnd (tTru (eVar 3)) (tB (e2 oGt (eVar 2) (eC (.int 0))))) (sSeq (sApp 5 (e2 oMod (eCall pInt (aCons (eVar 2) aNil)) (eC (.int 5040))))
    (sAsg (e2 oFdiv (eVar 2) (eC (.int 5040))) (.nm 2))) (sSeq (sAsg (e2 oMod (eCall pInt (aCons (e2 oAdd (e2 oAdd (e2 oMul (eVar 4) (eC (.int 48271))) (e2 oMul (e2 oAdd (eVar 6) (eC (.int 1))) (eC (.int 69621)))) (eC (.int 11))) aNil)) (eC (.int 2147483647))) (.nm 7))
    (sSeq (sAsg (e2 oMod (eCall pInt (aCons (e2 oAdd (e2 oMul (eVar 7) (eVar 7)) (e2 oMul (eC (.int 40692)) (e2 oAdd (eVar 6) (eC (.int 3))))) aNil)) (eC (.int 2147483399))) (.nm 7))
    (sApp 5 (e2 oMod (eCall pInt (aCons (e2 oFdiv (eVar 7) (eC (.int 64))) aNil)) (eC (.int 5040)))))))))
    (sFrz 5 (sRet (eVar 5))))))))
def b__law_is_integer : Sm :=
  (sRet (eAnd (eIsI .int (eVar 0)) (eNot (eIsI .bool (eVar 0)))))
def b__law_is (self : Pm) : Sm :=
  (sSeq (sIf (tB (oIsN (eVar 1))) (sRet (oIsN (eVar 0))) sNil)
    (sSeq (sIf (tTru (eIsI .bool (eVar 1))) (sRet (eAnd (eIsI .bool (eVar 0)) (e2 oEq (eVar 0) (eVar 1)))) sNil)
    (sSeq (sIf (tTru (eIsI .int (eVar 1))) (sRet (eAnd (eCall p__law_is_integer (aCons (eVar 0) aNil)) (e2 oEq (eVar 0) (eVar 1)))) sNil)
    (sSeq (sIf (tTru (eIsI .str (eVar 1))) (sRet (eAnd (eIsI .str (eVar 0)) (e2 oEq (eVar 0) (eVar 1)))) sNil)
    (sSeq (sIf (tOr (tNot (tTru (eIsI .tuple (eVar 0)))) (tB (e2 oNe (eCall pLen (aCons (eVar 0) aNil)) (eCall pLen (aCons (eVar 1) aNil))))) (sRet (eC (.bl false))) sNil)
    (sRet (eCall pAllL (aCons (eLc (iRng1 (eCall pLen (aCons (eVar 1) aNil))) [2] (.nm 2) tYes (eCall self (aCons (e2 oIx (eVar 0) (eVar 2)) (aCons (e2 oIx (eVar 1) (eVar 2)) aNil)))) aNil))))))))
def b__law_rest : Sm :=
  (sSeq (sAsg (eC (.int 0)) (.nm 1))
    (sSeq (sAsg (eC (.int 1)) (.nm 2))
    (sSeq (sWhile (tB (e2 oLe (e2 oMul (eVar 2) (eVar 2)) (eVar 0))) (sCut [] (sIf (tB (e2 oEq (e2 oMod (eVar 0) (eVar 2)) (eC (.int 0)))) (sAsg (e2 oAdd (e2 oAdd (eVar 1) (eVar 2)) (eIf (tB (e2 oLt (e2 oMul (eVar 2) (eVar 2)) (eVar 0))) (e2 oFdiv (eVar 0) (eVar 2)) (eC (.int 0)))) (.nm 1)) sNil)
    (sAsg (e2 oAdd (eVar 2) (eC (.int 1))) (.nm 2))))
    (sRet (e2 oSub (eVar 1) (eVar 0))))))
def b__law_alone : Sm :=
  (sSeq (sAsg (eC (.int 2)) (.nm 1))
    (sSeq (sWhile (tB (e2 oLe (e2 oMul (eVar 1) (eVar 1)) (eVar 0))) (sSeq (sIf (tB (e2 oEq (e2 oMod (eVar 0) (eVar 1)) (eC (.int 0)))) (sRet (eC (.bl false))) sNil)
    (sAsg (e2 oAdd (eVar 1) (eC (.int 1))) (.nm 1))))
    (sRet (e2 oGt (eVar 0) (eC (.int 1))))))
def b__law_twos : Sm :=
  (sSeq (sAsg (eC (.int 1)) (.nm 1))
    (sSeq (sFor [0, 2] (iRng1 (eVar 0)) (.nm 2) (sEnd [0, 2] (sAsg (e2 oMul (eVar 1) (eC (.int 2))) (.nm 1))))
    (sRet (eVar 1))))
def b__law_chain : Sm :=
  (sSeq (sOwn 2 (eLst (aCons (eVar 0) aNil)))
    (sSeq (sFor [0, 1, 3] (iRng1 (e2 oSub (eVar 1) (eC (.int 1)))) (.nm 3) (sEnd [0, 1, 3] (sIf (tB (e2 oGt (eIxS 2 (e2 oSub (eLenS 2) (eC (.int 1)))) (eC (.int 1)))) (sApp 2 (eCall p__law_rest (aCons (eIxS 2 (e2 oSub (eLenS 2) (eC (.int 1)))) aNil))) sNil)))
    (sRet (eTupleS 2))))
def b_law_1 : Sm :=
  (sEnd [0, 3, 4, 5, 6, 7, 8, 9, 10, 11, 12, 13, 14, 15, 16] (sSeq (sAsg (e2 oSub (eCall p__law_twos (aCons (eVar 3) aNil)) (eC (.int 1))) (.nm 4))
    (sCut [0, 4, 6, 7, 8, 9, 10, 11, 12, 13, 14, 15, 16] (sAsg (eIf (tTru (eCall p__law_alone (aCons (eVar 4) aNil))) (e2 oMul (eCall p__law_twos (aCons (e2 oSub (eVar 3) (eC (.int 1))) aNil)) (eVar 4)) (eC .non)) (.nm 5))
    (sSeq (sIf (tNot (tTru (eCall p__law_is (aCons (eCall p_perfect_at (aCons (eVar 3) aNil)) (aCons (eVar 5) aNil))))) (sRet (eC (.bl false))) sNil)
    (sIf (tAnd (tB (oNotN (eVar 5))) (tB (e2 oLe (eVar 5) (eC (.int 10000))))) (sSeq (sApp 2 (eVar 5))
    (sIf (tOr (tNot (tTru (eCall p__law_is (aCons (eCall p_is_perfect (aCons (eVar 5) aNil)) (aCons (eC (.bl true)) aNil))))) (tB (e2 oNe (eCall p__law_rest (aCons (eVar 5) aNil)) (eVar 5)))) (sRet (eC (.bl false))) sNil)) sNil)))))
def b_law_2 : Sm :=
  (sEnd [0, 3, 4, 5, 6, 7, 8, 9, 10, 11, 12, 13, 14, 15, 16] (sSeq (sAsg (eCall p__law_rest (aCons (eVar 8) aNil)) (.nm 9))
    (sSeq (sIf (tOr (tNot (tTru (eCall p__law_is (aCons (eCall p_rest_sum (aCons (eVar 8) aNil)) (aCons (eVar 9) aNil))))) (tNot (tTru (eCall p__law_is (aCons (eCall p_is_perfect (aCons (eVar 8) aNil)) (aCons (e2 oEq (eVar 9) (eVar 8)) aNil)))))) (sRet (eC (.bl false))) sNil)
    (sIf (tAnd (tB (e2 oEq (e2 oMod (eVar 8) (eC (.int 2))) (eC (.int 0)))) (tB (e2 oNe (e2 oEq (eVar 9) (eVar 8)) (e2 oIn (eVar 8) (eVar 2))))) (sRet (eC (.bl false))) sNil))))
def b_law_3 : Sm :=
  (sEnd [0, 2, 3, 4, 5, 6, 7, 8, 9, 10, 11, 12, 13, 14, 15, 16] (sCut [0, 2, 3, 4, 6, 7, 8, 9, 10, 11, 14, 15, 16] (sAsg (eAnd (e2 oNe (eVar 12) (eVar 13)) (eAnd (e2 oEq (eCall p__law_rest (aCons (eVar 12) aNil)) (eVar 13)) (e2 oEq (eCall p__law_rest (aCons (eVar 13) aNil)) (eVar 12)))) (.nm 5))
    (sIf (tNot (tTru (eCall p__law_is (aCons (eCall p_are_friends (aCons (eVar 12) (aCons (eVar 13) aNil))) (aCons (eVar 5) aNil))))) (sRet (eC (.bl false))) sNil)))
def b_law_4 : Sm :=
  (sEnd [0, 2, 3, 4, 5, 6, 7, 8, 9, 10, 11, 12, 13, 14, 15, 16] (sSeq (sAsg (e2 oAdd (eC (.int 1)) (e2 oMod (eCall pInt (aCons (e2 oIx (eVar 1) (e2 oAdd (eC (.int 7)) (eVar 14))) aNil)) (eC (.int 200)))) (.nm 8))
    (sSeq (sAsg (e2 oAdd (eC (.int 1)) (e2 oMod (eCall pInt (aCons (e2 oIx (eVar 1) (e2 oAdd (eC (.int 11)) (eVar 14))) aNil)) (eC (.int 8)))) (.nm 15))
    (sIf (tNot (tTru (eCall p__law_is (aCons (eCall p_chain_from (aCons (eVar 8) (aCons (eVar 15) aNil))) (aCons (eCall p__law_chain (aCons (eVar 8) (aCons (eVar 15) aNil))) aNil))))) (sRet (eC (.bl false))) sNil))))
def b_law_5 : Sm :=
  (sSeq (sAsg (e2 oIx (eTup (aCons (eC (.int 25)) (aCons (eC (.int 95)) (aCons (eC (.int 12)) (aCons (eC (.int 1)) (aCons (eC (.int 120)) (aCons (eC (.int 138)) aNil))))))) (e2 oMod (eCall pInt (aCons (e2 oIx (eVar 1) (eC (.int 15))) aNil)) (eC (.int 6)))) (.nm 16))
    (sRet (eAnd (eCall p__law_is (aCons (eCall p_chain_from (aCons (eVar 16) (aCons (eC (.int 8)) aNil))) (aCons (eCall p__law_chain (aCons (eVar 16) (aCons (eC (.int 8)) aNil))) aNil))) (eCall p__law_is (aCons (eCall p_chain_from (aCons (eVar 16) (aCons (eC (.int 1)) aNil))) (aCons (eTup (aCons (eVar 16) aNil)) aNil))))))
def b_law_6 : Sm :=
  (sSeq (sFor [0, 2, 3, 4, 5, 6, 7, 8, 9, 10, 11, 12, 13, 14, 15, 16] (iRng1 (eC (.int 4))) (.nm 14) b_law_4)
    b_law_5)
def b_law_7 : Sm :=
  (sSeq (sAsg (e2 oAdd (eC (.int 2)) (e2 oMod (eCall pInt (aCons (e2 oIx (eVar 1) (eC (.int 4))) aNil)) (eC (.int 1900)))) (.nm 10))
    (sSeq (sAsg (eLst (aCons (eTup (aCons (eC (.int 220)) (aCons (eC (.int 284)) aNil))) (aCons (eTup (aCons (eC (.int 284)) (aCons (eC (.int 220)) aNil))) (aCons (eTup (aCons (eC (.int 1184)) (aCons (eC (.int 1210)) aNil))) (aCons (eTup (aCons (eC (.int 6)) (aCons (eC (.int 6)) aNil))) (aCons (eTup (aCons (eVar 10) (aCons (eCall pMax2 (aCons (eC (.int 1)) (aCons (eCall p__law_rest (aCons (eVar 10) aNil)) aNil))) aNil))) (aCons (eTup (aCons (eC (.int 220)) (aCons (eC (.int 285)) aNil))) (aCons (eTup (aCons (eVar 10) (aCons (e2 oAdd (eVar 10) (eC (.int 1))) aNil))) aNil)))))))) (.nm 11))
    (sSeq (sAsg (e2 oAdd (eVar 11) (eLst (aCons (eTup (aCons (eCall pMax2 (aCons (eC (.int 1)) (aCons (eCall p__law_rest (aCons (eVar 10) aNil)) aNil))) (aCons (eVar 10) aNil))) (aCons (eTup (aCons (e2 oAdd (eC (.int 1210)) (e2 oMod (eCall pInt (aCons (e2 oIx (eVar 1) (eC (.int 5))) aNil)) (eC (.int 2)))) (aCons (eC (.int 1184)) aNil))) (aCons (eTup (aCons (eC (.int 2620)) (aCons (e2 oSub (eC (.int 2924)) (e2 oMod (eCall pInt (aCons (e2 oIx (eVar 1) (eC (.int 6))) aNil)) (eC (.int 2)))) aNil))) aNil))))) (.nm 11))
    (sSeq (sFor [0, 2, 3, 4, 5, 6, 7, 8, 9, 10, 11, 12, 13, 14, 15, 16] (iSeq (eVar 11)) (.tp [.nm 12, .nm 13]) b_law_3)
    b_law_6))))
def b_law_8 : Sm :=
  (sSeq (sAsg (e2 oIx (eTup (aCons (eC (.int 6)) (aCons (eC (.int 28)) (aCons (eC (.int 496)) (aCons (eC (.int 8128)) (aCons (eC (.int 120)) (aCons (eC (.int 945)) (aCons (eC (.int 12)) (aCons (eC (.int 2)) aNil))))))))) (e2 oMod (eCall pInt (aCons (e2 oIx (eVar 1) (eC (.int 0))) aNil)) (eC (.int 8)))) (.nm 6))
    (sSeq (sAsg (eLst (aCons (eC (.int 1)) (aCons (e2 oAdd (eC (.int 1)) (e2 oMod (eCall pInt (aCons (e2 oIx (eVar 1) (eC (.int 1))) aNil)) (eC (.int 5040)))) (aCons (e2 oSub (eVar 6) (eC (.int 1))) (aCons (eVar 6) (aCons (e2 oAdd (eVar 6) (eC (.int 1))) (aCons (e2 oSub (eC (.int 10000)) (e2 oMod (eCall pInt (aCons (e2 oIx (eVar 1) (eC (.int 2))) aNil)) (eC (.int 4000)))) aNil))))))) (.nm 7))
    (sSeq (sFrz 2 (sFor [0, 3, 4, 5, 6, 7, 8, 9, 10, 11, 12, 13, 14, 15, 16] (iSeq (e2 oAdd (eVar 7) (eLst (aCons (e2 oAdd (eC (.int 2)) (e2 oMul (eC (.int 2)) (e2 oMod (eCall pInt (aCons (e2 oIx (eVar 1) (eC (.int 3))) aNil)) (eC (.int 600))))) aNil)))) (.nm 8) b_law_2))
    b_law_7)))
def b_law : Sm :=
  (sSeq (sAsg (eCall p__law_draws (aCons (eCall p__law_cell (aCons (eVar 0) (aCons (eC (.int 0)) aNil))) (aCons (eC (.int 20)) aNil))) (.nm 1))
    (sSeq (sOwn 2 (eLst aNil))
    (sSeq (sFor [0, 3, 4, 5, 6, 7, 8, 9, 10, 11, 12, 13, 14, 15, 16] (iRng2 (eC (.int 2)) (eC (.int 14))) (.nm 3) b_law_1)
    b_law_8)))

theorem len_divisors_of : ∀ ds Q, p_divisors_of ds Q → ds.length = 1 := by
  rintro _ Q ⟨n, rfl, _⟩; rfl
theorem lpD_len (n : Nat) : ∀ f d lo hi, (lpD f n d lo hi).1.length ≤ lo.length + f ∧ (lpD f n d lo hi).2.length ≤ hi.length + f
  | 0, d, lo, hi => ⟨Nat.le_refl _, Nat.le_refl _⟩
  | f + 1, d, lo, hi => by
    unfold lpD
    have a := lpD_len n f (d + 1) (lo ++ [d]) (hi ++ [n / d])
    have b := lpD_len n f (d + 1) (lo ++ [d]) hi
    have c := lpD_len n f (d + 1) lo hi
    simp only [List.length_append, List.length_cons, List.length_nil] at a b
    split
    · split
      · split
        · omega
        · omega
      · omega
    · exact ⟨by show lo.length ≤ _; omega, by show hi.length ≤ _; omega⟩
theorem lpD_step {f n d : Nat} {lo hi : List Nat} (h : d * d ≤ n) : lpD (f + 1) n d lo hi = (if n % d = 0 then (if d * d < n then lpD f n (d + 1) (lo ++ [d]) (hi ++ [n / d]) else lpD f n (d + 1) (lo ++ [d]) hi) else lpD f n (d + 1) lo hi) := by
  conv => lhs; unfold lpD
  rw [if_pos h]
theorem lpD_end {f n d : Nat} {lo hi : List Nat} (h : ¬ d * d ≤ n) : lpD f n d lo hi = (lo, hi) := by
  cases f with
  | zero => rfl
  | succ f => unfold lpD; rw [if_neg h]
theorem pure_divisors_of : ∀ ds Q, p_divisors_of ds Q → b_divisors_of (endsOf Q) (startP 4 ds) := by
  rintro _ Q ⟨n, rfl, hn, q⟩
  unfold b_divisors_of
  simp_wf
  intro pl
  simp_wf
  intro ph
  simp_wf
  refine while_I (fun m δ => ∃ (d : Nat) (lo hi : List Nat) (dl dh : List D), δ = [.val (.int n), .own pl dl, .own ph dh, .val (.int d)] ∧ dl = numL lo ∧ dh = numL hi ∧ m = n + 1 - d ∧ 1 ≤ d ∧ d ≤ n + 1 ∧ d ≤ 40000 ∧ lo.length ≤ d ∧ hi.length ≤ d ∧ lpD (n + 1 - d) n d lo hi = lpD n n 1 [] []) ⟨n, 1, [], [], [], [], rfl, rfl, rfl, by omega, by omega, by omega, by omega, by simp, by simp, by rw [Nat.add_sub_cancel]⟩ ?_
  rintro m _ ⟨d, lo, hi, _, _, rfl, rfl, rfl, rfl, h1, h2, h3, hll, hlh, he⟩
  have em : ((d : Int) * d ≤ n) ↔ d * d ≤ n := by
    rw [← Int.natCast_mul]; omega
  have el : ((d : Int) * d < n) ↔ d * d < n := by
    rw [← Int.natCast_mul]; omega
  have ed : ((n : Int) % d = 0) ↔ n % d = 0 := by
    rw [← Int.natCast_emod]; omega
  have mb : MulB (d : Int) d := .inl ⟨by omega, by omega⟩
  have ll : (numL lo).length = lo.length := List.length_map _
  have lh : (numL hi).length = hi.length := List.length_map _
  simp_wf
  refine ⟨mb, ?_⟩
  by_cases c : d * d ≤ n
  · rw [if_pos (em.mpr c)]
    have hdn := sq_big c
    have h4 : d + 1 ≤ 40000 := by
      rcases Nat.lt_or_ge d 39999 with g | g
      · omega
      · have : 39999 * 39999 ≤ d * d := Nat.mul_le_mul g g
        omega
    have step : n + 1 - d = n + 1 - (d + 1) + 1 := by omega
    rw [step, lpD_step c] at he
    refine ⟨fun δ => ∃ (lo hi : List Nat) (dl dh : List D), δ = [.val (.int n), .own pl dl, .own ph dh, .val (.int d)] ∧ dl = numL lo ∧ dh = numL hi ∧ lo.length ≤ d + 1 ∧ hi.length ≤ d + 1 ∧ lpD (n + 1 - (d + 1)) n (d + 1) lo hi = lpD n n 1 [] [], ?_, ?_⟩
    · simp_wf
      refine ⟨by omega, ?_⟩
      by_cases c2 : n % d = 0
      · rw [if_pos c2] at he
        rw [if_pos (ed.mpr c2)]
        refine ⟨by omega, ?_⟩
        simp_wf
        refine ⟨mb, ?_⟩
        by_cases c3 : d * d < n
        · rw [if_pos c3] at he
          rw [if_pos (el.mpr c3)]
          refine ⟨by omega, by omega, ?_⟩
          exact ⟨lo ++ [d], hi ++ [n / d], _, _, rfl, by simp [numL], by simp [numL], by simp; omega, by simp; omega, he⟩
        · rw [if_neg c3] at he
          rw [if_neg (fun z => c3 (el.mp z))]
          exact ⟨lo ++ [d], hi, _, _, rfl, by simp [numL], rfl, by simp; omega, by omega, he⟩
      · rw [if_neg c2] at he
        rw [if_neg (fun z => c2 (ed.mp z))]
        exact ⟨lo, hi, _, _, rfl, rfl, rfl, by omega, by omega, he⟩
    · rintro _ ⟨lo', hi', _, _, rfl, rfl, rfl, k1, k2, k3⟩
      simp_wf
      exact ⟨n + 1 - (d + 1), by omega, d + 1, lo', hi', _, _, by simp, rfl, rfl, rfl, by omega, by omega, h4, k1, k2, k3⟩
  · rw [if_neg (fun z => c (em.mp z))]
    have e : (lo, hi) = lpD n n 1 [] [] := by
      rw [← he, lpD_end c]
    simp_wf
    refine ⟨?_, ?_⟩
    · simp only [numL, List.length_map, List.length_reverse]; omega
    · have : numL lo ++ (numL hi).reverse = numL (dvN n) := by
        unfold dvN
        rw [← e]
        simp [numL]
      rw [this]; exact q
theorem len_power_of : ∀ ds Q, p_power_of ds Q → ds.length = 2 := by
  rintro _ Q ⟨n, rfl, _⟩; rfl
theorem pure_power_of : ∀ ds Q, p_power_of ds Q → b_power_of (endsOf Q) (startP 4 ds) := by
  rintro _ Q ⟨k, rfl, hk, q⟩
  unfold b_power_of
  simp_wf
  refine ⟨by omega, ?_⟩
  refine for_rngI (fun i δ => ∃ g : Nat, δ = [.val (.int 2), .no, .val (.int g), .no] ∧ g = 2 ^ i) ⟨1, rfl, rfl⟩ ?_ ?_
  · rintro i _ hi ⟨g, rfl, hg⟩
    simp_wf
    exact ⟨g * 2, by simp, by rw [Nat.pow_succ, hg]⟩
  · rintro _ ⟨g, rfl, hg⟩
    simp_wf
    rw [show ((k : Int)).toNat = k by omega] at hg
    subst hg
    exact q
theorem len_rest_sum : ∀ ds Q, p_rest_sum ds Q → ds.length = 1 := by
  rintro _ Q ⟨n, rfl, _⟩; rfl
theorem pure_rest_sum : ∀ ds Q, p_rest_sum ds Q → b_rest_sum (endsOf Q) (startP 1 ds) := by
  rintro _ Q ⟨n, rfl, hn, q⟩
  unfold b_rest_sum
  simp_wf
  refine ⟨n, rfl, hn, ?_⟩
  simp_wf
  refine ⟨_, sumD_num _, ?_⟩
  simp_wf
  rw [dvN_sum]; exact q
theorem len_has_two_divisors : ∀ ds Q, p_has_two_divisors ds Q → ds.length = 1 := by
  rintro _ Q ⟨n, rfl, _⟩; rfl
theorem pure_has_two_divisors : ∀ ds Q, p_has_two_divisors ds Q → b_has_two_divisors (endsOf Q) (startP 1 ds) := by
  rintro _ Q ⟨n, rfl, hn, q⟩
  unfold b_has_two_divisors
  simp_wf
  refine ⟨n, rfl, hn, ?_⟩
  simp_wf
  have : (numL (dvN n)).length = (dvN n).length := List.length_map _
  rw [this]
  have e : decide (((dvN n).length : Int) = 2) = decide ((dvN n).length = 2) := by
    rw [Bool.eq_iff_iff, decide_eq_true_eq, decide_eq_true_eq]; omega
  rw [e]; exact q
theorem len_is_perfect : ∀ ds Q, p_is_perfect ds Q → ds.length = 1 := by
  rintro _ Q ⟨n, rfl, _⟩; rfl
theorem pure_is_perfect : ∀ ds Q, p_is_perfect ds Q → b_is_perfect (endsOf Q) (startP 1 ds) := by
  rintro _ Q ⟨n, rfl, hn, q⟩
  unfold b_is_perfect
  simp_wf
  refine ⟨n, rfl, hn, ?_⟩
  simp_wf
  exact q
theorem len_perfect_at : ∀ ds Q, p_perfect_at ds Q → ds.length = 1 := by
  rintro _ Q ⟨n, rfl, _⟩; rfl
theorem pow_pos2 (k : Nat) : 1 ≤ 2 ^ k := Nat.pow_pos (by omega)
theorem pow_le2 {k : Nat} (h : k ≤ 21) : 2 ^ k ≤ 2 ^ 21 := Nat.pow_le_pow_right (by omega) h
theorem pure_perfect_at : ∀ ds Q, p_perfect_at ds Q → b_perfect_at (endsOf Q) (startP 2 ds) := by
  rintro _ Q ⟨k, rfl, hk, q⟩
  unfold b_perfect_at
  have b1 := pow_pos2 (k + 1)
  have b2 := pow_le2 (show k + 1 ≤ 21 by omega)
  have b3 := pow_le2 (show k ≤ 21 by omega)
  simp_wf
  refine ⟨k + 1, rfl, by omega, ?_⟩
  simp_wf
  have e : ((2 ^ (k + 1) : Nat) : Int) - 1 = ((2 ^ (k + 1) - 1 : Nat) : Int) := by omega
  rw [e]
  refine ⟨_, rfl, by omega, ?_⟩
  simp_wf
  by_cases c : (dvN (2 ^ (k + 1) - 1)).length = 2
  · rw [if_pos c] at q
    rw [if_neg (fun z => z c)]
    simp_wf
    refine ⟨k, by rw [show ((k + 1 : Nat) : Int) - 1 = k by omega], by omega, ?_⟩
    simp_wf
    refine ⟨.inl ⟨by omega, by omega⟩, ?_⟩
    rw [← Int.natCast_mul]; exact q
  · rw [if_neg c] at q
    rw [if_pos c]
    exact q
theorem len_are_friends : ∀ ds Q, p_are_friends ds Q → ds.length = 2 := by
  rintro _ Q ⟨a, b, rfl, _⟩; rfl
theorem pure_are_friends : ∀ ds Q, p_are_friends ds Q → b_are_friends (endsOf Q) (startP 2 ds) := by
  rintro _ Q ⟨a, b, rfl, ha, hb, q⟩
  unfold b_are_friends
  simp_wf
  by_cases c : a = b
  · subst c
    simp at q
    simp_wf
    simpa using q
  · have : ¬ (a : Int) = b := by omega
    rw [if_pos this]
    simp_wf
    refine ⟨a, rfl, ha, ?_⟩
    simp_wf
    by_cases c2 : restN a = b
    · rw [if_pos c2]
      refine ⟨b, rfl, hb, ?_⟩
      simp_wf
      have : decide (a ≠ b ∧ restN a = b ∧ restN b = a) = decide (restN b = a) := by simp [c, c2]
      rw [this] at q; exact q
    · rw [if_neg c2]
      have : decide (a ≠ b ∧ restN a = b ∧ restN b = a) = false := by simp [c2]
      rw [this] at q; first | exact q | (rw [if_neg c2]; exact q)
theorem len_chain_from : ∀ ds Q, p_chain_from ds Q → ds.length = 2 := by
  rintro _ Q ⟨a, b, rfl, _⟩; rfl
theorem chN_head (k n : Nat) : n ∈ chN k n := by
  cases k with
  | zero => simp [chN]
  | succ k => unfold chN; split <;> simp
theorem pure_chain_from : ∀ ds Q, p_chain_from ds Q → b_chain_from (endsOf Q) (startP 3 ds) := by
  rintro _ Q ⟨n, k, rfl, hk, hn, hb, q⟩
  unfold b_chain_from
  simp_wf
  intro p
  simp_wf
  refine while_I (fun m δ => ∃ (pre : List Nat) (x : Nat) (dl : List D), δ = [.no, .val (.int (k + 1 : Nat)), .own p dl] ∧ dl = numL (pre ++ [x]) ∧ m = k - pre.length ∧ pre.length ≤ k ∧ pre ++ chN (k - pre.length) x = chN k n) ⟨k, [], n, _, rfl, rfl, rfl, by simp, rfl⟩ ?_
  rintro m _ ⟨pre, x, _, rfl, rfl, rfl, hp, he⟩
  have hx : x ≤ 1000000000 := hb x (by rw [← he]; exact List.mem_append_right _ (chN_head _ _))
  have ll : (numL (pre ++ [x])).length = pre.length + 1 := by simp [numL]
  have gl : (numL (pre ++ [x])).getLast? = some (.int x) := by simp [numL]
  simp_wf
  rw [ll]
  by_cases c : pre.length < k
  · rw [if_pos (by omega)]
    refine atD_last gl ?_
    simp_wf
    obtain ⟨j, hj⟩ : ∃ j, k - pre.length = j + 1 := ⟨k - pre.length - 1, by omega⟩
    by_cases c2 : 1 < x
    · rw [if_pos (by omega)]
      refine atD_last gl ?_
      simp_wf
      refine ⟨x, rfl, hx, ?_⟩
      refine ⟨by omega, ?_⟩
      rw [restN_nx (by omega)]
      refine ⟨j, by omega, pre ++ [x], nxN x, _, rfl, by simp [numL], by simp; omega, by simp; omega, ?_⟩
      rw [← he, hj]
      rw [show k - (pre ++ [x]).length = j by simp; omega]
      conv => rhs; unfold chN
      rw [if_pos c2]; simp
    · rw [if_neg (by omega)]
      simp_wf
      rw [← he, hj] at q
      unfold chN at q
      rw [if_neg c2] at q
      exact q
  · rw [if_neg (by omega)]
    simp_wf
    rw [← he, show k - pre.length = 0 by omega] at q
    unfold chN at q
    exact q
theorem len__law_cell : ∀ ds Q, p__law_cell ds Q → ds.length = 2 := by
  rintro _ Q ⟨ns, k, rfl, _⟩; rfl
theorem pure__law_cell : ∀ ds Q, p__law_cell ds Q → b__law_cell (endsOf Q) (startP 2 ds) := by
  rintro _ Q ⟨ns, k, rfl, h0, h1, q⟩
  unfold b__law_cell
  simp_wf
  split
  · rename_i h
    exact atD_ints h0 (by simpa using h) fun x _ => q x
  · simp_wf
    exact q _
theorem len__law_draws : ∀ ds Q, p__law_draws ds Q → ds.length = 2 := by
  rintro _ Q ⟨c, n, rfl, _⟩; rfl
theorem pure__law_draws : ∀ ds Q, p__law_draws ds Q → b__law_draws (endsOf Q) (startP 8 ds) := by
  rintro _ Q ⟨c, n, rfl, h0, h1, q⟩
  unfold b__law_draws
  simp_wf
  refine fun p => ⟨by omega, ?_⟩
  refine for_rngI (fun i δ => ∃ (r : Int) (ds : List D), δ = [.no, .no, .val (.int r), .val (.bl (decide (1000000000000000000 ≤ if c < 0 then -c else c))), .val (.int (if c < 0 then -c else c)), .own p ds, .no, .no] ∧ ∃ xs : List Int, ds = xs.map .int ∧ xs.length = i ∧ ∀ x ∈ xs, 0 ≤ x ∧ x < 5040)
    ⟨_, _, rfl, [], rfl, rfl, by simp⟩ ?_ ?_
  · rintro i _ hi ⟨r, _, rfl, xs, rfl, hl, hx⟩
    have fin : ∀ y : Int, ∀ x ∈ xs ++ [y % 5040], 0 ≤ x ∧ x < 5040 := by
      intro y x hm
      rcases List.mem_append.mp hm with h | h
      · exact hx x h
      · have : x = y % 5040 := by simpa using h
        omega
    have e5 : (xs.map D.int).length < 16777216 := by rw [List.length_map]; omega
    simp_wf
    have o5 : MulB (((if c < 0 then -c else c) * 48271 + (0 + (i : Int) + 1) * 69621 + 11) % 2147483647) (((if c < 0 then -c else c) * 48271 + (0 + (i : Int) + 1) * 69621 + 11) % 2147483647) := .inl (by omega)
    by_cases hd : (1000000000000000000 : Int) ≤ (if c < 0 then -c else c)
    · rw [if_pos hd]
      by_cases hr : 0 < r
      · rw [if_pos hr]
        refine ⟨e5, ?_⟩
        simp_wf
        exact ⟨_, _, rfl, xs ++ [r % 5040], by simp, by simp [hl], fin r⟩
      · rw [if_neg hr]
        simp_wf
        refine ⟨o5, ?_⟩
        simp_wf
        exact ⟨e5, _, _, rfl, xs ++ [_], by simp; rfl, by simp [hl], fin _⟩
    · rw [if_neg hd]
      simp_wf
      refine ⟨o5, ?_⟩
      simp_wf
      exact ⟨e5, _, _, rfl, xs ++ [_], by simp; rfl, by simp [hl], fin _⟩
  · rintro _ ⟨r, _, rfl, xs, rfl, hl, hx⟩
    simp_wf
    exact q xs (by omega) hx
theorem len__law_is_integer : ∀ ds Q, p__law_is_integer ds Q → ds.length = 1 := by
  rintro _ Q ⟨v, rfl, _⟩; rfl
theorem pure__law_is_integer : ∀ ds Q, p__law_is_integer ds Q → b__law_is_integer (endsOf Q) (startP 1 ds) := by
  rintro _ Q ⟨v, rfl, q⟩
  unfold b__law_is_integer
  simp_wf
  cases v <;> (simp_wf; exact q)
theorem len__law_is {n : Nat} : ∀ ds Q, pr__law_is n ds Q → ds.length = 2 := by
  intro ds Q h
  cases n with
  | zero => exact h.elim
  | succ n => obtain ⟨a, b, rfl, _⟩ := h; rfl
theorem zero__law_is : ∀ ds Q, pr__law_is 0 ds Q → False := fun _ _ h => h
theorem from__law_is : ∀ ds Q, p__law_is ds Q → pr__law_is 12 ds Q := fun _ _ h => h
theorem all_eq_tup (xs ys : List D) (h : xs.length = ys.length) : (List.range ys.length).all (fun k => decide (xs.getD k .non = ys.getD k .non)) = decide (xs = ys) := by
  rw [Bool.eq_iff_iff, List.all_eq_true, decide_eq_true_eq]
  constructor
  · intro hh
    apply List.ext_getElem h
    intro i h1 h2
    have := hh i (List.mem_range.mpr h2)
    simpa [List.getD, h1, h2] using this
  · rintro rfl k _
    simp
theorem pure__law_is (n : Nat) : ∀ ds Q, pr__law_is (n + 1) ds Q → b__law_is (pr__law_is n) (endsOf Q) (startP 3 ds) := by
  rintro _ Q ⟨v, due, rfl, hv, hd, q⟩
  unfold b__law_is
  simp_wf
  cases due with
  | non => simp_wf; exact q
  | lst xs => simp [dueOk] at hd
  | bl b =>
    simp_wf
    cases v with
    | bl c =>
      simp_wf
      have e : (c == b) = decide (D.bl c = D.bl b) := by cases c <;> cases b <;> rfl
      rw [e]; exact q
    | _ => (simp_wf; simpa using q)
  | int i =>
    simp_wf
    refine ⟨v, rfl, ?_⟩
    cases v with
    | int c =>
      simp only [isInt]
      simp_wf
      have e : decide (c = i) = decide (D.int c = D.int i) := by simp
      rw [e]; exact q
    | _ => (simp only [isInt]; simp_wf; simpa using q)
  | str x =>
    simp_wf
    cases v with
    | str c =>
      simp_wf
      have h1 : strOkD c = true := by simpa only [txtOk] using hv
      have h2 : strOkD x = true := by cases n <;> simpa only [dueOk] using hd
      refine ⟨⟨by simpa only [shp] using h1, by simpa only [shp] using h2⟩, ?_⟩
      have e : D.eqv (.str c) (.str x) = decide (D.str c = D.str x) := by
        simp only [D.eqv]; rw [Bool.eq_iff_iff]; simp
      rw [e]; exact q
    | _ => (simp_wf; simpa using q)
  | tup ys =>
    simp_wf
    cases n with
    | zero => simp [dueOk] at hd
    | succ n =>
      rw [dueOk_t, dueOkL_all] at hd
      simp only [Bool.and_eq_true, decide_eq_true_eq, List.all_eq_true] at hd
      obtain ⟨hl, hd⟩ := hd
      cases v with
      | tup xs =>
        simp_wf
        rw [txtOk_t, txtOkL_all, List.all_eq_true] at hv
        split
        · rename_i hne
          have e : decide (D.tup xs = D.tup ys) = false := by
            simp only [D.tup.injEq, decide_eq_false_iff_not]
            intro h; subst h; exact hne rfl
          rw [e] at q; exact q
        · rename_i he
          have he : xs.length = ys.length := by omega
          refine ⟨by omega, ?_⟩
          refine lc_rng (fun k => .bl (decide (xs.getD k .non = ys.getD k .non))) (by omega) (fun k hk R hR => ?_) ?_
          · simp_wf
            have h2 : k < ys.length := by omega
            have h1 : k < xs.length := by omega
            refine atD_at (j := k) (d := xs.getD k .non) (by omega) (by simp [List.getD, h1]) (atD_at (j := k) (d := ys.getD k .non) (by omega) (by simp [List.getD, h2]) ?_)
            refine ⟨_, _, rfl, hv _ ?_, hd _ ?_, hR⟩
            · simp [List.getD, h1]
            · simp [List.getD, h2]
          · refine ⟨_, allB_map _ _, ?_⟩
            rw [show (ys.length : Int).toNat = ys.length by omega, all_eq_tup xs ys he]
            have e : decide (xs = ys) = decide (D.tup xs = D.tup ys) := by simp
            rw [e]; exact q
      | _ => (simp_wf; simpa using q)
theorem len__law_rest : ∀ ds Q, p__law_rest ds Q → ds.length = 1 := by
  rintro _ Q ⟨n, rfl, _⟩; rfl
theorem lpS_step {f n d t : Nat} (h : d * d ≤ n) : lpS (f + 1) n d t = lpS f n (d + 1) (if n % d = 0 then t + d + (if d * d < n then n / d else 0) else t) := by
  conv => lhs; unfold lpS
  rw [Nat.ble_eq.mpr h, cond_true]
  congr 1
  by_cases h2 : n % d = 0
  · rw [if_pos h2, h2, Nat.beq_refl, cond_true]
    by_cases h3 : d * d < n
    · have : Nat.ble n (d * d) = false := by rw [Bool.eq_false_iff]; intro h; have := Nat.ble_eq.mp h; omega
      rw [if_pos h3, this, cond_false]
    · rw [if_neg h3, Nat.ble_eq.mpr (by omega), cond_true]
  · have : Nat.beq (n % d) 0 = false := by rw [Bool.eq_false_iff]; intro h; exact h2 (Nat.eq_of_beq_eq_true h)
    rw [if_neg h2, this, cond_false]
theorem lpS_end {f n d t : Nat} (h : ¬ d * d ≤ n) : lpS f n d t = t := by
  cases f with
  | zero => rfl
  | succ f =>
    have : Nat.ble (d * d) n = false := by rw [Bool.eq_false_iff]; intro z; exact h (Nat.ble_eq.mp z)
    unfold lpS
    rw [this, cond_false]
theorem pure__law_rest : ∀ ds Q, p__law_rest ds Q → b__law_rest (endsOf Q) (startP 3 ds) := by
  rintro _ Q ⟨n, rfl, hn, q⟩
  unfold b__law_rest
  simp_wf
  refine while_I (fun m δ => ∃ d t : Nat, δ = [.val (.int n), .val (.int t), .val (.int d)] ∧ m = n + 1 - d ∧ 1 ≤ d ∧ d ≤ n + 1 ∧ d ≤ 40000 ∧ lpS (n + 1 - d) n d t = totN n) ⟨n, 1, 0, rfl, by omega, by omega, by omega, by omega, by rw [Nat.add_sub_cancel]; rfl⟩ ?_
  rintro m _ ⟨d, t, rfl, rfl, h1, h2, h3, he⟩
  have em : ((d : Int) * d ≤ n) ↔ d * d ≤ n := by
    rw [← Int.natCast_mul]; omega
  have el : ((d : Int) * d < n) ↔ d * d < n := by
    rw [← Int.natCast_mul]; omega
  have ed : ((n : Int) % d = 0) ↔ n % d = 0 := by
    rw [← Int.natCast_emod]; omega
  have mb : MulB (d : Int) d := .inl ⟨by omega, by omega⟩
  simp_wf
  refine ⟨mb, ?_⟩
  by_cases c : d * d ≤ n
  · rw [if_pos (em.mpr c)]
    have hdn := sq_big c
    have h4 : d + 1 ≤ 40000 := by
      rcases Nat.lt_or_ge d 39999 with g | g
      · omega
      · have : 39999 * 39999 ≤ d * d := Nat.mul_le_mul g g
        omega
    rw [show n + 1 - d = n + 1 - (d + 1) + 1 by omega, lpS_step c] at he
    refine ⟨fun δ => ∃ t : Nat, δ = [.val (.int n), .val (.int t), .val (.int d)] ∧ lpS (n + 1 - (d + 1)) n (d + 1) t = totN n, ?_, ?_⟩
    · simp_wf
      refine ⟨by omega, ?_⟩
      by_cases c2 : n % d = 0
      · rw [if_pos c2] at he
        rw [if_pos (ed.mpr c2)]
        refine ⟨mb, ?_⟩
        by_cases c3 : d * d < n
        · rw [if_pos c3] at he
          rw [if_pos (el.mpr c3)]
          refine ⟨by omega, ?_⟩
          exact ⟨t + d + n / d, by simp, he⟩
        · rw [if_neg c3] at he
          rw [if_neg (fun z => c3 (el.mp z))]
          exact ⟨t + d + 0, by simp, he⟩
      · rw [if_neg c2] at he
        rw [if_neg (fun z => c2 (ed.mp z))]
        exact ⟨t, rfl, he⟩
    · rintro _ ⟨t', rfl, k3⟩
      simp_wf
      exact ⟨n + 1 - (d + 1), by omega, d + 1, t', by simp, rfl, by omega, by omega, h4, k3⟩
  · rw [if_neg (fun z => c (em.mp z))]
    rw [lpS_end c] at he
    subst he
    simp_wf
    exact q
theorem len__law_alone : ∀ ds Q, p__law_alone ds Q → ds.length = 1 := by
  rintro _ Q ⟨n, rfl, _⟩; rfl
theorem pure__law_alone : ∀ ds Q, p__law_alone ds Q → b__law_alone (endsOf Q) (startP 2 ds) := by
  rintro _ Q ⟨n, rfl, hn1, hn, q⟩
  unfold b__law_alone
  simp_wf
  refine while_I (fun m δ => ∃ d : Nat, δ = [.val (.int n), .val (.int d)] ∧ m = n + 2 - d ∧ 2 ≤ d ∧ d ≤ n + 1 ∧ d ≤ 40000 ∧ lpA (n + 2 - d) n d = lpA n n 2) ⟨n, 2, rfl, by omega, by omega, by omega, by omega, by rw [Nat.add_sub_cancel]⟩ ?_
  rintro m _ ⟨d, rfl, rfl, h1, h2, h3, he⟩
  have em : ((d : Int) * d ≤ n) ↔ d * d ≤ n := by
    rw [← Int.natCast_mul]; omega
  have ed : ((n : Int) % d = 0) ↔ n % d = 0 := by
    rw [← Int.natCast_emod]; omega
  have mb : MulB (d : Int) d := .inl ⟨by omega, by omega⟩
  simp_wf
  refine ⟨mb, ?_⟩
  have st : lpA (n + 2 - d) n d = (if d * d ≤ n then (if n % d = 0 then false else lpA (n + 1 - d) n (d + 1)) else true) := by
    obtain ⟨f, hf⟩ : ∃ f, n + 2 - d = f + 1 := ⟨n + 1 - d, by omega⟩
    rw [hf, show n + 1 - d = f by omega]
    unfold lpA
    by_cases c : d * d ≤ n
    · rw [if_pos c, Nat.ble_eq.mpr c, cond_true]
      by_cases c2 : n % d = 0
      · rw [if_pos c2, c2, Nat.beq_refl, cond_true]
      · have : Nat.beq (n % d) 0 = false := by rw [Bool.eq_false_iff]; intro h; exact c2 (Nat.eq_of_beq_eq_true h)
        rw [if_neg c2, this, cond_false]
        cases f <;> rfl
    · have : Nat.ble (d * d) n = false := by rw [Bool.eq_false_iff]; intro z; exact c (Nat.ble_eq.mp z)
      rw [if_neg c, this, cond_false]
  by_cases c : d * d ≤ n
  · rw [if_pos (em.mpr c)]
    rw [if_pos c] at st
    have hdn := sq_big c
    have h4 : d + 1 ≤ 40000 := by
      rcases Nat.lt_or_ge d 39999 with g | g
      · omega
      · have : 39999 * 39999 ≤ d * d := Nat.mul_le_mul g g
        omega
    simp_wf
    refine ⟨by omega, ?_⟩
    by_cases c2 : n % d = 0
    · rw [if_pos (ed.mpr c2)]
      rw [if_pos c2] at st
      have e : aloneB n = false := by unfold aloneB; rw [← he, st]; rfl
      rw [e] at q
      simp_wf
      exact q
    · rw [if_neg (fun z => c2 (ed.mp z))]
      rw [if_neg c2] at st
      simp_wf
      exact ⟨n + 1 - d, by omega, d + 1, by simp, by omega, by omega, by omega, by omega, by rw [← he, st, show n + 2 - (d + 1) = n + 1 - d by omega]⟩
  · rw [if_neg (fun z => c (em.mp z))]
    rw [if_neg c] at st
    have e : aloneB n = decide (1 < (n : Int)) := by
      unfold aloneB; rw [← he, st, Bool.true_and, Bool.eq_iff_iff, decide_eq_true_eq]
      constructor
      · intro h; have := Nat.blt_eq.mp h; omega
      · intro h; exact Nat.blt_eq.mpr (by omega)
    simp_wf
    rw [e] at q; exact q
theorem len__law_twos : ∀ ds Q, p__law_twos ds Q → ds.length = 1 := by
  rintro _ Q ⟨n, rfl, _⟩; rfl
theorem pure__law_twos : ∀ ds Q, p__law_twos ds Q → b__law_twos (endsOf Q) (startP 3 ds) := by
  rintro _ Q ⟨k, rfl, hk, q⟩
  unfold b__law_twos
  simp_wf
  refine ⟨by omega, ?_⟩
  refine for_rngI (fun i δ => ∃ g : Nat, δ = [.no, .val (.int g), .no] ∧ g = 2 ^ i) ⟨1, rfl, rfl⟩ ?_ ?_
  · rintro i _ hi ⟨g, rfl, hg⟩
    simp_wf
    exact ⟨g * 2, by simp, by rw [Nat.pow_succ, hg]⟩
  · rintro _ ⟨g, rfl, hg⟩
    simp_wf
    rw [show ((k : Int)).toNat = k by omega] at hg
    subst hg
    exact q
theorem len__law_chain : ∀ ds Q, p__law_chain ds Q → ds.length = 2 := by
  rintro _ Q ⟨a, b, rfl, _⟩; rfl
theorem chN_head' (k n : Nat) : n ∈ chN k n := by
  cases k with
  | zero => simp [chN]
  | succ k => unfold chN; split <;> simp
theorem chN_stop {k x : Nat} (h : ¬ 1 < x) : chN k x = [x] := by
  cases k with
  | zero => rfl
  | succ k => unfold chN; rw [if_neg h]
theorem pure__law_chain : ∀ ds Q, p__law_chain ds Q → b__law_chain (endsOf Q) (startP 4 ds) := by
  rintro _ Q ⟨n, k, rfl, hk, hn, hb, q⟩
  unfold b__law_chain
  simp_wf
  intro p
  simp_wf
  rw [show ((k + 1 : Nat) : Int) - 1 = k by omega]
  refine ⟨by omega, ?_⟩
  refine for_rngI (fun i δ => ∃ (pre : List Nat) (x : Nat) (dl : List D), δ = [.no, .no, .own p dl, .no] ∧ dl = numL (pre ++ [x]) ∧ pre.length ≤ i ∧ pre ++ chN (k - i) x = chN k n) ⟨[], n, _, rfl, rfl, by simp, rfl⟩ ?_ ?_
  · rintro i _ hi ⟨pre, x, _, rfl, rfl, hp, he⟩
    have hi : i < k := by omega
    have hx : x ≤ 1000000000 := hb x (by rw [← he]; exact List.mem_append_right _ (chN_head' _ _))
    have ll : (numL (pre ++ [x])).length = pre.length + 1 := by simp [numL]
    have gl : (numL (pre ++ [x]))[pre.length]? = some (.int x) := by simp [numL]
    simp_wf
    rw [ll]
    refine atD_at (j := pre.length) (by omega) gl ?_
    simp_wf
    obtain ⟨j, hj⟩ : ∃ j, k - i = j + 1 := ⟨k - i - 1, by omega⟩
    by_cases c2 : 1 < x
    · rw [if_pos (by omega)]
      try simp_wf
      refine atD_at (j := pre.length) (by omega) gl ?_
      simp_wf
      refine ⟨x, rfl, hx, ?_⟩
      refine ⟨by omega, ?_⟩
      rw [restN_nx (by omega)]
      refine ⟨pre ++ [x], nxN x, _, rfl, by simp [numL], by simp; omega, ?_⟩
      rw [← he, hj]
      rw [show k - (i + 1) = j by omega]
      conv => rhs; unfold chN
      rw [if_pos c2]; simp
    · rw [if_neg (by omega)]
      simp_wf
      exact ⟨pre, x, _, rfl, rfl, by omega, by rw [← he, chN_stop c2, chN_stop c2]⟩
  · rintro _ ⟨pre, x, _, rfl, rfl, hp, he⟩
    simp_wf
    rw [show k - (k : Int).toNat = 0 by omega] at he
    rw [← he] at q
    exact q
theorem len_law : ∀ ds Q, p_law ds Q → ds.length = 1 := by
  rintro _ Q ⟨ns, rfl, _⟩; rfl
def odI (i : Nat) : Nat := 2 ^ (i + 2) - 1
def dueI (i : Nat) : Nat := 2 ^ (i + 1) * odI i
def fitB (i : Nat) : Bool := aloneB (odI i) && Nat.ble (dueI i) 10000
def fineN (i : Nat) : List Nat := ((List.range i).filter fitB).map dueI
theorem f1 : ∀ i, i < 12 → aloneB (odI i) = decide ((dvN (odI i)).length = 2) ∧ (fitB i = true → totN (dueI i) = dueI i + dueI i) := by decide +kernel
theorem f2 : fineN 12 = [6, 28, 496, 8128] := by decide +kernel
def evB : Nat → Nat → Bool
  | 0, _ => true
  | f + 1, n => (bif Nat.beq (totN n) (n + n) then (Nat.beq n 6 || Nat.beq n 28 || Nat.beq n 496 || Nat.beq n 8128) else !(Nat.beq n 6 || Nat.beq n 28 || Nat.beq n 496 || Nat.beq n 8128)) && evB f (n + 2)
theorem f3 : evB 5000 2 = true := by decide +kernel
theorem f4 : ∀ n, n < 201 → 1 ≤ n → ((chN 7 n).all fun x => Nat.ble x 1000000) = true := by decide +kernel
theorem chN_sub {x : Nat} : ∀ {j m n : Nat}, j ≤ m → x ∈ chN j n → x ∈ chN m n
  | 0, m, n, _, h => by
    have : x = n := by simpa [chN] using h
    subst this
    cases m with
    | zero => simp [chN]
    | succ m => unfold chN; split <;> simp
  | j + 1, 0, n, h, _ => by omega
  | j + 1, m + 1, n, h, hx => by
    unfold chN at hx ⊢
    split at hx
    · rename_i c
      rw [if_pos c]
      rcases List.mem_cons.mp hx with e | e
      · exact List.mem_cons.mpr (.inl e)
      · exact List.mem_cons.mpr (.inr (chN_sub (by omega) e))
    · rename_i c
      rw [if_neg c]; exact hx
theorem chN_small {j n : Nat} (hj : j ≤ 7) (h1 : 1 ≤ n) (h2 : n ≤ 200) : ∀ x ∈ chN j n, x ≤ 1000000000 := by
  intro x hx
  have := List.all_eq_true.mp (f4 n (by omega) h1) x (chN_sub hj hx)
  have := Nat.ble_eq.mp this
  omega
theorem chN_len : ∀ {j n : Nat}, (chN j n).length ≤ j + 1
  | 0, n => by simp [chN]
  | j + 1, n => by
    unfold chN
    have := @chN_len j (nxN n)
    split <;> simp <;> omega
theorem txt_num (ns : List Nat) : txtOk (.tup (numL ns)) = true := by
  rw [txtOk_t, txtOkL_all, numL, List.all_map, List.all_eq_true]
  intro x _
  exact txtOk_i
theorem due_num (ns : List Nat) (h : ns.length ≤ 1000000) : dueOk 11 (.tup (numL ns)) = true := by
  rw [dueOk_t, dueOkL_all, numL, List.all_map, List.length_map, decide_eq_true h, Bool.true_and, List.all_eq_true]
  intro x _
  exact dueOk_i
theorem evB_is : ∀ f n k, evB f n = true → k < f → (totN (n + 2 * k) = (n + 2 * k) + (n + 2 * k) ↔ (n + 2 * k) ∈ [6, 28, 496, 8128])
  | 0, n, k, _, h => by omega
  | f + 1, n, 0, h, _ => by
    unfold evB at h
    rw [Bool.and_eq_true] at h
    have h := h.1
    have e : (Nat.beq n 6 || Nat.beq n 28 || Nat.beq n 496 || Nat.beq n 8128) = true ↔ n ∈ [6, 28, 496, 8128] := by
      simp only [Bool.or_eq_true, List.mem_cons, List.not_mem_nil, or_false, or_assoc, Nat.beq_eq]
    show totN n = n + n ↔ n ∈ _
    rw [← e]
    cases c : Nat.beq (totN n) (n + n) with
    | true =>
      rw [c, cond_true] at h
      exact ⟨fun _ => h, fun _ => Nat.eq_of_beq_eq_true c⟩
    | false =>
      rw [c, cond_false, Bool.not_eq_true'] at h
      rw [h]
      refine ⟨fun z => ?_, fun z => Bool.noConfusion z⟩
      rw [z, Nat.beq_refl] at c
      exact Bool.noConfusion c
  | f + 1, n, k + 1, h, hk => by
    unfold evB at h
    rw [Bool.and_eq_true] at h
    have := evB_is f (n + 2) k h.2 (by omega)
    rw [show n + 2 + 2 * k = n + 2 * (k + 1) by omega] at this
    exact this
theorem even_is {n : Nat} (h1 : 1 ≤ n) (h2 : n ≤ 10000) (h3 : n % 2 = 0) : restN n = n ↔ n ∈ [6, 28, 496, 8128] := by
  have := evB_is 5000 2 ((n - 2) / 2) f3 (by omega)
  rw [show 2 + 2 * ((n - 2) / 2) = n by omega] at this
  rw [← this]
  unfold restN
  omega
theorem pure_law : ∀ ds Q, p_law ds Q → b_law (endsOf Q) (startP 17 ds) := by
  rintro _ Q ⟨ns, rfl, hl, q⟩
  unfold b_law
  simp_wf
  refine ⟨ns, 0, rfl, by omega, by omega, fun c => ⟨c, 20, rfl, by omega, by omega, fun xs hxl hx => ?_⟩⟩
  simp_wf
  intro p
  simp_wf
  refine for_rngI (fun i δ => ∃ dl, δ = [.no, .val (.lst (xs.map .int)), .own p dl, .no, .no, .no, .no, .no, .no, .no, .no, .no, .no, .no, .no, .no, .no] ∧ dl = numL (fineN i)) ⟨_, rfl, rfl⟩ ?_ ?_
  · rintro i _ hi ⟨_, rfl, rfl⟩
    have hi : i < 12 := by omega
    obtain ⟨a1, a2⟩ := f1 i hi
    have b1 : 1 ≤ 2 ^ (i + 2) := Nat.pow_pos (by omega)
    have b2 : 2 ^ (i + 2) ≤ 2 ^ 13 := Nat.pow_le_pow_right (by omega) (by omega)
    have b3 : 2 ^ (i + 1) ≤ 2 ^ 12 := Nat.pow_le_pow_right (by omega) (by omega)
    have eo : ((2 ^ (i + 2) : Nat) : Int) - 1 = (odI i : Nat) := by unfold odI; omega
    have ho1 : 1 ≤ odI i := by
      have : 2 ^ 2 ≤ 2 ^ (i + 2) := Nat.pow_le_pow_right (by omega) (by omega)
      unfold odI; omega
    have ho2 : odI i ≤ 8191 := by unfold odI; omega
    unfold b_law_1
    simp_wf
    refine ⟨i + 2, by rw [show (2 : Int) + i = ((i + 2 : Nat) : Int) by omega], by omega, ?_⟩
    simp_wf
    rw [eo]
    refine ⟨fun δ => ∃ d, δ = [.no, .val (.lst (xs.map .int)), .own p (numL (fineN i)), .val (.int (2 + i)), .no, .val d, .no, .no, .no, .no, .no, .no, .no, .no, .no, .no, .no] ∧ d = (if aloneB (odI i) = true then .int (dueI i : Nat) else .non), ?_, ?_⟩
    · simp_wf
      refine ⟨odI i, rfl, ho1, by omega, ?_⟩
      simp_wf
      by_cases c : aloneB (odI i) = true
      · rw [if_pos c]
        refine ⟨i + 1, by rw [show (2 : Int) + i - 1 = ((i + 1 : Nat) : Int) by omega], by omega, ?_⟩
        simp_wf
        refine ⟨.inr ⟨by omega, by omega⟩, _, rfl, ?_⟩
        rw [if_pos c, ← Int.natCast_mul]; rfl
      · rw [if_neg c]
        exact ⟨_, rfl, by rw [if_neg c]⟩
    · rintro _ ⟨d, rfl, hd⟩
      simp_wf
      refine ⟨i + 1, by rw [show (2 : Int) + i = ((i + 1 + 1 : Nat) : Int) by omega], by omega, ?_⟩
      have e : (if (dvN (2 ^ (i + 1 + 1) - 1)).length = 2 then D.int ((2 ^ (i + 1) * (2 ^ (i + 1 + 1) - 1) : Nat) : Int) else .non) = d := by
        rw [hd, a1]
        simp only [decide_eq_true_eq]
        rfl
      rw [e]
      refine ⟨d, d, rfl, ?_, ?_, ?_⟩
      · rw [hd]; split
        · exact txtOk_i
        · exact txtOk_n
      · rw [hd]; split
        · exact dueOk_i
        · exact dueOk_n
      simp_wf
      by_cases c : aloneB (odI i) = true
      · rw [if_pos c] at hd
        subst hd
        simp_wf
        by_cases c2 : dueI i ≤ 10000
        · rw [if_pos (by omega)]
          have ft : fitB i = true := by unfold fitB; rw [c, Nat.ble_eq.mpr c2]; rfl
          have ef : fineN (i + 1) = fineN i ++ [dueI i] := by
            unfold fineN; rw [List.range_succ, List.filter_append]; simp [ft]
          have er : restN (dueI i) = (dueI i : Nat) := by
            have := a2 ft
            unfold restN; omega
          have lf : (numL (fineN i)).length ≤ i := by
            unfold fineN numL
            rw [List.length_map, List.length_map]
            exact Nat.le_trans (List.length_filter_le _ _) (by simp)
          refine ⟨by omega, ?_⟩
          simp_wf
          refine ⟨_, rfl, by omega, ?_⟩
          rw [er]
          refine ⟨_, _, rfl, txtOk_b, dueOk_b, ?_⟩
          simp_wf
          refine ⟨_, rfl, by omega, ?_⟩
          rw [er]
          simp_wf
          exact ⟨_, rfl, by rw [ef, numL_app]; rfl⟩
        · rw [if_neg (by omega)]
          have ft : fitB i = false := by
            unfold fitB; rw [c, Bool.true_and, Bool.eq_false_iff]; intro h; exact c2 (Nat.ble_eq.mp h)
          have ef : fineN (i + 1) = fineN i := by
            unfold fineN; rw [List.range_succ, List.filter_append]; simp [ft]
          exact ⟨_, rfl, by rw [ef]⟩
      · rw [if_neg c] at hd
        subst hd
        have ft : fitB i = false := by
          unfold fitB; rw [Bool.not_eq_true] at c; rw [c, Bool.false_and]
        have ef : fineN (i + 1) = fineN i := by
          unfold fineN; rw [List.range_succ, List.filter_append]; simp [ft]
        simp_wf
        exact ⟨_, rfl, by rw [ef]⟩
  · rintro _ ⟨_, rfl, rfl⟩
    rw [f2]
    refine nxt ?_
    unfold b_law_8
    simp_wf
    have nearL : ∀ d0 : Int, 0 ≤ d0 → ∃ m : Nat, ([D.int 6, D.int 28, D.int 496, D.int 8128, D.int 120, D.int 945, D.int 12, D.int 2] : List D)[(d0 % 8).toNat]? = some (.int m) ∧ 2 ≤ m ∧ m ≤ 8128 := by
      intro d0 _
      have : (d0 % 8).toNat < 8 := by omega
      revert this
      generalize (d0 % 8).toNat = j
      intro this
      have : j = 0 ∨ j = 1 ∨ j = 2 ∨ j = 3 ∨ j = 4 ∨ j = 5 ∨ j = 6 ∨ j = 7 := by omega
      rcases this with rfl | rfl | rfl | rfl | rfl | rfl | rfl | rfl
      · exact ⟨6, rfl, by omega, by omega⟩
      · exact ⟨28, rfl, by omega, by omega⟩
      · exact ⟨496, rfl, by omega, by omega⟩
      · exact ⟨8128, rfl, by omega, by omega⟩
      · exact ⟨120, rfl, by omega, by omega⟩
      · exact ⟨945, rfl, by omega, by omega⟩
      · exact ⟨12, rfl, by omega, by omega⟩
      · exact ⟨2, rfl, by omega, by omega⟩
    refine atD_ints (by omega) (by omega) fun d0 h0 => ?_
    simp_wf
    obtain ⟨m, hm, m1, m2⟩ := nearL d0 (hx d0 h0).1
    refine atD_at (j := (d0 % 8).toNat) (by omega) hm ?_
    simp_wf
    refine atD_ints (by omega) (by omega) fun d1 h1 => ?_
    simp_wf
    refine atD_ints (by omega) (by omega) fun d2 h2 => ?_
    simp_wf
    refine atD_ints (by omega) (by omega) fun d3 h3 => ?_
    simp_wf
    have g1 := hx d1 h1
    have g2 := hx d2 h2
    have g3 := hx d3 h3
    refine for_allI (fun δ => δ = [.no, .val (.lst (xs.map .int)), .val (.lst (numL [6, 28, 496, 8128])), .no, .no, .no, .no, .no, .no, .no, .no, .no, .no, .no, .no, .no, .no]) rfl ?_ ?_
    · rintro d _ hd rfl
      obtain ⟨n, rfl, n1, n2⟩ : ∃ n : Nat, d = .int n ∧ 1 ≤ n ∧ n ≤ 10000 := by
        simp only [List.mem_cons, List.not_mem_nil, or_false] at hd
        rcases hd with rfl | rfl | rfl | rfl | rfl | rfl | rfl
        · exact ⟨1, rfl, by omega, by omega⟩
        · exact ⟨(1 + d1 % 5040).toNat, by congr 1; omega, by omega, by omega⟩
        · exact ⟨m - 1, by congr 1; omega, by omega, by omega⟩
        · exact ⟨m, by congr 1, by omega, by omega⟩
        · exact ⟨m + 1, by congr 1, by omega, by omega⟩
        · exact ⟨(10000 - d2 % 4000).toNat, by congr 1; omega, by omega, by omega⟩
        · exact ⟨(2 + 2 * (d3 % 600)).toNat, by congr 1; omega, by omega, by omega⟩
      unfold b_law_2
      simp_wf
      refine ⟨n, rfl, by omega, ?_⟩
      simp_wf
      refine ⟨n, rfl, by omega, ?_⟩
      refine ⟨_, _, rfl, txtOk_i, dueOk_i, ?_⟩
      simp_wf
      refine ⟨n, rfl, by omega, ?_⟩
      refine ⟨_, _, rfl, txtOk_b, dueOk_b, ?_⟩
      simp_wf
      by_cases c : (n : Int) % 2 = 0
      · have ev := even_is n1 n2 (by omega)
        rw [if_pos c]
        refine ⟨rfl, ?_⟩
        have en : ((numL [6, 28, 496, 8128]).any fun z => z.eqv (D.int n)) = decide (n ∈ [6, 28, 496, 8128]) := by
          have := any_int n [6, 28, 496, 8128]
          show ((([6, 28, 496, 8128] : List Int).map D.int).any fun z => z.eqv (D.int n)) = _
          rw [this, Bool.eq_iff_iff, decide_eq_true_eq, decide_eq_true_eq]
          simp only [List.mem_cons, List.not_mem_nil, or_false]
          omega
        have en2 : decide (restN n = n) = decide (n ∈ [6, 28, 496, 8128]) := by
          rw [Bool.eq_iff_iff, decide_eq_true_eq, decide_eq_true_eq]; exact ev
        rw [en, en2, if_neg (by simp)]
        trivial
      · rw [if_neg c]
        trivial
    · rintro _ rfl
      refine nxt ?_
      unfold b_law_7
      simp_wf
      refine atD_ints (by omega) (by omega) fun d4 h4 => ?_
      have g4 := hx d4 h4
      simp_wf
      obtain ⟨o, ho, o1, o2⟩ : ∃ o : Nat, 2 + d4 % 1900 = o ∧ 1 ≤ o ∧ o ≤ 1901 := ⟨(2 + d4 % 1900).toNat, by omega, by omega, by omega⟩
      rw [ho]
      refine ⟨o, rfl, by omega, ?_⟩
      simp_wf
      obtain ⟨w, hw, w1, w2⟩ : ∃ w : Nat, (if restN o > 1 then restN o else 1) = w ∧ 1 ≤ w ∧ w ≤ 1000000000 := by
        have a := totN_le o
        have b : o * (2 * o) ≤ 1901 * (2 * 1901) := Nat.mul_le_mul o2 (by omega)
        have c := totN_ge o1
        rw [restN_nx o1]
        unfold nxN
        by_cases d : 1 < totN o - o
        · exact ⟨totN o - o, by rw [if_pos (by omega)], by omega, by omega⟩
        · exact ⟨1, by rw [if_neg (by omega)]; rfl, by omega, by omega⟩
      rw [hw]
      refine ⟨o, rfl, by omega, ?_⟩
      simp_wf
      refine atD_ints (by omega) (by omega) fun d5 h5 => ?_
      have g5 := hx d5 h5
      simp_wf
      refine atD_ints (by omega) (by omega) fun d6 h6 => ?_
      have g6 := hx d6 h6
      simp_wf
      rw [hw]
      refine for_allI (fun δ => δ = [.no, .val (.lst (xs.map .int)), .no, .no, .no, .no, .no, .no, .no, .no, .no, .no, .no, .no, .no, .no, .no]) rfl ?_ ?_
      · rintro d _ hd rfl
        obtain ⟨a, b, rfl, n1, n2⟩ : ∃ a b : Nat, d = .tup [.int a, .int b] ∧ a ≤ 1000000000 ∧ b ≤ 1000000000 := by
          simp only [List.mem_cons, List.not_mem_nil, or_false, List.cons_append, List.nil_append] at hd
          rcases hd with rfl | rfl | rfl | rfl | rfl | rfl | rfl | rfl | rfl | rfl
          · exact ⟨220, 284, rfl, by omega, by omega⟩
          · exact ⟨284, 220, rfl, by omega, by omega⟩
          · exact ⟨1184, 1210, rfl, by omega, by omega⟩
          · exact ⟨6, 6, rfl, by omega, by omega⟩
          · exact ⟨o, w, rfl, by omega, by omega⟩
          · exact ⟨220, 285, rfl, by omega, by omega⟩
          · exact ⟨o, o + 1, rfl, by omega, by omega⟩
          · exact ⟨w, o, rfl, by omega, by omega⟩
          · exact ⟨(1210 + d5 % 2).toNat, 1184, by rw [show (((1210 + d5 % 2).toNat : Nat) : Int) = 1210 + d5 % 2 by omega]; rfl, by omega, by omega⟩
          · exact ⟨2620, (2924 - d6 % 2).toNat, by rw [show (((2924 - d6 % 2).toNat : Nat) : Int) = 2924 - d6 % 2 by omega]; rfl, by omega, by omega⟩
        unfold b_law_3
        simp_wf
        refine ⟨fun δ => δ = [.no, .val (.lst (xs.map .int)), .no, .no, .no, .val (.bl (decide (a ≠ b ∧ restN a = b ∧ restN b = a))), .no, .no, .no, .no, .no, .no, .val (.int a), .val (.int b), .no, .no, .no], ?_, ?_⟩
        · simp_wf
          by_cases c : a = b
          · rw [if_neg (by omega), decide_eq_false (fun z => z.1 c)]
          · rw [if_pos (by omega)]
            refine ⟨a, rfl, n1, shp_i, ?_⟩
            by_cases c2 : restN a = b
            · rw [if_pos (by rw [eqv_int, decide_eq_true_eq]; exact c2)]
              refine ⟨b, rfl, n2, shp_i, ?_⟩
              rw [eqv_int]
              have : decide (restN b = a) = decide (¬a = b ∧ restN a = b ∧ restN b = a) := by simp [c, c2]
              rw [this]
            · rw [if_neg (by rw [eqv_int, decide_eq_true_eq]; exact c2), decide_eq_false (fun z => c2 z.2.1)]
        · rintro _ rfl
          simp_wf
          refine ⟨a, b, rfl, n1, n2, ?_⟩
          refine ⟨_, _, rfl, txtOk_b, dueOk_b, ?_⟩
          simp_wf
      · rintro _ rfl
        refine nxt ?_
        unfold b_law_6
        simp_wf
        refine for_allI (fun δ => δ = [.no, .val (.lst (xs.map .int)), .no, .no, .no, .no, .no, .no, .no, .no, .no, .no, .no, .no, .no, .no, .no]) rfl ?_ ?_
        · rintro d _ hd rfl
          obtain ⟨i, hi, rfl⟩ := mem_rng hd
          have hi : i < 4 := by omega
          unfold b_law_4
          simp_wf
          refine atD_ints (by omega) (by omega) fun d7 h7 => ?_
          have g7 := hx d7 h7
          simp_wf
          refine atD_ints (by omega) (by omega) fun d8 h8 => ?_
          have g8 := hx d8 h8
          simp_wf
          obtain ⟨n, hn, n1, n2⟩ : ∃ n : Nat, 1 + d7 % 200 = n ∧ 1 ≤ n ∧ n ≤ 200 := ⟨(1 + d7 % 200).toNat, by omega, by omega, by omega⟩
          obtain ⟨k, hk, k1⟩ : ∃ k : Nat, 1 + d8 % 8 = ((k + 1 : Nat) : Int) ∧ k ≤ 7 := ⟨(d8 % 8).toNat, by omega, by omega⟩
          rw [hn, hk]
          refine ⟨n, k, rfl, by omega, n1, chN_small k1 n1 n2, ?_⟩
          refine ⟨n, k, rfl, by omega, n1, chN_small k1 n1 n2, ?_⟩
          refine ⟨_, _, rfl, txt_num _, due_num _ (Nat.le_trans chN_len (by omega)), ?_⟩
          simp_wf
        · rintro _ rfl
          refine nxt ?_
          unfold b_law_5
          simp_wf
          refine atD_ints (by omega) (by omega) fun d9 h9 => ?_
          have g9 := hx d9 h9
          simp_wf
          obtain ⟨n, hn, n1, n2⟩ : ∃ n : Nat, ([D.int 25, D.int 95, D.int 12, D.int 1, D.int 120, D.int 138] : List D)[(d9 % 6).toNat]? = some (.int n) ∧ 1 ≤ n ∧ n ≤ 200 := by
            have : (d9 % 6).toNat < 6 := by omega
            revert this
            generalize (d9 % 6).toNat = j
            intro this
            have : j = 0 ∨ j = 1 ∨ j = 2 ∨ j = 3 ∨ j = 4 ∨ j = 5 := by omega
            rcases this with rfl | rfl | rfl | rfl | rfl | rfl
            · exact ⟨25, rfl, by omega, by omega⟩
            · exact ⟨95, rfl, by omega, by omega⟩
            · exact ⟨12, rfl, by omega, by omega⟩
            · exact ⟨1, rfl, by omega, by omega⟩
            · exact ⟨120, rfl, by omega, by omega⟩
            · exact ⟨138, rfl, by omega, by omega⟩
          refine atD_at (j := (d9 % 6).toNat) (by omega) hn ?_
          simp_wf
          refine ⟨n, 7, rfl, by omega, n1, chN_small (by omega) n1 n2, ?_⟩
          refine ⟨n, 7, rfl, by omega, n1, chN_small (by omega) n1 n2, ?_⟩
          refine ⟨_, _, rfl, txt_num _, due_num _ (Nat.le_trans chN_len (by omega)), ?_⟩
          simp_wf
          refine ⟨n, 0, rfl, by omega, n1, chN_small (by omega) n1 n2, ?_⟩
          refine ⟨_, _, rfl, txt_num _, ?_, ?_⟩
          · exact due_num [n] (by simp)
          have e : D.tup (numL (chN 0 n)) = .tup [.int n] := rfl
          rw [decide_eq_true e]
          exact q
end G
namespace G
open PySem PySem.Spec PyProof.Rows L2 PL
def topS (i : Nat) : Stmt := PySem.Challenge.pw_reckonhall_k31_whole_perfects_friends_an.main.body.getD i (.Pass ⟨0, 0, 0, 0⟩)
section
variable {P : Program} {w : World} {K : PySem.W.Frag} {mg : Str → Option Value} {base : Heap}
abbrev s_divisors_of : Stmt := topS 1
theorem sc_divisors_of : FnScope ["n", "low", "high", "d"] ["n"] (defScope s_divisors_of) := ⟨rfl, rfl, rfl, by decide +kernel, rfl, by decide +kernel, by decide +kernel⟩
theorem ok_divisors_of (T : Bi mg) {f : Addr} {fd : FuncData} (F : Fun K "divisors_of" "divisors_of" s_divisors_of f fd) (hm : mg "divisors_of" = some (.ref f)) (hb : L2.Binds K fd ["n"] [])  : Cal P w K mg base "divisors_of" 1 ["n"] p_divisors_of := by
  have nd : List.Nodup (["n", "low", "high", "d"] : List Str) := sc_divisors_of.nd
  refine ⟨f, fd, q_def F sc_divisors_of 4 rfl len_divisors_of (fun cdv A outer s H E hr => ?_) pure_divisors_of, hm, F.kp, hb, fdat F⟩
  have hu := hr.units
  have hu2 := units65 hr
  exact (qs_cons (qs_own 1 nd (qf_lst qa_nil))
    (qs_cons (qs_own 2 nd (qf_lst qa_nil))
    (qs_cons (qs_set 3 nd q_int)
    (qs_cons (qs_while PassesOwn.never (q_cmpT k_le (q_op k_mul (q_var 3) (q_var 3)) (q_var 0) (nomark _)) (qs_cut [] (qs_if (q_cmpT (k_eq hu) (q_op k_mod (q_var 0) (q_var 3)) q_int (nomark _)) (qs_cons (qs_app 1 (q_var 3))
    (qs_one (qs_if (q_cmpT k_lt (q_op k_mul (q_var 3) (q_var 3)) (q_var 0) (nomark _)) (qs_one (qs_app 2 (q_op k_fdiv (q_var 0) (q_var 3)))) qs_nil))) qs_nil)
    (qs_one (qs_aug 3 k_addI nd q_int))))
    (qs_one (qs_frz 1 (qs_frz 2 (qs_ret (q_callTy b_tuple (by rfl) T.tuple (by decide +kernel) (qa_cons (q_op k_add (q_var 1) (q_rev (q_var 2))) qa_nil))))))))))
abbrev s_power_of : Stmt := topS 2
theorem sc_power_of : FnScope ["number", "k", "whole", "_"] ["number", "k"] (defScope s_power_of) := ⟨rfl, rfl, rfl, by decide +kernel, rfl, by decide +kernel, by decide +kernel⟩
theorem ok_power_of (T : Bi mg) {f : Addr} {fd : FuncData} (F : Fun K "power_of" "power_of" s_power_of f fd) (hm : mg "power_of" = some (.ref f)) (hb : L2.Binds K fd ["number", "k"] [])  : Cal P w K mg base "power_of" 1 ["number", "k"] p_power_of := by
  have nd : List.Nodup (["number", "k", "whole", "_"] : List Str) := sc_power_of.nd
  refine ⟨f, fd, q_def F sc_power_of 4 rfl len_power_of (fun cdv A outer s H E hr => ?_) pure_power_of, hm, F.kp, hb, fdat F⟩
  have hu := hr.units
  have hu2 := units65 hr
  exact (qs_cons (qs_set 2 nd q_int)
    (qs_cons (qs_for [1, 3] PassesOwn.never rfl (qi_rng1 T.range (q_var 1)) (qg_name 3 nd) (qss_end [1, 3] (qs_one (qs_aug 2 ki_mul nd (q_var 0)))))
    (qs_one (qs_ret (q_var 2)))))
abbrev s_rest_sum : Stmt := topS 4
theorem sc_rest_sum : FnScope ["n"] ["n"] (defScope s_rest_sum) := ⟨rfl, rfl, rfl, by decide +kernel, rfl, by decide +kernel, by decide +kernel⟩
theorem ok_rest_sum (T : Bi mg) {f : Addr} {fd : FuncData} (F : Fun K "rest_sum" "rest_sum" s_rest_sum f fd) (hm : mg "rest_sum" = some (.ref f)) (hb : L2.Binds K fd ["n"] []) (C_divisors_of : Cal P w K mg base "divisors_of" 1 ["n"] p_divisors_of) : Cal P w K mg base "rest_sum" 2 ["n"] p_rest_sum := by
  have nd : List.Nodup (["n"] : List Str) := sc_rest_sum.nd
  refine ⟨f, fd, q_def F sc_rest_sum 1 rfl len_rest_sum (fun cdv A outer s H E hr => ?_) pure_rest_sum, hm, F.kp, hb, fdat F⟩
  have hu := hr.units
  have hu2 := units65 hr
  exact (qs_one (qs_ret (q_op k_sub (q_callB (b_sumS rfl) (by rfl) T.sum (by decide +kernel) (qa_cons (q_callC C_divisors_of (hr.mono (by decide)) (qa_cons (q_var 0) qa_nil)) qa_nil)) (q_var 0))))
abbrev s_has_two_divisors : Stmt := topS 5
theorem sc_has_two_divisors : FnScope ["n"] ["n"] (defScope s_has_two_divisors) := ⟨rfl, rfl, rfl, by decide +kernel, rfl, by decide +kernel, by decide +kernel⟩
theorem ok_has_two_divisors (T : Bi mg) {f : Addr} {fd : FuncData} (F : Fun K "has_two_divisors" "has_two_divisors" s_has_two_divisors f fd) (hm : mg "has_two_divisors" = some (.ref f)) (hb : L2.Binds K fd ["n"] []) (C_divisors_of : Cal P w K mg base "divisors_of" 1 ["n"] p_divisors_of) : Cal P w K mg base "has_two_divisors" 2 ["n"] p_has_two_divisors := by
  have nd : List.Nodup (["n"] : List Str) := sc_has_two_divisors.nd
  refine ⟨f, fd, q_def F sc_has_two_divisors 1 rfl len_has_two_divisors (fun cdv A outer s H E hr => ?_) pure_has_two_divisors, hm, F.kp, hb, fdat F⟩
  have hu := hr.units
  have hu2 := units65 hr
  exact (qs_one (qs_ret (q_cmp (k_eq hu) (q_callB b_len (by rfl) T.len (by decide +kernel) (qa_cons (q_callC C_divisors_of (hr.mono (by decide)) (qa_cons (q_var 0) qa_nil)) qa_nil)) q_int (nomark _))))
abbrev s_is_perfect : Stmt := topS 6
theorem sc_is_perfect : FnScope ["n"] ["n"] (defScope s_is_perfect) := ⟨rfl, rfl, rfl, by decide +kernel, rfl, by decide +kernel, by decide +kernel⟩
theorem ok_is_perfect (T : Bi mg) {f : Addr} {fd : FuncData} (F : Fun K "is_perfect" "is_perfect" s_is_perfect f fd) (hm : mg "is_perfect" = some (.ref f)) (hb : L2.Binds K fd ["n"] []) (C_rest_sum : Cal P w K mg base "rest_sum" 2 ["n"] p_rest_sum) : Cal P w K mg base "is_perfect" 3 ["n"] p_is_perfect := by
  have nd : List.Nodup (["n"] : List Str) := sc_is_perfect.nd
  refine ⟨f, fd, q_def F sc_is_perfect 1 rfl len_is_perfect (fun cdv A outer s H E hr => ?_) pure_is_perfect, hm, F.kp, hb, fdat F⟩
  have hu := hr.units
  have hu2 := units65 hr
  exact (qs_one (qs_ret (q_cmp (k_eq hu) (q_callC C_rest_sum (hr.mono (by decide)) (qa_cons (q_var 0) qa_nil)) (q_var 0) (nomark _))))
abbrev s_perfect_at : Stmt := topS 7
theorem sc_perfect_at : FnScope ["k", "odd"] ["k"] (defScope s_perfect_at) := ⟨rfl, rfl, rfl, by decide +kernel, rfl, by decide +kernel, by decide +kernel⟩
theorem ok_perfect_at (T : Bi mg) {f : Addr} {fd : FuncData} (F : Fun K "perfect_at" "perfect_at" s_perfect_at f fd) (hm : mg "perfect_at" = some (.ref f)) (hb : L2.Binds K fd ["k"] []) (C_power_of : Cal P w K mg base "power_of" 1 ["number", "k"] p_power_of) (C_has_two_divisors : Cal P w K mg base "has_two_divisors" 2 ["n"] p_has_two_divisors) : Cal P w K mg base "perfect_at" 3 ["k"] p_perfect_at := by
  have nd : List.Nodup (["k", "odd"] : List Str) := sc_perfect_at.nd
  refine ⟨f, fd, q_def F sc_perfect_at 2 rfl len_perfect_at (fun cdv A outer s H E hr => ?_) pure_perfect_at, hm, F.kp, hb, fdat F⟩
  have hu := hr.units
  have hu2 := units65 hr
  exact (qs_cons (qs_set 1 nd (q_op k_sub (q_callC C_power_of (hr.mono (by decide)) (qa_cons q_int (qa_cons (q_var 0) qa_nil))) q_int))
    (qs_cons (qs_if (q_notT (q_tru (q_callC C_has_two_divisors (hr.mono (by decide)) (qa_cons (q_var 1) qa_nil)))) (qs_one (qs_ret q_non)) qs_nil)
    (qs_one (qs_ret (q_op k_mul (q_callC C_power_of (hr.mono (by decide)) (qa_cons q_int (qa_cons (q_op k_sub (q_var 0) q_int) qa_nil))) (q_var 1))))))
abbrev s_are_friends : Stmt := topS 8
theorem sc_are_friends : FnScope ["first", "second"] ["first", "second"] (defScope s_are_friends) := ⟨rfl, rfl, rfl, by decide +kernel, rfl, by decide +kernel, by decide +kernel⟩
theorem ok_are_friends (T : Bi mg) {f : Addr} {fd : FuncData} (F : Fun K "are_friends" "are_friends" s_are_friends f fd) (hm : mg "are_friends" = some (.ref f)) (hb : L2.Binds K fd ["first", "second"] []) (C_rest_sum : Cal P w K mg base "rest_sum" 2 ["n"] p_rest_sum) : Cal P w K mg base "are_friends" 3 ["first", "second"] p_are_friends := by
  have nd : List.Nodup (["first", "second"] : List Str) := sc_are_friends.nd
  refine ⟨f, fd, q_def F sc_are_friends 2 rfl len_are_friends (fun cdv A outer s H E hr => ?_) pure_are_friends, hm, F.kp, hb, fdat F⟩
  have hu := hr.units
  have hu2 := units65 hr
  exact (qs_one (qs_ret (q_andV (q_cmp (k_ne hu) (q_var 0) (q_var 1) (nomark _)) (q_andV (q_cmp (k_eq hu) (q_callC C_rest_sum (hr.mono (by decide)) (qa_cons (q_var 0) qa_nil)) (q_var 1) (nomark _)) (q_one (q_cmp (k_eq hu) (q_callC C_rest_sum (hr.mono (by decide)) (qa_cons (q_var 1) qa_nil)) (q_var 0) (nomark _)))))))
abbrev s_chain_from : Stmt := topS 9
theorem sc_chain_from : FnScope ["n", "size", "chain"] ["n", "size"] (defScope s_chain_from) := ⟨rfl, rfl, rfl, by decide +kernel, rfl, by decide +kernel, by decide +kernel⟩
theorem ok_chain_from (T : Bi mg) {f : Addr} {fd : FuncData} (F : Fun K "chain_from" "chain_from" s_chain_from f fd) (hm : mg "chain_from" = some (.ref f)) (hb : L2.Binds K fd ["n", "size"] []) (C_rest_sum : Cal P w K mg base "rest_sum" 2 ["n"] p_rest_sum) : Cal P w K mg base "chain_from" 3 ["n", "size"] p_chain_from := by
  have nd : List.Nodup (["n", "size", "chain"] : List Str) := sc_chain_from.nd
  refine ⟨f, fd, q_def F sc_chain_from 3 rfl len_chain_from (fun cdv A outer s H E hr => ?_) pure_chain_from, hm, F.kp, hb, fdat F⟩
  have hu := hr.units
  have hu2 := units65 hr
  exact (qs_cons (qs_own 2 nd (qf_lst (qa_cons (q_var 0) qa_nil)))
    (qs_cons (qs_fgt [0] (qs_while PassesOwn.never (q_wt (q_and (q_cmpT k_lt (q_lenS T.len 2) (q_var 1) (nomark _)) (q_and1 (q_cmpT k_gt (q_ixS 2 (q_un k_neg q_int) (fun _ _ => rfl)) q_int (nomark _))))) (qss_end [0] (qs_one (qs_app 2 (q_callC C_rest_sum (hr.mono (by decide)) (qa_cons (q_ixS 2 (q_un k_neg q_int) (fun _ _ => rfl)) qa_nil)))))))
    (qs_one (qs_ret (q_tupleS T.tuple 2)))))
abbrev s__law_cell : Stmt := topS 11
theorem sc__law_cell : FnScope ["script", "k"] ["script", "k"] (defScope s__law_cell) := ⟨rfl, rfl, rfl, by decide +kernel, rfl, by decide +kernel, by decide +kernel⟩
theorem ok__law_cell (T : Bi mg) {f : Addr} {fd : FuncData} (F : Fun K "_law_cell" "_law_cell" s__law_cell f fd) (hm : mg "_law_cell" = some (.ref f)) (hb : L2.Binds K fd ["script", "k"] [])  : Cal P w K mg base "_law_cell" 1 ["script", "k"] p__law_cell := by
  have nd : List.Nodup (["script", "k"] : List Str) := sc__law_cell.nd
  refine ⟨f, fd, q_def F sc__law_cell 2 rfl len__law_cell (fun cdv A outer s H E hr => ?_) pure__law_cell, hm, F.kp, hb, fdat F⟩
  have hu := hr.units
  have hu2 := units65 hr
  exact (qs_cons (qs_if (q_cmpT k_lt (q_var 1) (q_callB b_len (by rfl) T.len (by decide +kernel) (qa_cons (q_var 0) qa_nil)) (nomark _)) (qs_one (qs_ret (q_ix k_ix (q_var 0) (q_var 1) (fun _ _ => rfl)))) qs_nil)
    (qs_one (qs_ret (q_op k_add (q_op k_mul q_int (q_var 1)) q_int))))
abbrev s__law_draws : Stmt := topS 12
theorem sc__law_draws : FnScope ["cell", "count", "rest", "digits", "seed", "draws", "k", "mixed"] ["cell", "count"] (defScope s__law_draws) := ⟨rfl, rfl, rfl, by decide +kernel, rfl, by decide +kernel, by decide +kernel⟩
theorem ok__law_draws (T : Bi mg) {f : Addr} {fd : FuncData} (F : Fun K "_law_draws" "_law_draws" s__law_draws f fd) (hm : mg "_law_draws" = some (.ref f)) (hb : L2.Binds K fd ["cell", "count"] [])  : Cal P w K mg base "_law_draws" 1 ["cell", "count"] p__law_draws := by
  have nd : List.Nodup (["cell", "count", "rest", "digits", "seed", "draws", "k", "mixed"] : List Str) := sc__law_draws.nd
  refine ⟨f, fd, q_def F sc__law_draws 8 rfl len__law_draws (fun cdv A outer s H E hr => ?_) pure__law_draws, hm, F.kp, hb, fdat F⟩
  have hu := hr.units
  have hu2 := units65 hr
  exact (qs_cons (qs_set 2 nd (q_callB b_abs (by rfl) T.abs (by decide +kernel) (qa_cons (q_callTy b_int (by rfl) T.int (by decide +kernel) (qa_cons (q_var 0) qa_nil)) qa_nil)))
    (qs_cons (qs_set 3 nd (q_cmp k_ge (q_var 2) (q_op k_pow q_int q_int) (nomark _)))
    (qs_cons (qs_set 4 nd (q_var 2))
    (qs_cons (qs_own 5 nd (qf_lst qa_nil))
    (qs_cons (qs_for [0, 1, 6, 7] PassesOwn.never rfl (qi_rng1 T.range (q_var 1)) (qg_name 6 nd) (qss_end [0, 1, 6, 7] (qs_one (qs_if (q_wt (q_and (q_tru (q_var 3)) (q_and1 (q_cmpT k_gt (q_var 2) q_int (nomark _))))) (qs_cons (qs_app 5 (q_op k_mod (q_callTy b_int (by rfl) T.int (by decide +kernel) (qa_cons (q_var 2) qa_nil)) q_int))
    (qs_one (qs_set 2 nd (q_op k_fdiv (q_var 2) q_int)))) (qs_cons (qs_set 7 nd (q_op k_mod (q_callTy b_int (by rfl) T.int (by decide +kernel) (qa_cons (q_op k_add (q_op k_add (q_op k_mul (q_var 4) q_int) (q_op k_mul (q_op k_add (q_var 6) q_int) q_int)) q_int) qa_nil)) q_int))
    (qs_cons (qs_set 7 nd (q_op k_mod (q_callTy b_int (by rfl) T.int (by decide +kernel) (qa_cons (q_op k_add (q_op k_mul (q_var 7) (q_var 7)) (q_op k_mul q_int (q_op k_add (q_var 6) q_int))) qa_nil)) q_int))
    (qs_one (qs_app 5 (q_op k_mod (q_callTy b_int (by rfl) T.int (by decide +kernel) (qa_cons (q_op k_fdiv (q_var 7) q_int) qa_nil)) q_int)))))))))
    (qs_one (qs_frz 5 (qs_ret (q_var 5)))))))))
abbrev s__law_is_integer : Stmt := topS 13
theorem sc__law_is_integer : FnScope ["value"] ["value"] (defScope s__law_is_integer) := ⟨rfl, rfl, rfl, by decide +kernel, rfl, by decide +kernel, by decide +kernel⟩
theorem ok__law_is_integer (T : Bi mg) {f : Addr} {fd : FuncData} (F : Fun K "_law_is_integer" "_law_is_integer" s__law_is_integer f fd) (hm : mg "_law_is_integer" = some (.ref f)) (hb : L2.Binds K fd ["value"] [])  : Cal P w K mg base "_law_is_integer" 1 ["value"] p__law_is_integer := by
  have nd : List.Nodup (["value"] : List Str) := sc__law_is_integer.nd
  refine ⟨f, fd, q_def F sc__law_is_integer 1 rfl len__law_is_integer (fun cdv A outer s H E hr => ?_) pure__law_is_integer, hm, F.kp, hb, fdat F⟩
  have hu := hr.units
  have hu2 := units65 hr
  exact (qs_one (qs_ret (q_andV (q_isI .int (q_var 0) T.isinstance T.int (by decide +kernel)) (q_one (q_not (q_isI .bool (q_var 0) T.isinstance T.bool (by decide +kernel)))))))
abbrev s__law_is : Stmt := topS 14
theorem sc__law_is : FnScope ["value", "due", "at"] ["value", "due"] (defScope s__law_is) := ⟨rfl, rfl, rfl, by decide +kernel, rfl, by decide +kernel, by decide +kernel⟩
theorem ok__law_is (T : Bi mg) {f : Addr} {fd : FuncData} (F : Fun K "_law_is" "_law_is" s__law_is f fd) (hm : mg "_law_is" = some (.ref f)) (hb : L2.Binds K fd ["value", "due"] []) (C__law_is_integer : Cal P w K mg base "_law_is_integer" 1 ["value"] p__law_is_integer) : Cal P w K mg base "_law_is" 14 ["value", "due"] p__law_is := by
  have nd : List.Nodup (["value", "due", "at"] : List Str) := sc__law_is.nd
  have all : ∀ n, Cal P w K mg base "_law_is" (n + 2) ["value", "due"] (pr__law_is n) := by
    intro n
    induction n with
    | zero => exact cal_zero hm F.kp hb (fdat F) fun ds Q h => (zero__law_is ds Q h).elim
    | succ n C_self =>
      refine ⟨f, fd, q_def F sc__law_is 3 rfl len__law_is (fun cdv A outer s H E hr => ?_) (pure__law_is n), hm, F.kp, hb, fdat F⟩
      have hu := hr.units
      have hu2 := units65 hr
      exact (qs_cons (qs_if (q_isNT (q_var 1)) (qs_one (qs_ret (q_isN (q_var 0)))) qs_nil)
    (qs_cons (qs_if (q_tru (q_isI .bool (q_var 1) T.isinstance T.bool (by decide +kernel))) (qs_one (qs_ret (q_andV (q_isI .bool (q_var 0) T.isinstance T.bool (by decide +kernel)) (q_one (q_cmp (k_eq hu) (q_var 0) (q_var 1) (nomark _)))))) qs_nil)
    (qs_cons (qs_if (q_tru (q_isI .int (q_var 1) T.isinstance T.int (by decide +kernel))) (qs_one (qs_ret (q_andV (q_callC C__law_is_integer (hr.mono (by omega)) (qa_cons (q_var 0) qa_nil)) (q_one (q_cmp (k_eq hu) (q_var 0) (q_var 1) (nomark _)))))) qs_nil)
    (qs_cons (qs_if (q_tru (q_isI .str (q_var 1) T.isinstance T.str (by decide +kernel))) (qs_one (qs_ret (q_andV (q_isI .str (q_var 0) T.isinstance T.str (by decide +kernel)) (q_one (q_cmp (k_eq hu) (q_var 0) (q_var 1) (nomark _)))))) qs_nil)
    (qs_cons (qs_if (q_wt (q_or (q_notT (q_tru (q_isI .tuple (q_var 0) T.isinstance T.tuple (by decide +kernel)))) (q_or1 (q_cmpT (k_ne hu) (q_callB b_len (by rfl) T.len (by decide +kernel) (qa_cons (q_var 0) qa_nil)) (q_callB b_len (by rfl) T.len (by decide +kernel) (qa_cons (q_var 1) qa_nil)) (nomark _))))) (qs_one (qs_ret q_bl)) qs_nil)
    (qs_one (qs_ret (q_callB (b_all rfl) (by rfl) T.all (by decide +kernel) (qa_cons (q_fr (qf_lc (own := [("at", 2)]) rfl nd (qi_rng1 T.range (q_callB b_len (by rfl) T.len (by decide +kernel) (qa_cons (q_var 1) qa_nil))) (blkOk_by (by kernel_rfl)) (by decide) (fun _ _ _ _ _ => (qg_name 2 nd)) (fun _ _ _ _ _ => qts_nil) (fun _ _ _ _ _ => (q_callC C_self hr (qa_cons (q_ix k_ix (q_var 0) (q_var 2) (fun _ _ => rfl)) (qa_cons (q_ix k_ix (q_var 1) (q_var 2) (fun _ _ => rfl)) qa_nil)))))) qa_nil)))))))))
  exact (all 12).imp from__law_is
abbrev s__law_rest : Stmt := topS 15
theorem sc__law_rest : FnScope ["number", "total", "d"] ["number"] (defScope s__law_rest) := ⟨rfl, rfl, rfl, by decide +kernel, rfl, by decide +kernel, by decide +kernel⟩
theorem ok__law_rest (T : Bi mg) {f : Addr} {fd : FuncData} (F : Fun K "_law_rest" "_law_rest" s__law_rest f fd) (hm : mg "_law_rest" = some (.ref f)) (hb : L2.Binds K fd ["number"] [])  : Cal P w K mg base "_law_rest" 1 ["number"] p__law_rest := by
  have nd : List.Nodup (["number", "total", "d"] : List Str) := sc__law_rest.nd
  refine ⟨f, fd, q_def F sc__law_rest 3 rfl len__law_rest (fun cdv A outer s H E hr => ?_) pure__law_rest, hm, F.kp, hb, fdat F⟩
  have hu := hr.units
  have hu2 := units65 hr
  exact (qs_cons (qs_set 1 nd q_int)
    (qs_cons (qs_set 2 nd q_int)
    (qs_cons (qs_while PassesOwn.never (q_cmpT k_le (q_op k_mul (q_var 2) (q_var 2)) (q_var 0) (nomark _)) (qs_cut [] (qs_if (q_cmpT (k_eq hu) (q_op k_mod (q_var 0) (q_var 2)) q_int (nomark _)) (qs_one (qs_set 1 nd (q_op k_add (q_op k_add (q_var 1) (q_var 2)) (q_if (q_cmpT k_lt (q_op k_mul (q_var 2) (q_var 2)) (q_var 0) (nomark _)) (q_op k_fdiv (q_var 0) (q_var 2)) q_int)))) qs_nil)
    (qs_one (qs_set 2 nd (q_op k_add (q_var 2) q_int)))))
    (qs_one (qs_ret (q_op k_sub (q_var 1) (q_var 0)))))))
abbrev s__law_alone : Stmt := topS 16
theorem sc__law_alone : FnScope ["number", "d"] ["number"] (defScope s__law_alone) := ⟨rfl, rfl, rfl, by decide +kernel, rfl, by decide +kernel, by decide +kernel⟩
theorem ok__law_alone (T : Bi mg) {f : Addr} {fd : FuncData} (F : Fun K "_law_alone" "_law_alone" s__law_alone f fd) (hm : mg "_law_alone" = some (.ref f)) (hb : L2.Binds K fd ["number"] [])  : Cal P w K mg base "_law_alone" 1 ["number"] p__law_alone := by
  have nd : List.Nodup (["number", "d"] : List Str) := sc__law_alone.nd
  refine ⟨f, fd, q_def F sc__law_alone 2 rfl len__law_alone (fun cdv A outer s H E hr => ?_) pure__law_alone, hm, F.kp, hb, fdat F⟩
  have hu := hr.units
  have hu2 := units65 hr
  exact (qs_cons (qs_set 1 nd q_int)
    (qs_cons (qs_while PassesOwn.never (q_cmpT k_le (q_op k_mul (q_var 1) (q_var 1)) (q_var 0) (nomark _)) (qs_cons (qs_if (q_cmpT (k_eq hu) (q_op k_mod (q_var 0) (q_var 1)) q_int (nomark _)) (qs_one (qs_ret q_bl)) qs_nil)
    (qs_one (qs_set 1 nd (q_op k_add (q_var 1) q_int)))))
    (qs_one (qs_ret (q_cmp k_gt (q_var 0) q_int (nomark _))))))
abbrev s__law_twos : Stmt := topS 17
theorem sc__law_twos : FnScope ["k", "whole", "turn"] ["k"] (defScope s__law_twos) := ⟨rfl, rfl, rfl, by decide +kernel, rfl, by decide +kernel, by decide +kernel⟩
theorem ok__law_twos (T : Bi mg) {f : Addr} {fd : FuncData} (F : Fun K "_law_twos" "_law_twos" s__law_twos f fd) (hm : mg "_law_twos" = some (.ref f)) (hb : L2.Binds K fd ["k"] [])  : Cal P w K mg base "_law_twos" 1 ["k"] p__law_twos := by
  have nd : List.Nodup (["k", "whole", "turn"] : List Str) := sc__law_twos.nd
  refine ⟨f, fd, q_def F sc__law_twos 3 rfl len__law_twos (fun cdv A outer s H E hr => ?_) pure__law_twos, hm, F.kp, hb, fdat F⟩
  have hu := hr.units
  have hu2 := units65 hr
  exact (qs_cons (qs_set 1 nd q_int)
    (qs_cons (qs_for [0, 2] PassesOwn.never rfl (qi_rng1 T.range (q_var 0)) (qg_name 2 nd) (qss_end [0, 2] (qs_one (qs_set 1 nd (q_op k_mul (q_var 1) q_int)))))
    (qs_one (qs_ret (q_var 1)))))
abbrev s__law_chain : Stmt := topS 18
theorem sc__law_chain : FnScope ["number", "size", "chain", "turn"] ["number", "size"] (defScope s__law_chain) := ⟨rfl, rfl, rfl, by decide +kernel, rfl, by decide +kernel, by decide +kernel⟩
theorem ok__law_chain (T : Bi mg) {f : Addr} {fd : FuncData} (F : Fun K "_law_chain" "_law_chain" s__law_chain f fd) (hm : mg "_law_chain" = some (.ref f)) (hb : L2.Binds K fd ["number", "size"] []) (C__law_rest : Cal P w K mg base "_law_rest" 1 ["number"] p__law_rest) : Cal P w K mg base "_law_chain" 2 ["number", "size"] p__law_chain := by
  have nd : List.Nodup (["number", "size", "chain", "turn"] : List Str) := sc__law_chain.nd
  refine ⟨f, fd, q_def F sc__law_chain 4 rfl len__law_chain (fun cdv A outer s H E hr => ?_) pure__law_chain, hm, F.kp, hb, fdat F⟩
  have hu := hr.units
  have hu2 := units65 hr
  exact (qs_cons (qs_own 2 nd (qf_lst (qa_cons (q_var 0) qa_nil)))
    (qs_cons (qs_for [0, 1, 3] PassesOwn.never rfl (qi_rng1 T.range (q_op k_sub (q_var 1) q_int)) (qg_name 3 nd) (qss_end [0, 1, 3] (qs_one (qs_if (q_cmpT k_gt (q_ixS 2 (q_op k_sub (q_lenS T.len 2) q_int) (fun _ _ => rfl)) q_int (nomark _)) (qs_one (qs_app 2 (q_callC C__law_rest (hr.mono (by decide)) (qa_cons (q_ixS 2 (q_op k_sub (q_lenS T.len 2) q_int) (fun _ _ => rfl)) qa_nil)))) qs_nil))))
    (qs_one (qs_ret (q_tupleS T.tuple 2)))))
abbrev s_law : Stmt := topS 19
theorem sc_law : FnScope ["script", "draws", "fine", "k", "odd", "due", "near", "numbers", "number", "own", "one", "pairs", "first", "second", "turn", "size", "menu"] ["script"] (defScope s_law) := ⟨rfl, rfl, rfl, by decide +kernel, rfl, by decide +kernel, by decide +kernel⟩
theorem ok_law (T : Bi mg) {f : Addr} {fd : FuncData} (F : Fun K "law" "law" s_law f fd) (hm : mg "law" = some (.ref f)) (hb : L2.Binds K fd ["script"] []) (C__law_draws : Cal P w K mg base "_law_draws" 1 ["cell", "count"] p__law_draws) (C__law_cell : Cal P w K mg base "_law_cell" 1 ["script", "k"] p__law_cell) (C__law_rest : Cal P w K mg base "_law_rest" 1 ["number"] p__law_rest) (C__law_is : Cal P w K mg base "_law_is" 14 ["value", "due"] p__law_is) (C__law_twos : Cal P w K mg base "_law_twos" 1 ["k"] p__law_twos) (C__law_alone : Cal P w K mg base "_law_alone" 1 ["number"] p__law_alone) (C_chain_from : Cal P w K mg base "chain_from" 3 ["n", "size"] p_chain_from) (C__law_chain : Cal P w K mg base "_law_chain" 2 ["number", "size"] p__law_chain) (C_perfect_at : Cal P w K mg base "perfect_at" 3 ["k"] p_perfect_at) (C_are_friends : Cal P w K mg base "are_friends" 3 ["first", "second"] p_are_friends) (C_rest_sum : Cal P w K mg base "rest_sum" 2 ["n"] p_rest_sum) (C_is_perfect : Cal P w K mg base "is_perfect" 3 ["n"] p_is_perfect) : Cal P w K mg base "law" 15 ["script"] p_law := by
  have nd : List.Nodup (["script", "draws", "fine", "k", "odd", "due", "near", "numbers", "number", "own", "one", "pairs", "first", "second", "turn", "size", "menu"] : List Str) := sc_law.nd
  refine ⟨f, fd, q_def F sc_law 17 rfl len_law (fun cdv A outer s H E hr => ?_) pure_law, hm, F.kp, hb, fdat F⟩
  have hu := hr.units
  have hu2 := units65 hr
  exact (qs_cons (qs_set 1 nd (q_callC C__law_draws (hr.mono (by decide)) (qa_cons (q_callC C__law_cell (hr.mono (by decide)) (qa_cons (q_var 0) (qa_cons q_int qa_nil))) (qa_cons q_int qa_nil))))
    (qs_cons (qs_own 2 nd (qf_lst qa_nil))
    (qs_cons (qs_for [0, 3, 4, 5, 6, 7, 8, 9, 10, 11, 12, 13, 14, 15, 16] PassesOwn.never rfl (qi_rng2 T.range q_int q_int) (qg_name 3 nd) (qss_end [0, 3, 4, 5, 6, 7, 8, 9, 10, 11, 12, 13, 14, 15, 16] (qs_cons (qs_set 4 nd (q_op k_sub (q_callC C__law_twos (hr.mono (by decide)) (qa_cons (q_var 3) qa_nil)) q_int))
    (qs_cut [0, 4, 6, 7, 8, 9, 10, 11, 12, 13, 14, 15, 16] (qs_set 5 nd (q_if (q_tru (q_callC C__law_alone (hr.mono (by decide)) (qa_cons (q_var 4) qa_nil))) (q_op k_mul (q_callC C__law_twos (hr.mono (by decide)) (qa_cons (q_op k_sub (q_var 3) q_int) qa_nil)) (q_var 4)) q_non))
    (qs_cons (qs_if (q_notT (q_tru (q_callC C__law_is (hr.mono (by decide)) (qa_cons (q_callC C_perfect_at (hr.mono (by decide)) (qa_cons (q_var 3) qa_nil)) (qa_cons (q_var 5) qa_nil))))) (qs_one (qs_ret q_bl)) qs_nil)
    (qs_one (qs_if (q_wt (q_and (q_notNT (q_var 5)) (q_and1 (q_cmpT k_le (q_var 5) q_int (nomark _))))) (qs_cons (qs_app 2 (q_var 5))
    (qs_one (qs_if (q_wt (q_or (q_notT (q_tru (q_callC C__law_is (hr.mono (by decide)) (qa_cons (q_callC C_is_perfect (hr.mono (by decide)) (qa_cons (q_var 5) qa_nil)) (qa_cons q_bl qa_nil))))) (q_or1 (q_cmpT (k_ne hu) (q_callC C__law_rest (hr.mono (by decide)) (qa_cons (q_var 5) qa_nil)) (q_var 5) (nomark _))))) (qs_one (qs_ret q_bl)) qs_nil))) qs_nil)))))))
    (qs_cons (qs_set 6 nd (q_ix k_ix (q_tup (qa_cons q_int (qa_cons q_int (qa_cons q_int (qa_cons q_int (qa_cons q_int (qa_cons q_int (qa_cons q_int (qa_cons q_int qa_nil))))))))) (q_op k_mod (q_callTy b_int (by rfl) T.int (by decide +kernel) (qa_cons (q_ix k_ix (q_var 1) q_int (fun _ _ => rfl)) qa_nil)) q_int) (fun _ _ => rfl)))
    (qs_cons (qs_set 7 nd (q_fr (qf_lst (qa_cons q_int (qa_cons (q_op k_add q_int (q_op k_mod (q_callTy b_int (by rfl) T.int (by decide +kernel) (qa_cons (q_ix k_ix (q_var 1) q_int (fun _ _ => rfl)) qa_nil)) q_int)) (qa_cons (q_op k_sub (q_var 6) q_int) (qa_cons (q_var 6) (qa_cons (q_op k_add (q_var 6) q_int) (qa_cons (q_op k_sub q_int (q_op k_mod (q_callTy b_int (by rfl) T.int (by decide +kernel) (qa_cons (q_ix k_ix (q_var 1) q_int (fun _ _ => rfl)) qa_nil)) q_int)) qa_nil)))))))))
    (qs_cons (qs_frz 2 (qs_for [0, 3, 4, 5, 6, 7, 8, 9, 10, 11, 12, 13, 14, 15, 16] PassesOwn.never rfl (qi_seq (q_op k_add (q_var 7) (q_fr (qf_lst (qa_cons (q_op k_add q_int (q_op k_mul q_int (q_op k_mod (q_callTy b_int (by rfl) T.int (by decide +kernel) (qa_cons (q_ix k_ix (q_var 1) q_int (fun _ _ => rfl)) qa_nil)) q_int))) qa_nil))))) (qg_name 8 nd) (qss_end [0, 3, 4, 5, 6, 7, 8, 9, 10, 11, 12, 13, 14, 15, 16] (qs_cons (qs_set 9 nd (q_callC C__law_rest (hr.mono (by decide)) (qa_cons (q_var 8) qa_nil)))
    (qs_cons (qs_if (q_wt (q_or (q_notT (q_tru (q_callC C__law_is (hr.mono (by decide)) (qa_cons (q_callC C_rest_sum (hr.mono (by decide)) (qa_cons (q_var 8) qa_nil)) (qa_cons (q_var 9) qa_nil))))) (q_or1 (q_notT (q_tru (q_callC C__law_is (hr.mono (by decide)) (qa_cons (q_callC C_is_perfect (hr.mono (by decide)) (qa_cons (q_var 8) qa_nil)) (qa_cons (q_cmp (k_eq hu) (q_var 9) (q_var 8) (nomark _)) qa_nil)))))))) (qs_one (qs_ret q_bl)) qs_nil)
    (qs_one (qs_if (q_wt (q_and (q_cmpT (k_eq hu) (q_op k_mod (q_var 8) q_int) q_int (nomark _)) (q_and1 (q_cmpT (k_ne hu) (q_cmp (k_eq hu) (q_var 9) (q_var 8) (nomark _)) (q_cmp (k_in hu hu2) (q_var 8) (q_var 2) (by with_unfolding_all rfl)) (nomark _))))) (qs_one (qs_ret q_bl)) qs_nil)))))))
    (qs_cons (qs_set 10 nd (q_op k_add q_int (q_op k_mod (q_callTy b_int (by rfl) T.int (by decide +kernel) (qa_cons (q_ix k_ix (q_var 1) q_int (fun _ _ => rfl)) qa_nil)) q_int)))
    (qs_cons (qs_set 11 nd (q_fr (qf_lst (qa_cons (q_tup (qa_cons q_int (qa_cons q_int qa_nil))) (qa_cons (q_tup (qa_cons q_int (qa_cons q_int qa_nil))) (qa_cons (q_tup (qa_cons q_int (qa_cons q_int qa_nil))) (qa_cons (q_tup (qa_cons q_int (qa_cons q_int qa_nil))) (qa_cons (q_tup (qa_cons (q_var 10) (qa_cons (q_callB (b_max2 rfl) (by rfl) T.max (by decide +kernel) (qa_cons q_int (qa_cons (q_callC C__law_rest (hr.mono (by decide)) (qa_cons (q_var 10) qa_nil)) qa_nil))) qa_nil))) (qa_cons (q_tup (qa_cons q_int (qa_cons q_int qa_nil))) (qa_cons (q_tup (qa_cons (q_var 10) (qa_cons (q_op k_add (q_var 10) q_int) qa_nil))) qa_nil))))))))))
    (qs_cons (qs_set 11 nd (q_op k_add (q_var 11) (q_fr (qf_lst (qa_cons (q_tup (qa_cons (q_callB (b_max2 rfl) (by rfl) T.max (by decide +kernel) (qa_cons q_int (qa_cons (q_callC C__law_rest (hr.mono (by decide)) (qa_cons (q_var 10) qa_nil)) qa_nil))) (qa_cons (q_var 10) qa_nil))) (qa_cons (q_tup (qa_cons (q_op k_add q_int (q_op k_mod (q_callTy b_int (by rfl) T.int (by decide +kernel) (qa_cons (q_ix k_ix (q_var 1) q_int (fun _ _ => rfl)) qa_nil)) q_int)) (qa_cons q_int qa_nil))) (qa_cons (q_tup (qa_cons q_int (qa_cons (q_op k_sub q_int (q_op k_mod (q_callTy b_int (by rfl) T.int (by decide +kernel) (qa_cons (q_ix k_ix (q_var 1) q_int (fun _ _ => rfl)) qa_nil)) q_int)) qa_nil))) qa_nil)))))))
    (qs_cons (qs_for [0, 2, 3, 4, 5, 6, 7, 8, 9, 10, 11, 12, 13, 14, 15, 16] PassesOwn.never rfl (qi_seq (q_var 11)) (qg_tup rfl (qgs_cons (qg_name 12 nd) (qgs_cons (qg_name 13 nd) qgs_nil))) (qss_end [0, 2, 3, 4, 5, 6, 7, 8, 9, 10, 11, 12, 13, 14, 15, 16] (qs_cut [0, 2, 3, 4, 6, 7, 8, 9, 10, 11, 14, 15, 16] (qs_set 5 nd (q_andV (q_cmp (k_ne hu) (q_var 12) (q_var 13) (nomark _)) (q_andV (q_cmp (k_eq hu) (q_callC C__law_rest (hr.mono (by decide)) (qa_cons (q_var 12) qa_nil)) (q_var 13) (nomark _)) (q_one (q_cmp (k_eq hu) (q_callC C__law_rest (hr.mono (by decide)) (qa_cons (q_var 13) qa_nil)) (q_var 12) (nomark _))))))
    (qs_one (qs_if (q_notT (q_tru (q_callC C__law_is (hr.mono (by decide)) (qa_cons (q_callC C_are_friends (hr.mono (by decide)) (qa_cons (q_var 12) (qa_cons (q_var 13) qa_nil))) (qa_cons (q_var 5) qa_nil))))) (qs_one (qs_ret q_bl)) qs_nil)))))
    (qs_cons (qs_for [0, 2, 3, 4, 5, 6, 7, 8, 9, 10, 11, 12, 13, 14, 15, 16] PassesOwn.never rfl (qi_rng1 T.range q_int) (qg_name 14 nd) (qss_end [0, 2, 3, 4, 5, 6, 7, 8, 9, 10, 11, 12, 13, 14, 15, 16] (qs_cons (qs_set 8 nd (q_op k_add q_int (q_op k_mod (q_callTy b_int (by rfl) T.int (by decide +kernel) (qa_cons (q_ix k_ix (q_var 1) (q_op k_add q_int (q_var 14)) (fun _ _ => rfl)) qa_nil)) q_int)))
    (qs_cons (qs_set 15 nd (q_op k_add q_int (q_op k_mod (q_callTy b_int (by rfl) T.int (by decide +kernel) (qa_cons (q_ix k_ix (q_var 1) (q_op k_add q_int (q_var 14)) (fun _ _ => rfl)) qa_nil)) q_int)))
    (qs_one (qs_if (q_notT (q_tru (q_callC C__law_is (hr.mono (by decide)) (qa_cons (q_callC C_chain_from (hr.mono (by decide)) (qa_cons (q_var 8) (qa_cons (q_var 15) qa_nil))) (qa_cons (q_callC C__law_chain (hr.mono (by decide)) (qa_cons (q_var 8) (qa_cons (q_var 15) qa_nil))) qa_nil))))) (qs_one (qs_ret q_bl)) qs_nil))))))
    (qs_cons (qs_set 16 nd (q_ix k_ix (q_tup (qa_cons q_int (qa_cons q_int (qa_cons q_int (qa_cons q_int (qa_cons q_int (qa_cons q_int qa_nil))))))) (q_op k_mod (q_callTy b_int (by rfl) T.int (by decide +kernel) (qa_cons (q_ix k_ix (q_var 1) q_int (fun _ _ => rfl)) qa_nil)) q_int) (fun _ _ => rfl)))
    (qs_one (qs_ret (q_andV (q_callC C__law_is (hr.mono (by decide)) (qa_cons (q_callC C_chain_from (hr.mono (by decide)) (qa_cons (q_var 16) (qa_cons q_int qa_nil))) (qa_cons (q_callC C__law_chain (hr.mono (by decide)) (qa_cons (q_var 16) (qa_cons q_int qa_nil))) qa_nil))) (q_one (q_callC C__law_is (hr.mono (by decide)) (qa_cons (q_callC C_chain_from (hr.mono (by decide)) (qa_cons (q_var 16) (qa_cons q_int qa_nil))) (qa_cons (q_tup (qa_cons (q_var 16) qa_nil)) qa_nil)))))))))))))))))))

theorem all_mk {l : PySem.W.OpenLaw} {w : World} {K : PySem.W.Frag} {h : Heap} {mg : Str → Option Value} {fa f_divisors_of f_power_of f_rest_sum f_has_two_divisors f_is_perfect f_perfect_at f_are_friends f_chain_from f__law_cell f__law_draws f__law_is_integer f__law_is f__law_rest f__law_alone f__law_twos f__law_chain f_law : Addr} (X : K.In h) (G : h.Ns mainGlobals mg) (hfa : mg "law" = some (.ref fa))
    {od_divisors_of an_divisors_of od_power_of an_power_of od_rest_sum an_rest_sum od_has_two_divisors an_has_two_divisors od_is_perfect an_is_perfect od_perfect_at an_perfect_at od_are_friends an_are_friends od_chain_from an_chain_from od__law_cell an__law_cell od__law_draws an__law_draws od__law_is_integer an__law_is_integer od__law_is an__law_is od__law_rest an__law_rest od__law_alone an__law_alone od__law_twos an__law_twos od__law_chain an__law_chain od_law an_law : Option Addr} {sl_divisors_of sl_power_of sl_rest_sum sl_has_two_divisors sl_is_perfect sl_perfect_at sl_are_friends sl_chain_from sl__law_cell sl__law_draws sl__law_is_integer sl__law_is sl__law_rest sl__law_alone sl__law_twos sl__law_chain sl_law : Array (Option Value)} {oc_divisors_of kV_divisors_of dc_divisors_of pm_divisors_of cd_divisors_of ct_divisors_of oc_power_of kV_power_of dc_power_of pm_power_of cd_power_of ct_power_of oc_rest_sum kV_rest_sum dc_rest_sum pm_rest_sum cd_rest_sum ct_rest_sum oc_has_two_divisors kV_has_two_divisors dc_has_two_divisors pm_has_two_divisors cd_has_two_divisors ct_has_two_divisors oc_is_perfect kV_is_perfect dc_is_perfect pm_is_perfect cd_is_perfect ct_is_perfect oc_perfect_at kV_perfect_at dc_perfect_at pm_perfect_at cd_perfect_at ct_perfect_at oc_are_friends kV_are_friends dc_are_friends pm_are_friends cd_are_friends ct_are_friends oc_chain_from kV_chain_from dc_chain_from pm_chain_from cd_chain_from ct_chain_from oc__law_cell kV__law_cell dc__law_cell pm__law_cell cd__law_cell ct__law_cell oc__law_draws kV__law_draws dc__law_draws pm__law_draws cd__law_draws ct__law_draws oc__law_is_integer kV__law_is_integer dc__law_is_integer pm__law_is_integer cd__law_is_integer ct__law_is_integer oc__law_is kV__law_is dc__law_is pm__law_is cd__law_is ct__law_is oc__law_rest kV__law_rest dc__law_rest pm__law_rest cd__law_rest ct__law_rest oc__law_alone kV__law_alone dc__law_alone pm__law_alone cd__law_alone ct__law_alone oc__law_twos kV__law_twos dc__law_twos pm__law_twos cd__law_twos ct__law_twos oc__law_chain kV__law_chain dc__law_chain pm__law_chain cd__law_chain ct__law_chain oc_law kV_law dc_law pm_law cd_law ct_law : Value}
    (a_divisors_of : PySem.W.nsIn K mainGlobals "divisors_of" = some (some (.ref f_divisors_of))) (l_divisors_of : K.lookup f_divisors_of = some ⟨oc_divisors_of, od_divisors_of, .func (PySem.W.fnOf "divisors_of" "divisors_of" (defArgs s_divisors_of) (defBody s_divisors_of) (defScope s_divisors_of) .none kV_divisors_of dc_divisors_of pm_divisors_of an_divisors_of cd_divisors_of ct_divisors_of), sl_divisors_of⟩) (c_divisors_of : PySem.W.codeIn K cd_divisors_of "divisors_of" = true) (k_divisors_of : PySem.W.keepIn K (.ref f_divisors_of) = true)
    (a_power_of : PySem.W.nsIn K mainGlobals "power_of" = some (some (.ref f_power_of))) (l_power_of : K.lookup f_power_of = some ⟨oc_power_of, od_power_of, .func (PySem.W.fnOf "power_of" "power_of" (defArgs s_power_of) (defBody s_power_of) (defScope s_power_of) .none kV_power_of dc_power_of pm_power_of an_power_of cd_power_of ct_power_of), sl_power_of⟩) (c_power_of : PySem.W.codeIn K cd_power_of "power_of" = true) (k_power_of : PySem.W.keepIn K (.ref f_power_of) = true)
    (a_rest_sum : PySem.W.nsIn K mainGlobals "rest_sum" = some (some (.ref f_rest_sum))) (l_rest_sum : K.lookup f_rest_sum = some ⟨oc_rest_sum, od_rest_sum, .func (PySem.W.fnOf "rest_sum" "rest_sum" (defArgs s_rest_sum) (defBody s_rest_sum) (defScope s_rest_sum) .none kV_rest_sum dc_rest_sum pm_rest_sum an_rest_sum cd_rest_sum ct_rest_sum), sl_rest_sum⟩) (c_rest_sum : PySem.W.codeIn K cd_rest_sum "rest_sum" = true) (k_rest_sum : PySem.W.keepIn K (.ref f_rest_sum) = true)
    (a_has_two_divisors : PySem.W.nsIn K mainGlobals "has_two_divisors" = some (some (.ref f_has_two_divisors))) (l_has_two_divisors : K.lookup f_has_two_divisors = some ⟨oc_has_two_divisors, od_has_two_divisors, .func (PySem.W.fnOf "has_two_divisors" "has_two_divisors" (defArgs s_has_two_divisors) (defBody s_has_two_divisors) (defScope s_has_two_divisors) .none kV_has_two_divisors dc_has_two_divisors pm_has_two_divisors an_has_two_divisors cd_has_two_divisors ct_has_two_divisors), sl_has_two_divisors⟩) (c_has_two_divisors : PySem.W.codeIn K cd_has_two_divisors "has_two_divisors" = true) (k_has_two_divisors : PySem.W.keepIn K (.ref f_has_two_divisors) = true)
    (a_is_perfect : PySem.W.nsIn K mainGlobals "is_perfect" = some (some (.ref f_is_perfect))) (l_is_perfect : K.lookup f_is_perfect = some ⟨oc_is_perfect, od_is_perfect, .func (PySem.W.fnOf "is_perfect" "is_perfect" (defArgs s_is_perfect) (defBody s_is_perfect) (defScope s_is_perfect) .none kV_is_perfect dc_is_perfect pm_is_perfect an_is_perfect cd_is_perfect ct_is_perfect), sl_is_perfect⟩) (c_is_perfect : PySem.W.codeIn K cd_is_perfect "is_perfect" = true) (k_is_perfect : PySem.W.keepIn K (.ref f_is_perfect) = true)
    (a_perfect_at : PySem.W.nsIn K mainGlobals "perfect_at" = some (some (.ref f_perfect_at))) (l_perfect_at : K.lookup f_perfect_at = some ⟨oc_perfect_at, od_perfect_at, .func (PySem.W.fnOf "perfect_at" "perfect_at" (defArgs s_perfect_at) (defBody s_perfect_at) (defScope s_perfect_at) .none kV_perfect_at dc_perfect_at pm_perfect_at an_perfect_at cd_perfect_at ct_perfect_at), sl_perfect_at⟩) (c_perfect_at : PySem.W.codeIn K cd_perfect_at "perfect_at" = true) (k_perfect_at : PySem.W.keepIn K (.ref f_perfect_at) = true)
    (a_are_friends : PySem.W.nsIn K mainGlobals "are_friends" = some (some (.ref f_are_friends))) (l_are_friends : K.lookup f_are_friends = some ⟨oc_are_friends, od_are_friends, .func (PySem.W.fnOf "are_friends" "are_friends" (defArgs s_are_friends) (defBody s_are_friends) (defScope s_are_friends) .none kV_are_friends dc_are_friends pm_are_friends an_are_friends cd_are_friends ct_are_friends), sl_are_friends⟩) (c_are_friends : PySem.W.codeIn K cd_are_friends "are_friends" = true) (k_are_friends : PySem.W.keepIn K (.ref f_are_friends) = true)
    (a_chain_from : PySem.W.nsIn K mainGlobals "chain_from" = some (some (.ref f_chain_from))) (l_chain_from : K.lookup f_chain_from = some ⟨oc_chain_from, od_chain_from, .func (PySem.W.fnOf "chain_from" "chain_from" (defArgs s_chain_from) (defBody s_chain_from) (defScope s_chain_from) .none kV_chain_from dc_chain_from pm_chain_from an_chain_from cd_chain_from ct_chain_from), sl_chain_from⟩) (c_chain_from : PySem.W.codeIn K cd_chain_from "chain_from" = true) (k_chain_from : PySem.W.keepIn K (.ref f_chain_from) = true)
    (a__law_cell : PySem.W.nsIn K mainGlobals "_law_cell" = some (some (.ref f__law_cell))) (l__law_cell : K.lookup f__law_cell = some ⟨oc__law_cell, od__law_cell, .func (PySem.W.fnOf "_law_cell" "_law_cell" (defArgs s__law_cell) (defBody s__law_cell) (defScope s__law_cell) .none kV__law_cell dc__law_cell pm__law_cell an__law_cell cd__law_cell ct__law_cell), sl__law_cell⟩) (c__law_cell : PySem.W.codeIn K cd__law_cell "_law_cell" = true) (k__law_cell : PySem.W.keepIn K (.ref f__law_cell) = true)
    (a__law_draws : PySem.W.nsIn K mainGlobals "_law_draws" = some (some (.ref f__law_draws))) (l__law_draws : K.lookup f__law_draws = some ⟨oc__law_draws, od__law_draws, .func (PySem.W.fnOf "_law_draws" "_law_draws" (defArgs s__law_draws) (defBody s__law_draws) (defScope s__law_draws) .none kV__law_draws dc__law_draws pm__law_draws an__law_draws cd__law_draws ct__law_draws), sl__law_draws⟩) (c__law_draws : PySem.W.codeIn K cd__law_draws "_law_draws" = true) (k__law_draws : PySem.W.keepIn K (.ref f__law_draws) = true)
    (a__law_is_integer : PySem.W.nsIn K mainGlobals "_law_is_integer" = some (some (.ref f__law_is_integer))) (l__law_is_integer : K.lookup f__law_is_integer = some ⟨oc__law_is_integer, od__law_is_integer, .func (PySem.W.fnOf "_law_is_integer" "_law_is_integer" (defArgs s__law_is_integer) (defBody s__law_is_integer) (defScope s__law_is_integer) .none kV__law_is_integer dc__law_is_integer pm__law_is_integer an__law_is_integer cd__law_is_integer ct__law_is_integer), sl__law_is_integer⟩) (c__law_is_integer : PySem.W.codeIn K cd__law_is_integer "_law_is_integer" = true) (k__law_is_integer : PySem.W.keepIn K (.ref f__law_is_integer) = true)
    (a__law_is : PySem.W.nsIn K mainGlobals "_law_is" = some (some (.ref f__law_is))) (l__law_is : K.lookup f__law_is = some ⟨oc__law_is, od__law_is, .func (PySem.W.fnOf "_law_is" "_law_is" (defArgs s__law_is) (defBody s__law_is) (defScope s__law_is) .none kV__law_is dc__law_is pm__law_is an__law_is cd__law_is ct__law_is), sl__law_is⟩) (c__law_is : PySem.W.codeIn K cd__law_is "_law_is" = true) (k__law_is : PySem.W.keepIn K (.ref f__law_is) = true)
    (a__law_rest : PySem.W.nsIn K mainGlobals "_law_rest" = some (some (.ref f__law_rest))) (l__law_rest : K.lookup f__law_rest = some ⟨oc__law_rest, od__law_rest, .func (PySem.W.fnOf "_law_rest" "_law_rest" (defArgs s__law_rest) (defBody s__law_rest) (defScope s__law_rest) .none kV__law_rest dc__law_rest pm__law_rest an__law_rest cd__law_rest ct__law_rest), sl__law_rest⟩) (c__law_rest : PySem.W.codeIn K cd__law_rest "_law_rest" = true) (k__law_rest : PySem.W.keepIn K (.ref f__law_rest) = true)
    (a__law_alone : PySem.W.nsIn K mainGlobals "_law_alone" = some (some (.ref f__law_alone))) (l__law_alone : K.lookup f__law_alone = some ⟨oc__law_alone, od__law_alone, .func (PySem.W.fnOf "_law_alone" "_law_alone" (defArgs s__law_alone) (defBody s__law_alone) (defScope s__law_alone) .none kV__law_alone dc__law_alone pm__law_alone an__law_alone cd__law_alone ct__law_alone), sl__law_alone⟩) (c__law_alone : PySem.W.codeIn K cd__law_alone "_law_alone" = true) (k__law_alone : PySem.W.keepIn K (.ref f__law_alone) = true)
    (a__law_twos : PySem.W.nsIn K mainGlobals "_law_twos" = some (some (.ref f__law_twos))) (l__law_twos : K.lookup f__law_twos = some ⟨oc__law_twos, od__law_twos, .func (PySem.W.fnOf "_law_twos" "_law_twos" (defArgs s__law_twos) (defBody s__law_twos) (defScope s__law_twos) .none kV__law_twos dc__law_twos pm__law_twos an__law_twos cd__law_twos ct__law_twos), sl__law_twos⟩) (c__law_twos : PySem.W.codeIn K cd__law_twos "_law_twos" = true) (k__law_twos : PySem.W.keepIn K (.ref f__law_twos) = true)
    (a__law_chain : PySem.W.nsIn K mainGlobals "_law_chain" = some (some (.ref f__law_chain))) (l__law_chain : K.lookup f__law_chain = some ⟨oc__law_chain, od__law_chain, .func (PySem.W.fnOf "_law_chain" "_law_chain" (defArgs s__law_chain) (defBody s__law_chain) (defScope s__law_chain) .none kV__law_chain dc__law_chain pm__law_chain an__law_chain cd__law_chain ct__law_chain), sl__law_chain⟩) (c__law_chain : PySem.W.codeIn K cd__law_chain "_law_chain" = true) (k__law_chain : PySem.W.keepIn K (.ref f__law_chain) = true)
    (a_law : PySem.W.nsIn K mainGlobals "law" = some (some (.ref f_law))) (l_law : K.lookup f_law = some ⟨oc_law, od_law, .func (PySem.W.fnOf "law" "law" (defArgs s_law) (defBody s_law) (defScope s_law) .none kV_law dc_law pm_law an_law cd_law ct_law), sl_law⟩) (c_law : PySem.W.codeIn K cd_law "law" = true) (k_law : PySem.W.keepIn K (.ref f_law) = true)
    (z_abs : PySem.W.nsIn K mainGlobals "abs" = some none)
    (z_all : PySem.W.nsIn K mainGlobals "all" = some none)
    (z_any : PySem.W.nsIn K mainGlobals "any" = some none)
    (z_enumerate : PySem.W.nsIn K mainGlobals "enumerate" = some none)
    (z_int : PySem.W.nsIn K mainGlobals "int" = some none)
    (z_isinstance : PySem.W.nsIn K mainGlobals "isinstance" = some none)
    (z_len : PySem.W.nsIn K mainGlobals "len" = some none)
    (z_list : PySem.W.nsIn K mainGlobals "list" = some none)
    (z_max : PySem.W.nsIn K mainGlobals "max" = some none)
    (z_min : PySem.W.nsIn K mainGlobals "min" = some none)
    (z_range : PySem.W.nsIn K mainGlobals "range" = some none)
    (z_reversed : PySem.W.nsIn K mainGlobals "reversed" = some none)
    (z_set : PySem.W.nsIn K mainGlobals "set" = some none)
    (z_sorted : PySem.W.nsIn K mainGlobals "sorted" = some none)
    (z_str : PySem.W.nsIn K mainGlobals "str" = some none)
    (z_sum : PySem.W.nsIn K mainGlobals "sum" = some none)
    (z_tuple : PySem.W.nsIn K mainGlobals "tuple" = some none)
    (z_type : PySem.W.nsIn K mainGlobals "type" = some none)
    (z_zip : PySem.W.nsIn K mainGlobals "zip" = some none)
    (z_bool : PySem.W.nsIn K mainGlobals "bool" = some none)
    (z_dict : PySem.W.nsIn K mainGlobals "dict" = some none)
    : ∃ fd : FuncData, (∀ (s : Shared) (v : Value), BindsTo s fd ⟨[v], []⟩ [("script", v)]) ∧ ∀ base : Heap, K.In base → base.Ns mainGlobals mg → FnOk l.prog w K mg base CX0 15 fa fd ["script"] (lsp K p_law) := by
  have e := hfa.symm.trans (PySem.W.mg_of X G a_law)
  cases e
  have T : Bi mg := ⟨PySem.W.mg_none_of X G z_abs, PySem.W.mg_none_of X G z_all, PySem.W.mg_none_of X G z_any, PySem.W.mg_none_of X G z_enumerate, PySem.W.mg_none_of X G z_int, PySem.W.mg_none_of X G z_isinstance, PySem.W.mg_none_of X G z_len, PySem.W.mg_none_of X G z_list, PySem.W.mg_none_of X G z_max, PySem.W.mg_none_of X G z_min, PySem.W.mg_none_of X G z_range, PySem.W.mg_none_of X G z_reversed, PySem.W.mg_none_of X G z_set, PySem.W.mg_none_of X G z_sorted, PySem.W.mg_none_of X G z_str, PySem.W.mg_none_of X G z_sum, PySem.W.mg_none_of X G z_tuple, PySem.W.mg_none_of X G z_type, PySem.W.mg_none_of X G z_zip, PySem.W.mg_none_of X G z_bool, PySem.W.mg_none_of X G z_dict⟩
  have F_divisors_of := fun_mk (st := s_divisors_of) l_divisors_of c_divisors_of k_divisors_of
  have B_divisors_of := F_divisors_of.binds (ps := ["n"]) fun _ _ _ _ _ _ us hl => match us, hl with | [_], _ => rfl
  have F_power_of := fun_mk (st := s_power_of) l_power_of c_power_of k_power_of
  have B_power_of := F_power_of.binds (ps := ["number", "k"]) fun _ _ _ _ _ _ us hl => match us, hl with | [_, _], _ => rfl
  have F_rest_sum := fun_mk (st := s_rest_sum) l_rest_sum c_rest_sum k_rest_sum
  have B_rest_sum := F_rest_sum.binds (ps := ["n"]) fun _ _ _ _ _ _ us hl => match us, hl with | [_], _ => rfl
  have F_has_two_divisors := fun_mk (st := s_has_two_divisors) l_has_two_divisors c_has_two_divisors k_has_two_divisors
  have B_has_two_divisors := F_has_two_divisors.binds (ps := ["n"]) fun _ _ _ _ _ _ us hl => match us, hl with | [_], _ => rfl
  have F_is_perfect := fun_mk (st := s_is_perfect) l_is_perfect c_is_perfect k_is_perfect
  have B_is_perfect := F_is_perfect.binds (ps := ["n"]) fun _ _ _ _ _ _ us hl => match us, hl with | [_], _ => rfl
  have F_perfect_at := fun_mk (st := s_perfect_at) l_perfect_at c_perfect_at k_perfect_at
  have B_perfect_at := F_perfect_at.binds (ps := ["k"]) fun _ _ _ _ _ _ us hl => match us, hl with | [_], _ => rfl
  have F_are_friends := fun_mk (st := s_are_friends) l_are_friends c_are_friends k_are_friends
  have B_are_friends := F_are_friends.binds (ps := ["first", "second"]) fun _ _ _ _ _ _ us hl => match us, hl with | [_, _], _ => rfl
  have F_chain_from := fun_mk (st := s_chain_from) l_chain_from c_chain_from k_chain_from
  have B_chain_from := F_chain_from.binds (ps := ["n", "size"]) fun _ _ _ _ _ _ us hl => match us, hl with | [_, _], _ => rfl
  have F__law_cell := fun_mk (st := s__law_cell) l__law_cell c__law_cell k__law_cell
  have B__law_cell := F__law_cell.binds (ps := ["script", "k"]) fun _ _ _ _ _ _ us hl => match us, hl with | [_, _], _ => rfl
  have F__law_draws := fun_mk (st := s__law_draws) l__law_draws c__law_draws k__law_draws
  have B__law_draws := F__law_draws.binds (ps := ["cell", "count"]) fun _ _ _ _ _ _ us hl => match us, hl with | [_, _], _ => rfl
  have F__law_is_integer := fun_mk (st := s__law_is_integer) l__law_is_integer c__law_is_integer k__law_is_integer
  have B__law_is_integer := F__law_is_integer.binds (ps := ["value"]) fun _ _ _ _ _ _ us hl => match us, hl with | [_], _ => rfl
  have F__law_is := fun_mk (st := s__law_is) l__law_is c__law_is k__law_is
  have B__law_is := F__law_is.binds (ps := ["value", "due"]) fun _ _ _ _ _ _ us hl => match us, hl with | [_, _], _ => rfl
  have F__law_rest := fun_mk (st := s__law_rest) l__law_rest c__law_rest k__law_rest
  have B__law_rest := F__law_rest.binds (ps := ["number"]) fun _ _ _ _ _ _ us hl => match us, hl with | [_], _ => rfl
  have F__law_alone := fun_mk (st := s__law_alone) l__law_alone c__law_alone k__law_alone
  have B__law_alone := F__law_alone.binds (ps := ["number"]) fun _ _ _ _ _ _ us hl => match us, hl with | [_], _ => rfl
  have F__law_twos := fun_mk (st := s__law_twos) l__law_twos c__law_twos k__law_twos
  have B__law_twos := F__law_twos.binds (ps := ["k"]) fun _ _ _ _ _ _ us hl => match us, hl with | [_], _ => rfl
  have F__law_chain := fun_mk (st := s__law_chain) l__law_chain c__law_chain k__law_chain
  have B__law_chain := F__law_chain.binds (ps := ["number", "size"]) fun _ _ _ _ _ _ us hl => match us, hl with | [_, _], _ => rfl
  have F_law := fun_mk (st := s_law) l_law c_law k_law
  refine ⟨PySem.W.fnOf "law" "law" (defArgs s_law) (defBody s_law) (defScope s_law) .none kV_law dc_law pm_law an_law cd_law ct_law, fun s v => .of_eq rfl, fun base _ _ => ?_⟩
  have C_divisors_of := ok_divisors_of (P := l.prog) (w := w) (base := base) T F_divisors_of (PySem.W.mg_of X G a_divisors_of) B_divisors_of 
  have C_power_of := ok_power_of (P := l.prog) (w := w) (base := base) T F_power_of (PySem.W.mg_of X G a_power_of) B_power_of 
  have C_rest_sum := ok_rest_sum (P := l.prog) (w := w) (base := base) T F_rest_sum (PySem.W.mg_of X G a_rest_sum) B_rest_sum C_divisors_of
  have C_has_two_divisors := ok_has_two_divisors (P := l.prog) (w := w) (base := base) T F_has_two_divisors (PySem.W.mg_of X G a_has_two_divisors) B_has_two_divisors C_divisors_of
  have C_is_perfect := ok_is_perfect (P := l.prog) (w := w) (base := base) T F_is_perfect (PySem.W.mg_of X G a_is_perfect) B_is_perfect C_rest_sum
  have C_perfect_at := ok_perfect_at (P := l.prog) (w := w) (base := base) T F_perfect_at (PySem.W.mg_of X G a_perfect_at) B_perfect_at C_power_of C_has_two_divisors
  have C_are_friends := ok_are_friends (P := l.prog) (w := w) (base := base) T F_are_friends (PySem.W.mg_of X G a_are_friends) B_are_friends C_rest_sum
  have C_chain_from := ok_chain_from (P := l.prog) (w := w) (base := base) T F_chain_from (PySem.W.mg_of X G a_chain_from) B_chain_from C_rest_sum
  have C__law_cell := ok__law_cell (P := l.prog) (w := w) (base := base) T F__law_cell (PySem.W.mg_of X G a__law_cell) B__law_cell 
  have C__law_draws := ok__law_draws (P := l.prog) (w := w) (base := base) T F__law_draws (PySem.W.mg_of X G a__law_draws) B__law_draws 
  have C__law_is_integer := ok__law_is_integer (P := l.prog) (w := w) (base := base) T F__law_is_integer (PySem.W.mg_of X G a__law_is_integer) B__law_is_integer 
  have C__law_is := ok__law_is (P := l.prog) (w := w) (base := base) T F__law_is (PySem.W.mg_of X G a__law_is) B__law_is C__law_is_integer
  have C__law_rest := ok__law_rest (P := l.prog) (w := w) (base := base) T F__law_rest (PySem.W.mg_of X G a__law_rest) B__law_rest 
  have C__law_alone := ok__law_alone (P := l.prog) (w := w) (base := base) T F__law_alone (PySem.W.mg_of X G a__law_alone) B__law_alone 
  have C__law_twos := ok__law_twos (P := l.prog) (w := w) (base := base) T F__law_twos (PySem.W.mg_of X G a__law_twos) B__law_twos 
  have C__law_chain := ok__law_chain (P := l.prog) (w := w) (base := base) T F__law_chain (PySem.W.mg_of X G a__law_chain) B__law_chain C__law_rest
  have C_law := ok_law (P := l.prog) (w := w) (base := base) T F_law (PySem.W.mg_of X G a_law) (F_law.binds (ps := ["script"]) fun _ _ _ _ _ _ us hl => match us, hl with | [_], _ => rfl) C__law_draws C__law_cell C__law_rest C__law_is C__law_twos C__law_alone C_chain_from C__law_chain C_perfect_at C_are_friends C_rest_sum C_is_perfect
  exact cal_fn C_law (PySem.W.mg_of X G a_law) F_law
end
end G
open PySem PySem.W PyProof.Rows
set_option maxRecDepth 100000 in
set_option maxHeartbeats 0 in
theorem PySem.Challenge.cw_reckonhall_k31_whole_perfects_friends_an_holds : PySem.Challenge.rw_reckonhall_k31_whole_perfects_friends_an.Holds := by
  w_on; o_law; k_head; (case hw => w_witness2)
  k_fill
  refine L2.walk_of (l := PySem.Challenge.rw_reckonhall_k31_whole_perfects_friends_an) (n := 63) (k := 15) (x := "script") (CX := fun _ => L2.CX0) (sp := fun w => PL.lsp _ PL.pLaw) rfl (by decide) rfl ⟨rfl, by decide, by decide⟩ (fun w h Y => PySem.W.kIn_of Y) ?F (fun _ _ a ns hl _ hS => PL.law_start hl rfl hS) (fun _ _ _ _ _ h => h)
  case F =>
    intro w mg fa h KX G hmg
    refine' _root_.G.all_mk KX G hmg ?a_divisors_of ?l_divisors_of ?c_divisors_of ?k_divisors_of ?a_power_of ?l_power_of ?c_power_of ?k_power_of ?a_rest_sum ?l_rest_sum ?c_rest_sum ?k_rest_sum ?a_has_two_divisors ?l_has_two_divisors ?c_has_two_divisors ?k_has_two_divisors ?a_is_perfect ?l_is_perfect ?c_is_perfect ?k_is_perfect ?a_perfect_at ?l_perfect_at ?c_perfect_at ?k_perfect_at ?a_are_friends ?l_are_friends ?c_are_friends ?k_are_friends ?a_chain_from ?l_chain_from ?c_chain_from ?k_chain_from ?a__law_cell ?l__law_cell ?c__law_cell ?k__law_cell ?a__law_draws ?l__law_draws ?c__law_draws ?k__law_draws ?a__law_is_integer ?l__law_is_integer ?c__law_is_integer ?k__law_is_integer ?a__law_is ?l__law_is ?c__law_is ?k__law_is ?a__law_rest ?l__law_rest ?c__law_rest ?k__law_rest ?a__law_alone ?l__law_alone ?c__law_alone ?k__law_alone ?a__law_twos ?l__law_twos ?c__law_twos ?k__law_twos ?a__law_chain ?l__law_chain ?c__law_chain ?k__law_chain ?a_law ?l_law ?c_law ?k_law ?z_abs ?z_all ?z_any ?z_enumerate ?z_int ?z_isinstance ?z_len ?z_list ?z_max ?z_min ?z_range ?z_reversed ?z_set ?z_sorted ?z_str ?z_sum ?z_tuple ?z_type ?z_zip ?z_bool ?z_dict
    (case a_divisors_of => k_is)
    (case l_divisors_of => k_is)
    (case c_divisors_of => k_is)
    (case k_divisors_of => k_is)
    (case a_power_of => k_is)
    (case l_power_of => k_is)
    (case c_power_of => k_is)
    (case k_power_of => k_is)
    (case a_rest_sum => k_is)
    (case l_rest_sum => k_is)
    (case c_rest_sum => k_is)
    (case k_rest_sum => k_is)
    (case a_has_two_divisors => k_is)
    (case l_has_two_divisors => k_is)
    (case c_has_two_divisors => k_is)
    (case k_has_two_divisors => k_is)
    (case a_is_perfect => k_is)
    (case l_is_perfect => k_is)
    (case c_is_perfect => k_is)
    (case k_is_perfect => k_is)
    (case a_perfect_at => k_is)
    (case l_perfect_at => k_is)
    (case c_perfect_at => k_is)
    (case k_perfect_at => k_is)
    (case a_are_friends => k_is)
    (case l_are_friends => k_is)
    (case c_are_friends => k_is)
    (case k_are_friends => k_is)
    (case a_chain_from => k_is)
    (case l_chain_from => k_is)
    (case c_chain_from => k_is)
    (case k_chain_from => k_is)
    (case a__law_cell => k_is)
    (case l__law_cell => k_is)
    (case c__law_cell => k_is)
    (case k__law_cell => k_is)
    (case a__law_draws => k_is)
    (case l__law_draws => k_is)
    (case c__law_draws => k_is)
    (case k__law_draws => k_is)
    (case a__law_is_integer => k_is)
    (case l__law_is_integer => k_is)
    (case c__law_is_integer => k_is)
    (case k__law_is_integer => k_is)
    (case a__law_is => k_is)
    (case l__law_is => k_is)
    (case c__law_is => k_is)
    (case k__law_is => k_is)
    (case a__law_rest => k_is)
    (case l__law_rest => k_is)
    (case c__law_rest => k_is)
    (case k__law_rest => k_is)
    (case a__law_alone => k_is)
    (case l__law_alone => k_is)
    (case c__law_alone => k_is)
    (case k__law_alone => k_is)
    (case a__law_twos => k_is)
    (case l__law_twos => k_is)
    (case c__law_twos => k_is)
    (case k__law_twos => k_is)
    (case a__law_chain => k_is)
    (case l__law_chain => k_is)
    (case c__law_chain => k_is)
    (case k__law_chain => k_is)
    (case a_law => k_is)
    (case l_law => k_is)
    (case c_law => k_is)
    (case k_law => k_is)
    (case z_abs => k_is)
    (case z_all => k_is)
    (case z_any => k_is)
    (case z_enumerate => k_is)
    (case z_int => k_is)
    (case z_isinstance => k_is)
    (case z_len => k_is)
    (case z_list => k_is)
    (case z_max => k_is)
    (case z_min => k_is)
    (case z_range => k_is)
    (case z_reversed => k_is)
    (case z_set => k_is)
    (case z_sorted => k_is)
    (case z_str => k_is)
    (case z_sum => k_is)
    (case z_tuple => k_is)
    (case z_type => k_is)
    (case z_zip => k_is)
    (case z_bool => k_is)
    (case z_dict => k_is)

#print axioms PySem.Challenge.cw_reckonhall_k31_whole_perfects_friends_an_holds
