import PyProof.Rows.All
import Wide.All
import OpenK.AllK
import Wide.FinOn
import HandS.ForMost
import HandS.Wide
import HandS.WideMore
import HandS.IsInst
import HandS.AnyAll
import HandS.TupAny
import HandS.Flow
import HandS.NoneIn
import HandS.SetFor
import HandS.Strs
import HandS.SortInts
import HandS.Deep
import HandS.Style
import KE.KRevSl
import KE.SortData
import KE.GoesEnum
import PyProof.Draws
import HandS.TupMul
import HandS.GenOver
import HandS.GenYield
import PyProof.GenQ
import PyProof.GenArm
import HandS.EndTab
import HandS.TupLe
import HandS.Conv
import HandS.Zip
import HandS.Rev
import KE.GoesZip
import KE.GoesMore
import HandS.Iter
import KE.DataMinMax
import KE.DataCmp
import HandS.SortKw
import HandS.Dict
import HandS.Small
import HandS.Text
import PyProof.EnumMake
import PyProof.StrLawsIn
import PyProof.MaxThree
import PySem.Challenge.RW_reckonhall_k53_whole_sums_and_own_parts
set_option Elab.async false
set_option linter.all false
set_option maxRecDepth 100000

/-! PLD: the pure side. Data without a heap, states of slots, predicate transformers of the constructs. -/
namespace PL
open PySem

inductive D where
  | non | bl (b : Bool) | int (i : Int) | str (x : Str) | tup (xs : List D) | lst (xs : List D)
  deriving Inhabited

mutual
def D.beq : D → D → Bool
  | .non, .non => true
  | .bl a, .bl b => a == b
  | .int a, .int b => a == b
  | .str a, .str b => decide (a = b)
  | .tup a, .tup b => D.beqL a b
  | .lst a, .lst b => D.beqL a b
  | _, _ => false
def D.beqL : List D → List D → Bool
  | [], [] => true
  | a :: r, b :: s => D.beq a b && D.beqL r s
  | _, _ => false
end
mutual
theorem D.beq_iff : ∀ (a b : D), D.beq a b = true ↔ a = b
  | .non, b => by cases b <;> simp [D.beq]
  | .bl x, b => by cases b <;> simp [D.beq]
  | .int x, b => by cases b <;> simp [D.beq]
  | .str x, b => by cases b <;> simp [D.beq]
  | .tup x, b => by cases b <;> simp [D.beq, D.beqL_iff x]
  | .lst x, b => by cases b <;> simp [D.beq, D.beqL_iff x]
theorem D.beqL_iff : ∀ (a b : List D), D.beqL a b = true ↔ a = b
  | [], [] => by simp [D.beqL]
  | [], _ :: _ => by simp [D.beqL]
  | _ :: _, [] => by simp [D.beqL]
  | a :: r, b :: s => by simp [D.beqL, D.beq_iff a b, D.beqL_iff r s]
end
instance : DecidableEq D := fun a b => if h : D.beq a b = true then isTrue ((D.beq_iff a b).mp h) else isFalse fun e => h ((D.beq_iff a b).mpr e)

/-- a slot: empty, a value, or a list that this def owns at the address a -/
inductive Sl where
  | no | val (d : D) | own (a : Nat) (ds : List D)
  /-- a dict that this def owns: at a, its keys tuples or not, its entries in order -/
  | dic (a : Nat) (k : Bool) (kvs : List (D × D))

abbrev PSt := List Sl
def gt : List Sl → Nat → Sl
  | [], _ => .no
  | s :: _, 0 => s
  | _ :: r, i + 1 => gt r i
def st : List Sl → Nat → Sl → List Sl
  | [], _, _ => []
  | _ :: r, 0, x => x :: r
  | s :: r, i + 1, x => s :: st r i x
@[simp] theorem gt_zero (s : Sl) (r : List Sl) : gt (s :: r) 0 = s := rfl
@[simp] theorem gt_succ (s : Sl) (r : List Sl) (i : Nat) : gt (s :: r) (i + 1) = gt r i := rfl
@[simp] theorem st_zero (s x : Sl) (r : List Sl) : st (s :: r) 0 x = x :: r := rfl
@[simp] theorem st_succ (s x : Sl) (r : List Sl) (i : Nat) : st (s :: r) (i + 1) x = s :: st r i x := rfl
/-- the slots vs emptied -/
def wp : List Sl → List Nat → List Sl
  | δ, [] => δ
  | δ, v :: vs => st (wp δ vs) v .no
def frzS : Sl → Sl
  | .own _ ds => .val (.lst ds)
  | s => s
def frz1 (δ : List Sl) (i : Nat) : List Sl := st δ i (frzS (gt δ i))

abbrev Ex := PSt → (D → Prop) → Prop
abbrev Ts := PSt → (Bool → Prop) → Prop
abbrev Ar := PSt → (List D → Prop) → Prop
abbrev Tg := D → PSt → (PSt → Prop) → Prop
abbrev TgL := List D → PSt → (PSt → Prop) → Prop
structure En where
  nx : PSt → Prop
  rt : D → Prop
  bk : PSt → Prop := fun _ => False
  ct : PSt → Prop := fun _ => False
  rn : List D → Prop := fun ds => rt (.lst ds)
abbrev Sm := En → PSt → Prop
abbrev Op2 := D → D → (D → Prop) → Prop
abbrev Op1 := D → (D → Prop) → Prop
/-- what a def promises -/
abbrev Pm := List D → (D → Prop) → Prop

abbrev maxLen : Nat := 16777216

/-! what a slot, a datum must be -/
def asVal : Sl → (D → Prop) → Prop
  | .val d, Q => Q d
  | _, _ => False
def asOwn : Sl → (Nat → List D → Prop) → Prop
  | .own a ds, Q => Q a ds
  | _, _ => False
def asB : D → (Bool → Prop) → Prop
  | .bl b, Q => Q b
  | _, _ => False
def asI : D → (Int → Prop) → Prop
  | .int i, Q => Q i
  | _, _ => False
def asSeq : D → (List D → Prop) → Prop
  | .tup xs, Q => Q xs
  | .lst xs, Q => Q xs
  | _, _ => False
def asLst : D → (List D → Prop) → Prop
  | .lst xs, Q => Q xs
  | _, _ => False

/-! ### expressions -/
def eVar (i : Nat) : Ex := fun δ Q => asVal (gt δ i) Q
def eC (d : D) : Ex := fun _ Q => Q d
def e1 (p : Op1) (a : Ex) : Ex := fun δ Q => a δ fun x => p x Q
def e2 (p : Op2) (a b : Ex) : Ex := fun δ Q => a δ fun x => b δ fun y => p x y Q

def oAdd : Op2
  | .int i, .int j, Q => Q (.int (i + j))
  | .tup xs, .tup ys, Q => xs.length + ys.length ≤ 16777216 ∧ Q (.tup (xs ++ ys))
  | .lst xs, .lst ys, Q => xs.length + ys.length ≤ 16777216 ∧ Q (.lst (xs ++ ys))
  | .str x, .str y, Q => x.length + y.length ≤ 16777216 ∧ Q (.str (x ++ y))
  | _, _, _ => False
def oSub : Op2
  | .int i, .int j, Q => Q (.int (i - j))
  | _, _, _ => False
def MulB (i j : Int) : Prop := (-(2 ^ 64) < i ∧ i < 2 ^ 64) ∨ (-(2 ^ 64) < j ∧ j < 2 ^ 64)
def oMul : Op2
  | .int i, .int j, Q => MulB i j ∧ Q (.int (i * j))
  | _, _, _ => False
/-- wide factors -/
def oMulX : Op2
  | .int i, .int j, Q => (∃ a b : Nat, i.natAbs < 2 ^ a ∧ j.natAbs < 2 ^ b ∧ a + b ≤ 1000000) ∧ Q (.int (i * j))
  | _, _, _ => False
/-- (..) * n -/
def oRep : Op2
  | .tup xs, .int n, Q => (xs.length * n.toNat ≤ 1000000) ∧ Q (.tup (List.replicate n.toNat xs).flatten)
  | _, _, _ => False
def oFdiv : Op2
  | .int i, .int j, Q => (0 < j ∧ j < 2 ^ 64) ∧ Q (.int (i / j))
  | _, _, _ => False
def oFdivN : Op2
  | .int i, .int j, Q => (j ≠ 0 ∧ -1073741824 < j ∧ j < 1073741824) ∧ Q (.int (Int.fdiv i j))
  | _, _, _ => False
def oMod : Op2
  | .int i, .int j, Q => 0 < j ∧ Q (.int (i % j))
  | _, _, _ => False
def oModN : Op2
  | .int i, .int j, Q => j ≠ 0 ∧ Q (.int (Int.fmod i j))
  | _, _, _ => False
def oPow : Op2
  | .int i, .int j, Q => (0 ≤ j ∧ j ≤ 1000000 ∧ -(2 ^ 64) < i ∧ i < 2 ^ 64) ∧ Q (.int (i ^ j.toNat))
  | _, _, _ => False
def oNeg : Op1
  | .int i, Q => Q (.int (-i))
  | _, _ => False
/-! comparisons -/
def oLt : Op2
  | .int i, .int j, Q => Q (.bl (decide (i < j)))
  | _, _, _ => False
def oLe : Op2
  | .int i, .int j, Q => Q (.bl (decide (i ≤ j)))
  | _, _, _ => False
def oGt : Op2
  | .int i, .int j, Q => Q (.bl (decide (j < i)))
  | _, _, _ => False
def oGe : Op2
  | .int i, .int j, Q => Q (.bl (decide (j ≤ i)))
  | _, _, _ => False
def strOkD (x : Str) : Bool := x.cps.all fun c => c < 1114112
mutual
/-- x == y in Python -/
def D.eqv : D → D → Bool
  | .bl a, .bl b => a == b
  | .bl a, .int j => (if a then 1 else 0) == j
  | .int i, .bl b => i == (if b then 1 else 0)
  | .int i, .int j => i == j
  | .str x, .str y => x == y
  | .lst xs, .lst ys => D.eqvL xs ys
  | .tup xs, .tup ys => D.eqvL xs ys
  | .non, .non => true
  | .non, .bl _ => false
  | .non, .int _ => false
  | .non, .str _ => false
  | .non, .lst _ => false
  | .non, .tup _ => false
  | .bl _, .non => false
  | .bl _, .str _ => false
  | .bl _, .lst _ => false
  | .bl _, .tup _ => false
  | .int _, .non => false
  | .int _, .str _ => false
  | .int _, .lst _ => false
  | .int _, .tup _ => false
  | .str _, .non => false
  | .str _, .bl _ => false
  | .str _, .int _ => false
  | .str _, .lst _ => false
  | .str _, .tup _ => false
  | .lst _, .non => false
  | .lst _, .bl _ => false
  | .lst _, .int _ => false
  | .lst _, .str _ => false
  | .lst _, .tup _ => false
  | .tup _, .non => false
  | .tup _, .bl _ => false
  | .tup _, .int _ => false
  | .tup _, .str _ => false
  | .tup _, .lst _ => false
def D.eqvL : List D → List D → Bool
  | [], [] => true
  | x :: xs, y :: ys => D.eqv x y && D.eqvL xs ys
  | [], _ :: _ => false
  | _ :: _, [] => false
end
mutual
/-- at most n deep, its texts of true signs -/
def shp : Nat → D → Bool
  | _, .non => true
  | _, .bl _ => true
  | _, .int _ => true
  | _, .str x => strOkD x
  | 0, .tup _ => false
  | 0, .lst _ => false
  | n + 1, .tup xs => shpL n xs
  | n + 1, .lst xs => shpL n xs
def shpL : Nat → List D → Bool
  | _, [] => true
  | n, x :: xs => shp n x && shpL n xs
end
def oEq : Op2 := fun x y Q => (shp 60 x = true ∧ shp 60 y = true) ∧ Q (.bl (D.eqv x y))
def oNe : Op2 := fun x y Q => (shp 60 x = true ∧ shp 60 y = true) ∧ Q (.bl (!D.eqv x y))
def oIsN (a : Ex) : Ex := fun δ Q => a δ fun x => Q (.bl (decide (x = .non)))
def oNotN (a : Ex) : Ex := fun δ Q => a δ fun x => Q (.bl (!decide (x = .non)))

/-- the place that Python's index i names in n items -/
def ixP (n : Nat) (i : Int) : Option Nat := if 0 ≤ i then (if i < n then some i.toNat else none) else if -(n : Int) ≤ i then some (i + n).toNat else none
def atD (xs : List D) (i : Int) (Q : D → Prop) : Prop := ∃ j d, ixP xs.length i = some j ∧ xs[j]? = some d ∧ Q d
def oIx : Op2
  | .tup xs, .int i, Q => atD xs i Q
  | .lst xs, .int i, Q => atD xs i Q
  | .str x, .int i, Q => x.length ≤ 16777216 ∧ ∃ j c, ixP x.cps.toList.length i = some j ∧ x.cps.toList[j]? = some c ∧ Q (.str ⟨#[c]⟩)
  | _, _, _ => False
/-- x[i], x a slot, owned or not -/
def eIxS (s : Nat) (b : Ex) : Ex := fun δ Q => asOwn (gt δ s) fun _ xs => b δ fun y => asI y fun i => atD xs i Q
def eLenS (s : Nat) : Ex := fun δ Q => asOwn (gt δ s) fun _ xs => Q (.int xs.length)

/-! tests -/
def tB (a : Ex) : Ts := fun δ Q => a δ fun x => asB x Q
def truD : D → (Bool → Prop) → Prop
  | .bl b, Q => Q b
  | .int i, Q => Q (i != 0)
  | .non, Q => Q false
  | .tup xs, Q => Q (!xs.isEmpty)
  | .lst xs, Q => Q (!xs.isEmpty)
  | .str x, Q => x.length ≤ 16777216 ∧ Q ((x.length : Int) != 0)
def tTru (a : Ex) : Ts := fun δ Q => a δ fun x => truD x Q
def tAnd (t u : Ts) : Ts := fun δ Q => t δ fun c => if c = true then u δ Q else Q false
def tOr (t u : Ts) : Ts := fun δ Q => t δ fun c => if c = true then Q true else u δ Q
def tNot (t : Ts) : Ts := fun δ Q => t δ fun c => Q (!c)
def eAnd (a b : Ex) : Ex := fun δ Q => a δ fun x => asB x fun c => if c = true then b δ Q else Q (.bl false)
def eOr (a b : Ex) : Ex := fun δ Q => a δ fun x => asB x fun c => if c = true then Q (.bl true) else b δ Q
def eNot (a : Ex) : Ex := fun δ Q => a δ fun x => truD x fun c => Q (.bl (!c))
def eIf (t : Ts) (a b : Ex) : Ex := fun δ Q => t δ fun c => if c = true then a δ Q else b δ Q
def eChn (p q : Op2) (a b c : Ex) : Ex := fun δ Q => a δ fun x => b δ fun y => p x y fun z => asB z fun k => if k = true then c δ fun w => q y w Q else Q (.bl false)

/-! arguments, displays, calls -/
def aNil : Ar := fun _ Q => Q []
def aCons (a : Ex) (r : Ar) : Ar := fun δ Q => a δ fun x => r δ fun xs => Q (x :: xs)
def eTup (a : Ar) : Ex := fun δ Q => a δ fun xs => xs.length ≤ 16777216 ∧ Q (.tup xs)
def eLst (a : Ar) : Ex := fun δ Q => a δ fun xs => xs.length ≤ 16777216 ∧ Q (.lst xs)
def eCall (p : Pm) (a : Ar) : Ex := fun δ Q => a δ fun xs => p xs Q

/-! builtins, as promises -/
def pLen : Pm
  | [.tup xs], Q => Q (.int xs.length)
  | [.lst xs], Q => Q (.int xs.length)
  | [.str x], Q => x.length ≤ 16777216 ∧ Q (.int x.length)
  | _, _ => False
def pAbs : Pm
  | [.int i], Q => Q (.int (if i < 0 then -i else i))
  | _, _ => False
def pInt : Pm
  | [.int i], Q => Q (.int i)
  | [.bl b], Q => Q (.int (if b then 1 else 0))
  | _, _ => False
def pMax2 : Pm
  | [.int i, .int j], Q => Q (.int (if j > i then j else i))
  | _, _ => False
def pMin2 : Pm
  | [.int i, .int j], Q => Q (.int (if j < i then j else i))
  | _, _ => False
def pTuple : Pm
  | [.tup xs], Q => Q (.tup xs)
  | [.lst xs], Q => Q (.tup xs)
  | _, _ => False
def eTupleS (s : Nat) : Ex := fun δ Q => asOwn (gt δ s) fun _ xs => Q (.tup xs)
def pList : Pm
  | [.tup xs], Q => Q (.lst xs)
  | [.lst xs], Q => Q (.lst xs)
  | _, _ => False
def allB : List D → Option Bool
  | [] => some true
  | .bl b :: r => (allB r).map (b && ·)
  | _ => none
def anyB : List D → Option Bool
  | [] => some false
  | .bl b :: r => (anyB r).map (b || ·)
  | _ => none
def pAll : Pm
  | [.lst xs], Q => ∃ b, allB xs = some b ∧ Q (.bl b)
  | [.tup xs], Q => ∃ b, allB xs = some b ∧ Q (.bl b)
  | _, _ => False
def pAny : Pm
  | [.lst xs], Q => ∃ b, anyB xs = some b ∧ Q (.bl b)
  | [.tup xs], Q => ∃ b, anyB xs = some b ∧ Q (.bl b)
  | _, _ => False
def sumD : List D → Option Int
  | [] => some 0
  | .int i :: r => (sumD r).map (i + ·)
  | _ => none
def pSum : Pm
  | [.lst xs], Q => ∃ n, sumD xs = some n ∧ Q (.int n)
  | [.tup xs], Q => ∃ n, sumD xs = some n ∧ Q (.int n)
  | _, _ => False
def pAllL : Pm
  | [.lst xs], Q => ∃ b, allB xs = some b ∧ Q (.bl b)
  | _, _ => False
def pAnyL : Pm
  | [.lst xs], Q => ∃ b, anyB xs = some b ∧ Q (.bl b)
  | _, _ => False
def pSumL : Pm
  | [.lst xs], Q => ∃ n, sumD xs = some n ∧ Q (.int n)
  | _, _ => False
inductive Ty | int | bool | str | tuple | list
  deriving DecidableEq
def isTy : D → Ty → Bool
  | .int _, .int => true
  | .bl _, .int => true
  | .bl _, .bool => true
  | .str _, .str => true
  | .tup _, .tuple => true
  | .lst _, .list => true
  | _, _ => false
def eIsI (t : Ty) (a : Ex) : Ex := fun δ Q => a δ fun x => Q (.bl (isTy x t))

/-! slices -/
def sIx (n d : Nat) : Option Int → Nat
  | none => d
  | some v => if v < 0 then (v + n).toNat else min v.toNat n
def cutD {α : Type} (xs : List α) (lo hi : Option Int) : List α := (xs.drop (sIx xs.length 0 lo)).take (sIx xs.length xs.length hi - sIx xs.length 0 lo)
abbrev Pt := PSt → (Option Int → Prop) → Prop
def oNo : Pt := fun _ Q => Q none
def oSome (a : Ex) : Pt := fun δ Q => a δ fun x => asI x fun i => Q (some i)
def oCut : D → Option Int → Option Int → (D → Prop) → Prop
  | .tup xs, l, h, Q => Q (.tup (cutD xs l h))
  | .lst xs, l, h, Q => Q (.lst (cutD xs l h))
  | _, _, _, _ => False
def eSlice (a : Ex) (lo hi : Pt) : Ex := fun δ Q => a δ fun x => lo δ fun l => hi δ fun h => oCut x l h Q

/-! ### what is walked -/
def iSeq (a : Ex) : Ar := fun δ Q => a δ fun x => asSeq x Q
def rng (lo : Int) (n : Nat) : List D := (List.range n).map fun (k : Nat) => D.int (lo + k)
def iRng1 (a : Ex) : Ar := fun δ Q => a δ fun x => asI x fun n => (-(2 ^ 62) ≤ n ∧ n < 2 ^ 62) ∧ Q (rng 0 n.toNat)
def iRng2 (a b : Ex) : Ar := fun δ Q => a δ fun x => b δ fun y => asI x fun m => asI y fun n => (-(2 ^ 62) ≤ m ∧ m < 2 ^ 62 ∧ -(2 ^ 62) ≤ n ∧ n < 2 ^ 62) ∧ Q (rng m (n - m).toNat)
def enumD (xs : List D) : List D := List.zipWith (fun (k : Nat) d => D.tup [.int k, d]) (List.range xs.length) xs
def zipD (xs ys : List D) : List D := List.zipWith (fun a b => D.tup [a, b]) xs ys
def iEnum (a : Ex) : Ar := fun δ Q => iSeq a δ fun xs => Q (enumD xs)
def iZip (a b : Ex) : Ar := fun δ Q => iSeq a δ fun xs => iSeq b δ fun ys => Q (zipD xs ys)

/-! ### targets -/
inductive Tgt where
  | nm (i : Nat) | tp (ts : List Tgt)
mutual
def tg : Tgt → Tg
  | .nm i, d, δ, Q => Q (st δ i (.val d))
  | .tp ts, .tup xs, δ, Q => tgL ts xs δ Q
  | .tp ts, .lst xs, δ, Q => tgL ts xs δ Q
  | .tp _, _, _, _ => False
def tgL : List Tgt → TgL
  | [], [], δ, Q => Q δ
  | t :: ts, x :: xs, δ, Q => tg t x δ fun δ' => tgL ts xs δ' Q
  | _, _, _, _ => False
end
mutual
def Tgt.inn (vs : List Nat) : Tgt → Bool
  | .nm i => vs.contains i
  | .tp ts => Tgt.innL vs ts
def Tgt.innL (vs : List Nat) : List Tgt → Bool
  | [] => true
  | t :: ts => t.inn vs && Tgt.innL vs ts
end

/-! ### statements -/
def sNil : Sm := fun E δ => E.nx δ
/-- what follows: a mark at which the walk of the pure side stops -/
def Nxt (f : PSt → Prop) (δ : PSt) : Prop := f δ
theorem nxt {f : PSt → Prop} {δ : PSt} (h : f δ) : Nxt f δ := h
def sSeq (t u : Sm) : Sm := fun E δ => t { nx := Nxt (u E), rt := E.rt, rn := E.rn, bk := E.bk, ct := E.ct } δ
def sRet (a : Ex) : Sm := fun E δ => a δ E.rt
def sRetN : Sm := fun E _ => E.rt .non
def sBrk : Sm := fun E δ => E.bk δ
def sCnt : Sm := fun E δ => E.ct δ
def sDrop (a : Ex) : Sm := fun E δ => a δ fun _ => E.nx δ
def sIf (t : Ts) (a b : Sm) : Sm := fun E δ => t δ fun c => if c = true then a E δ else b E δ
def sAsg (a : Ex) (g : Tgt) : Sm := fun E δ => a δ fun x => tg g x δ E.nx
def sPar (i j : Nat) (a b : Ex) : Sm := fun E δ => a δ fun x => b δ fun y => E.nx (st (st δ i (.val x)) j (.val y))
def sAug (i : Nat) (p : Op2) (a : Ex) : Sm := fun E δ => asVal (gt δ i) fun x => a δ fun y => p x y fun z => E.nx (st δ i (.val z))
/-- a new list, owned -/
def sOwn (i : Nat) (a : Ex) : Sm := fun E δ => a δ fun x => asLst x fun xs => ∀ p, E.nx (st δ i (.own p xs))
def sFrz (i : Nat) (t : Sm) : Sm := fun E δ => t E (frz1 δ i)
/-- a statement and what follows, by a word J that holds between them (the slots vs forgotten) -/
def sCut (vs : List Nat) (t u : Sm) : Sm := fun E δ => ∃ J : PSt → Prop, t { nx := fun δ' => J (wp δ' vs), rt := E.rt, rn := E.rn, bk := E.bk, ct := E.ct } δ ∧ ∀ δ', J δ' → u E δ'
/-- slots forgotten ahead of a statement, behind a block -/
def sFgt (vs : List Nat) (t : Sm) : Sm := fun E δ => t E (wp δ vs)
def sEnd (vs : List Nat) (t : Sm) : Sm := fun E δ => t { nx := fun δ' => E.nx (wp δ' vs), rt := E.rt, rn := E.rn, bk := E.bk, ct := fun δ' => E.ct (wp δ' vs) } δ
def sApp (i : Nat) (a : Ex) : Sm := fun E δ => asOwn (gt δ i) fun p xs => a δ fun x => xs.length < 16777216 ∧ E.nx (st δ i (.own p (xs ++ [x])))
def sSet (i : Nat) (b a : Ex) : Sm := fun E δ => asOwn (gt δ i) fun p xs => a δ fun x => b δ fun y => asI y fun k => ∃ j, ixP xs.length k = some j ∧ E.nx (st δ i (.own p (xs.set j x)))
/-- while: an invariant with its measure -/
def sWhile (t : Ts) (b : Sm) : Sm := fun E δ => ∃ I : Nat → PSt → Prop, (∃ n, I n δ) ∧ ∀ n δ, I n δ →
  t δ fun c => if c = true then b { nx := fun δ' => ∃ n', n' < n ∧ I n' δ', rt := E.rt, rn := E.rn, bk := E.nx, ct := fun δ' => ∃ n', n' < n ∧ I n' δ' } δ else E.nx δ
def forD (ds : List D) (g : Tgt) (b : Sm) : Sm := fun E δ => ∃ I : Nat → PSt → Prop, I 0 δ ∧
  (∀ (i : Nat) (d : D) δ, ds[i]? = some d → I i δ → tg g d δ fun δ' => b { nx := I (i + 1), rt := E.rt, rn := E.rn, bk := E.nx, ct := I (i + 1) } δ') ∧ ∀ δ, I ds.length δ → E.nx δ
def sFor (vs : List Nat) (it : Ar) (g : Tgt) (b : Sm) : Sm := fun E δ => it δ fun ds => forD ds g b E (wp δ vs)
/-- [e for g in it if t] -/
def lcD (ds : List D) (g : Tgt) (t : Ts) (e : Ex) (δ : PSt) (Q : List D → Prop) : Prop := ds.length ≤ 16777216 ∧ ∃ I : Nat → List D → Prop, I 0 [] ∧
  (∀ (i : Nat) (d : D) (acc : List D), ds[i]? = some d → I i acc → tg g d δ fun δ' => t δ' fun c => if c = true then e δ' fun y => I (i + 1) (acc ++ [y]) else I (i + 1) acc) ∧ ∀ acc, I ds.length acc → Q acc
def tYes : Ts := fun _ Q => Q true
def eLc (it : Ar) (vs : List Nat) (g : Tgt) (t : Ts) (e : Ex) : Ex := fun δ Q => it δ fun ds => lcD ds g t e (wp δ vs) fun ys => Q (.lst ys)
def oAddI : Op2
  | .int i, .int j, Q => Q (.int (i + j))
  | _, _, _ => False
def startP (n : Nat) (ds : List D) : PSt := ds.map Sl.val ++ List.replicate (n - ds.length) .no
def endsOf (Q : D → Prop) : En := ⟨fun _ => Q .non, Q, fun _ => False, fun _ => False, fun ds => Q (.lst ds)⟩
/-- of a def that returns new lists alone -/
def endsN (Q : D → Prop) : En := ⟨fun _ => False, fun _ => False, fun _ => False, fun _ => False, fun ds => Q (.lst ds)⟩
/-- return l, l owned: a new list -/
def sRetS (i : Nat) : Sm := fun E δ => asOwn (gt δ i) fun _ ds => E.rn ds
/-- the law's own promise -/
def pLaw : Pm := fun ds Q => ∃ ns : List Int, ds = [.lst (ns.map .int)] ∧ ns.length ≤ 63 ∧ Q (.bl true)
end PL

set_option Elab.async false
set_option linter.all false
set_option maxRecDepth 100000
/-! PLS: the pure side is sound: each transformer of PLD lies above HandS's reading. -/
namespace PL
open PySem PySem.Spec PyProof.Rows L2

/-! ### data in the heap -/
mutual
def Rp (K : PySem.W.Frag) (H : Hp) : D → V → Prop
  | .non, v => v = .non
  | .bl b, v => v = .bl b
  | .int i, v => v = .int i
  | .str x, v => v = .str x
  | .tup ds, v => ∃ a xs, v = .ref a ∧ H a = some (.tup xs) ∧ RpL K H ds xs
  | .lst ds, v => ∃ a xs, v = .ref a ∧ SqL K H a xs ∧ RpL K H ds xs
def RpL (K : PySem.W.Frag) (H : Hp) : List D → List V → Prop
  | [], vs => vs = []
  | d :: ds, vs => ∃ v r, vs = v :: r ∧ Rp K H d v ∧ RpL K H ds r
end
theorem sameT {K : PySem.W.Frag} {H H' : Hp} {a : Addr} {xs : List V} (e : Same H H') (h : SqT K H a xs) : SqT K H' a xs := by
  rcases h with (h | ⟨o, h⟩) | h
  · exact .inl (.inl (e _ _ h))
  · exact .inl (.inr ⟨o, e _ _ h⟩)
  · exact .inr h
mutual
theorem Rp.mono {K : PySem.W.Frag} {H H' : Hp} (e : Same H H') : ∀ {d : D} {v : V}, Rp K H d v → Rp K H' d v
  | .non, _, h => by simp only [Rp] at h ⊢; exact h
  | .bl _, _, h => by simp only [Rp] at h ⊢; exact h
  | .int _, _, h => by simp only [Rp] at h ⊢; exact h
  | .str _, _, h => by simp only [Rp] at h ⊢; exact h
  | .tup _, _, h => by
    simp only [Rp] at h ⊢
    obtain ⟨a, xs, h1, h2, h3⟩ := h
    exact ⟨a, xs, h1, e _ _ h2, RpL.mono e h3⟩
  | .lst _, _, h => by
    simp only [Rp] at h ⊢
    obtain ⟨a, xs, h1, h2, h3⟩ := h
    exact ⟨a, xs, h1, e.seq h2, RpL.mono e h3⟩
theorem RpL.mono {K : PySem.W.Frag} {H H' : Hp} (e : Same H H') : ∀ {ds : List D} {vs : List V}, RpL K H ds vs → RpL K H' ds vs
  | [], _, h => by simp only [RpL] at h ⊢; exact h
  | d :: ds, _, h => by
    simp only [RpL] at h ⊢
    obtain ⟨v, r, h1, h2, h3⟩ := h
    exact ⟨v, r, h1, Rp.mono e h2, RpL.mono e h3⟩
end
section
variable {K : PySem.W.Frag} {H : Hp}
theorem RpL.nil : RpL K H [] [] := by simp [RpL]
theorem RpL.cons {d : D} {v : V} {ds : List D} {vs : List V} (h : Rp K H d v) (t : RpL K H ds vs) : RpL K H (d :: ds) (v :: vs) := by
  simp only [RpL]; exact ⟨v, vs, rfl, h, t⟩
theorem RpL.inv {d : D} {ds : List D} {vs : List V} (h : RpL K H (d :: ds) vs) : ∃ v r, vs = v :: r ∧ Rp K H d v ∧ RpL K H ds r := by
  simpa only [RpL] using h
theorem RpL.len : ∀ {ds : List D} {vs : List V}, RpL K H ds vs → vs.length = ds.length
  | [], _, h => by simp only [RpL] at h; rw [h]; rfl
  | d :: ds, _, h => by
    obtain ⟨v, r, rfl, _, h3⟩ := h.inv
    simp [h3.len]
theorem RpL.get : ∀ {ds : List D} {vs : List V} {i : Nat} {d : D}, RpL K H ds vs → ds[i]? = some d → ∃ v, vs[i]? = some v ∧ Rp K H d v
  | [], _, _, _, _, e => by simp at e
  | d :: ds, _, 0, x, h, e => by
    obtain ⟨v, r, rfl, h2, h3⟩ := h.inv
    simp at e; subst e
    exact ⟨v, rfl, h2⟩
  | d :: ds, _, i + 1, x, h, e => by
    obtain ⟨v, r, rfl, h2, h3⟩ := h.inv
    exact h3.get (i := i) (by simpa using e)
theorem RpL.app : ∀ {ds es : List D} {vs us : List V}, RpL K H ds vs → RpL K H es us → RpL K H (ds ++ es) (vs ++ us)
  | [], _, _, _, h, g => by simp only [RpL] at h; subst h; exact g
  | d :: ds, _, _, _, h, g => by
    obtain ⟨v, r, rfl, h2, h3⟩ := h.inv
    exact .cons h2 (h3.app g)
theorem RpL.set : ∀ {ds : List D} {vs : List V} {d : D} {v : V} (i : Nat), RpL K H ds vs → Rp K H d v → RpL K H (ds.set i d) (vs.set i v)
  | [], _, _, _, _, h, _ => by simp only [RpL] at h; subst h; exact .nil
  | _ :: _, _, _, _, 0, h, g => by
    obtain ⟨v, r, rfl, h2, h3⟩ := h.inv
    exact .cons g h3
  | _ :: _, _, _, _, i + 1, h, g => by
    obtain ⟨v, r, rfl, h2, h3⟩ := h.inv
    exact .cons h2 (h3.set i g)
theorem RpL.drop : ∀ {ds : List D} {vs : List V} (i : Nat), RpL K H ds vs → RpL K H (ds.drop i) (vs.drop i)
  | _, _, 0, h => h
  | [], _, i + 1, h => by simp only [RpL] at h; subst h; exact .nil
  | _ :: _, _, i + 1, h => by
    obtain ⟨v, r, rfl, h2, h3⟩ := h.inv
    exact h3.drop i
theorem RpL.take : ∀ {ds : List D} {vs : List V} (i : Nat), RpL K H ds vs → RpL K H (ds.take i) (vs.take i)
  | _, _, 0, _ => .nil
  | [], _, i + 1, h => by simp only [RpL] at h; subst h; exact .nil
  | _ :: _, _, i + 1, h => by
    obtain ⟨v, r, rfl, h2, h3⟩ := h.inv
    exact .cons h2 (h3.take i)
theorem RpL.rep {ds : List D} {vs : List V} (h : RpL K H ds vs) : ∀ k : Nat, RpL K H (List.replicate k ds).flatten (List.replicate k vs).flatten
  | 0 => .nil
  | k + 1 => by
    rw [List.replicate_succ, List.replicate_succ, List.flatten_cons, List.flatten_cons]
    exact h.app (h.rep k)
theorem Rp.tup {a : Addr} {ds : List D} {xs : List V} (h : H a = some (.tup xs)) (g : RpL K H ds xs) : Rp K H (.tup ds) (.ref a) := by
  simp only [Rp]; exact ⟨a, xs, rfl, h, g⟩
theorem Rp.lst {a : Addr} {ds : List D} {xs : List V} (h : SqL K H a xs) (g : RpL K H ds xs) : Rp K H (.lst ds) (.ref a) := by
  simp only [Rp]; exact ⟨a, xs, rfl, h, g⟩
theorem Rp.tupH {ds : List D} {v : V} (h : Rp K H (.tup ds) v) : ∃ a xs, v = .ref a ∧ H a = some (.tup xs) ∧ RpL K H ds xs := by simpa only [Rp] using h
theorem Rp.tupI {ds : List D} {v : V} (h : Rp K H (.tup ds) v) : ∃ a xs, v = .ref a ∧ SqT K H a xs ∧ RpL K H ds xs := by
  obtain ⟨a, xs, h1, h2, h3⟩ := h.tupH
  exact ⟨a, xs, h1, .inl (.inl h2), h3⟩
theorem Rp.lstI {ds : List D} {v : V} (h : Rp K H (.lst ds) v) : ∃ a xs, v = .ref a ∧ SqL K H a xs ∧ RpL K H ds xs := by simpa only [Rp] using h
theorem Rp.intI {i : Int} {v : V} (h : Rp K H (.int i) v) : v = .int i := by simpa only [Rp] using h
theorem Rp.blI {b : Bool} {v : V} (h : Rp K H (.bl b) v) : v = .bl b := by simpa only [Rp] using h
theorem Rp.strI {x : Str} {v : V} (h : Rp K H (.str x) v) : v = .str x := by simpa only [Rp] using h
theorem Rp.nonI {v : V} (h : Rp K H .non v) : v = .non := by simpa only [Rp] using h
theorem Rp.int (i : Int) : Rp K H (.int i) (.int i) := by simp only [Rp]
theorem Rp.bl (b : Bool) : Rp K H (.bl b) (.bl b) := by simp only [Rp]
theorem Rp.str (x : Str) : Rp K H (.str x) (.str x) := by simp only [Rp]
theorem Rp.non : Rp K H .non .non := by simp only [Rp]
theorem RpL.ints : ∀ (ns : List Int), RpL K H (ns.map .int) (ns.map .int)
  | [] => .nil
  | n :: ns => .cons (.int n) (RpL.ints ns)
end

/-! ### the frozen part F of the heap H grows; tables of code objects may grow in H -/
/-- H' holds what H holds, tables may have grown -/
structure Grow (H H' : Hp) : Prop where
  of : ∀ b o, H b = some o → (∀ ps, o ≠ .tbl ps) → H' b = some o
  tb : ∀ P, GxR.TabG H P → GxR.TabG H' P
  free : ∀ {b}, H' b = none → H b = none
theorem Grow.same {H H' : Hp} (s : Same H H') : Grow H H' := ⟨fun b o e _ => s b o e, fun P ⟨ps, e, h⟩ => ⟨ps, s _ _ e, h⟩, fun {b} e => s.free e⟩
theorem Grow.refl {H : Hp} : Grow H H := .same (.refl _)
theorem Grow.trans {H H1 H2 : Hp} (a : Grow H H1) (b : Grow H1 H2) : Grow H H2 := ⟨fun c o e n => b.of c o (a.of c o e n) n, fun P h => b.tb P (a.tb P h), fun e => a.free (b.free e)⟩
theorem Grow.thenS {H H1 H2 : Hp} (a : Grow H H1) (b : Same H1 H2) : Grow H H2 := a.trans (.same b)
theorem Grow.at {H H' : Hp} (g : Grow H H') {b : Addr} {o : HO} (e : H b = some o) (n : ∀ ps, o ≠ .tbl ps := by intro _ z; cases z) : H' b = some o := g.of b o e n
/-- a table alone has grown -/
theorem Grow.tabbed {P : Addr} {H H' : Hp} (hP : GxR.TabG H P) (t : GxR.Tabbed P H H') : Grow H H' := by
  obtain ⟨ps, hP, _⟩ := hP
  obtain ⟨tg, tk⟩ := t
  refine ⟨fun b o e n => ?_, fun Q h => ?_, fun {b} e => ?_⟩
  · have hb : b ≠ P := fun z => by rw [z, hP] at e; exact n ps (Option.some.inj e).symm
    rw [tk b hb]; exact e
  · by_cases hb : Q = P
    · rw [hb]; exact tg
    · obtain ⟨qs, e, h⟩ := h
      exact ⟨qs, by rw [tk Q hb]; exact e, h⟩
  · by_cases hb : b = P
    · obtain ⟨qs, e', _⟩ := tg
      rw [hb, e'] at e; cases e
    · rw [tk b hb] at e; exact e
theorem Grow.upd {H H' : Hp} {p : Addr} {o : HO} (g : Grow H H') (hp : H p = none) : Grow H (L2.upd H' p o) := ⟨fun b u q n => by rw [upd_ne (ne_of_none q hp)]; exact g.of b u q n, fun P h => by
  obtain ⟨ps, e, h'⟩ := h
  obtain ⟨qs, e2, h2⟩ := g.tb P ⟨ps, e, h'⟩
  exact ⟨qs, by rw [upd_ne (ne_of_none e hp)]; exact e2, h2⟩, fun {b} e => by
  by_cases hb : b = p
  · rw [hb, upd_same] at e; cases e
  · rw [upd_ne hb] at e; exact g.free e⟩
structure Ext (F H F' H' : Hp) : Prop where
  f : Same F F'
  h : Grow H H'
  s : Same F' H'
  n : ∀ a, H a ≠ none → F a = none → F' a = none
theorem Ext.refl {F H : Hp} (s : Same F H) : Ext F H F H := ⟨.refl _, .refl, s, fun _ _ h => h⟩
theorem Ext.trans {F H F1 H1 F2 H2 : Hp} (a : Ext F H F1 H1) (b : Ext F1 H1 F2 H2) : Ext F H F2 H2 :=
  ⟨a.f.trans b.f, a.h.trans b.h, b.s, fun p h1 h2 => b.n p (fun q => h1 (a.h.free q)) (a.n p h1 h2)⟩
theorem upd_same_of {H : Hp} {p : Addr} {o : HO} (h : H p = none) : Same H (upd H p o) := fun b x e => by
  rw [upd_ne (ne_of_none e h)]; exact e
/-- a new object, frozen at once -/
theorem Ext.new {F H : Hp} (s : Same F H) {p : Addr} {o : HO} (h : H p = none) : Ext F H (upd F p o) (upd H p o) := by
  have hF : F p = none := by
    cases e : F p with
    | none => rfl
    | some x => rw [s p x e] at h; cases h
  refine ⟨upd_same_of hF, .same (upd_same_of h), fun b x e => ?_, fun a h1 h2 => ?_⟩
  · by_cases hb : b = p
    · subst hb; rw [upd_same] at e ⊢; exact e
    · rw [upd_ne hb] at e ⊢; exact s b x e
  · have : a ≠ p := fun z => h1 (z ▸ h)
    rw [upd_ne this]; exact h2
/-- the heap alone grows -/
theorem Ext.grow {F H H' : Hp} (s : Same F H) (h : Same H H') : Ext F H F H' := ⟨.refl _, .same h, s.trans h, fun _ _ q => q⟩
/-- a table grows -/
theorem Ext.tab {F H H' : Hp} {P : Addr} (s : Same F H) (hP : GxR.TabG H P) (hF : F P = none) (t : GxR.Tabbed P H H') : Ext F H F H' :=
  ⟨.refl _, .tabbed hP t, fun b o e => by rw [t.2 b (ne_of_none e hF)]; exact s b o e, fun _ _ q => q⟩

/-- the tables that stand in the heap -/
class Tabs where
  T : List Addr
variable [Tabs]
def TbOk (F H : Hp) : Prop := ∀ P ∈ Tabs.T, GxR.TabG H P ∧ F P = none
theorem TbOk.mono {F H F' H' : Hp} (t : TbOk F H) (e : Ext F H F' H') : TbOk F' H' := fun P hP =>
  ⟨e.h.tb P (t P hP).1, e.n P (by obtain ⟨⟨ps, z, _⟩, _⟩ := t P hP; rw [z]; simp) (t P hP).2⟩

/-! ### dicts -/
/-- a key, as data -/
def kD : Key → D
  | .inl n => .int n
  | .inr x => .str x
/-- the entries of a dict -/
def DicAt (K : PySem.W.Frag) (F H : Hp) (a : Addr) (k : Bool) (kvs : List (D × D)) : Prop :=
  (k = false ∧ ∃ ks : List (Key × V), H a = some (.dK ks) ∧ Paired (fun (p : D × D) q => p.1 = kD q.1 ∧ Rp K F p.2 q.2) kvs ks) ∨
  (k = true ∧ ∃ ks : List (List Key × V), H a = some (.dT ks) ∧ Paired (fun (p : D × D) q => p.1 = .tup (q.1.map kD) ∧ Rp K F p.2 q.2) kvs ks)
omit [Tabs] in
/-- the dict alone is what counts -/
theorem DicAt.obj {K : PySem.W.Frag} {F H F' H' : Hp} {a : Addr} {k : Bool} {kvs : List (D × D)} (h : DicAt K F H a k kvs) (sF : Same F F') (e : ∀ o, H a = some o → (∀ xs, o ≠ .lst xs) → (∀ ps, o ≠ .tbl ps) → H' a = some o) : DicAt K F' H' a k kvs := by
  rcases h with ⟨hk, ks, h1, h2⟩ | ⟨hk, ks, h1, h2⟩
  · exact .inl ⟨hk, ks, e _ h1 (fun _ z => by cases z) (fun _ z => by cases z), Paired.mapP h2 fun x y z => ⟨z.1, z.2.mono sF⟩⟩
  · exact .inr ⟨hk, ks, e _ h1 (fun _ z => by cases z) (fun _ z => by cases z), Paired.mapP h2 fun x y z => ⟨z.1, z.2.mono sF⟩⟩
omit [Tabs] in
theorem DicAt.ob {K : PySem.W.Frag} {F H : Hp} {a : Addr} {k : Bool} {kvs : List (D × D)} (h : DicAt K F H a k kvs) : ∃ o, H a = some o ∧ (∀ xs, o ≠ .lst xs) ∧ ∀ ps, o ≠ .tbl ps := by
  rcases h with ⟨hk, ks, h1, h2⟩ | ⟨hk, ks, h1, h2⟩
  · exact ⟨_, h1, (fun _ z => by cases z), (fun _ z => by cases z)⟩
  · exact ⟨_, h1, (fun _ z => by cases z), (fun _ z => by cases z)⟩
/-- where a slot's own object lies -/
def slAt : Sl → Option Nat
  | .own a _ => some a
  | .dic a _ _ => some a
  | _ => none

/-! ### states -/
structure SR (K : PySem.W.Frag) (F0 B F H : Hp) (σ : L2.St) (δ : PSt) : Prop where
  ext : Ext F0 B F H
  len : σ.length = δ.length
  val : ∀ i d, gt δ i = .val d → ∃ v, σ[i]? = some (some v) ∧ Rp K F d v
  own : ∀ i a ds, gt δ i = .own a ds → σ[i]? = some (some (.ref a)) ∧ B a = none ∧ F a = none ∧ ∃ xs, H a = some (.lst xs) ∧ RpL K F ds xs
  dc : ∀ i a k kvs, gt δ i = .dic a k kvs → σ[i]? = some (some (.ref a)) ∧ B a = none ∧ F a = none ∧ DicAt K F H a k kvs
  nd : ∀ i j a, slAt (gt δ i) = some a → slAt (gt δ j) = some a → i = j
  tb : TbOk F0 B

theorem gt_out : ∀ {δ : PSt} {i : Nat}, δ.length ≤ i → gt δ i = .no
  | [], _, _ => rfl
  | _ :: r, i + 1, h => gt_out (δ := r) (by simpa using h)
theorem gt_in {δ : PSt} {i : Nat} (h : gt δ i ≠ .no) : i < δ.length := by
  by_cases q : i < δ.length
  · exact q
  · exact absurd (gt_out (by omega)) h
theorem st_len : ∀ (δ : PSt) (i : Nat) (x : Sl), (st δ i x).length = δ.length
  | [], _, _ => rfl
  | _ :: _, 0, _ => rfl
  | _ :: r, i + 1, x => by simp [st_len r i x]
theorem gt_st_same : ∀ {δ : PSt} {i : Nat} {x : Sl}, i < δ.length → gt (st δ i x) i = x
  | [], _, _, h => by simp at h
  | _ :: _, 0, _, _ => rfl
  | _ :: r, i + 1, x, h => gt_st_same (δ := r) (i := i) (by simpa using h)
theorem gt_st_ne : ∀ {δ : PSt} {i j : Nat} {x : Sl}, j ≠ i → gt (st δ i x) j = gt δ j
  | [], _, _, _, _ => rfl
  | _ :: _, 0, 0, _, h => absurd rfl h
  | _ :: _, 0, j + 1, _, _ => rfl
  | _ :: _, i + 1, 0, _, _ => rfl
  | _ :: r, i + 1, j + 1, x, h => gt_st_ne (δ := r) (i := i) (j := j) (by omega)
theorem st_gt : ∀ {δ : PSt} {i : Nat}, st δ i (gt δ i) = δ
  | [], _ => rfl
  | _ :: _, 0 => rfl
  | s :: r, i + 1 => by
    show s :: st r i (gt r i) = s :: r
    rw [st_gt (δ := r)]
theorem gt_st {δ : PSt} {i j : Nat} {x : Sl} : gt (st δ i x) j = gt δ j ∨ (j = i ∧ gt (st δ i x) j = x) := by
  by_cases h : j = i
  · subst h
    by_cases q : j < δ.length
    · exact .inr ⟨rfl, gt_st_same q⟩
    · left; rw [gt_out (by rw [st_len]; omega), gt_out (by omega)]
  · exact .inl (gt_st_ne h)

section
variable {K : PySem.W.Frag} {F0 B F H F' H' : Hp} {σ : L2.St} {δ : PSt}
theorem gt_stN {i j : Nat} {x y : Sl} (hx : y ≠ x) (hy : y ≠ .no) (h : gt (st δ i x) j = y) : j ≠ i ∧ gt δ j = y := by
  by_cases hj : j = i
  · subst hj
    by_cases hl : j < δ.length
    · rw [gt_st_same hl] at h; exact absurd h.symm hx
    · rw [gt_out (by rw [st_len]; omega)] at h; exact absurd h.symm hy
  · rw [gt_st_ne hj] at h; exact ⟨hj, h⟩
theorem gt_stY {i : Nat} {x y : Sl} (hy : y ≠ .no) (h : gt (st δ i x) i = y) : i < δ.length ∧ x = y := by
  have hl : i < δ.length := by
    have := gt_in (δ := st δ i x) (i := i) (by rw [h]; exact hy)
    rwa [st_len] at this
  rw [gt_st_same hl] at h
  exact ⟨hl, h⟩
theorem at_st {i j : Nat} {x : Sl} {a : Nat} (hx : slAt x = none) (h : slAt (gt (st δ i x) j) = some a) : slAt (gt δ j) = some a := by
  rcases gt_st (δ := δ) (i := i) (j := j) (x := x) with q | ⟨_, q⟩
  · rwa [q] at h
  · rw [q, hx] at h; cases h
theorem at_own {s : Sl} {a : Nat} {ds : List D} (h : s = .own a ds) : slAt s = some a := by rw [h]; rfl
theorem at_dic {s : Sl} {a : Nat} {k : Bool} {m : List (D × D)} (h : s = .dic a k m) : slAt s = some a := by rw [h]; rfl
theorem nd_set {δ : PSt} {i : Nat} {a : Nat} {x : Sl} (nd : ∀ i j a, slAt (gt δ i) = some a → slAt (gt δ j) = some a → i = j) (hh : ∀ j, j ≠ i → slAt (gt δ j) ≠ some a) {j k b : Nat}
    (h1 : slAt (gt (st δ i x) j) = some b) (h2 : slAt (gt (st δ i x) k) = some b) (hx : slAt x = some a := by rfl) : j = k := by
  have key : ∀ {m}, slAt (gt (st δ i x) m) = some b → (m = i ∧ b = a) ∨ (m ≠ i ∧ slAt (gt δ m) = some b) := fun {m} h => by
    by_cases hm : m = i
    · subst hm
      rcases gt_st (δ := δ) (i := m) (j := m) (x := x) with q | ⟨_, q⟩
      · by_cases hl : m < δ.length
        · rw [gt_st_same hl, hx] at h; exact .inl ⟨rfl, (Option.some.inj h).symm⟩
        · rw [gt_out (by rw [st_len]; omega)] at h; cases h
      · rw [q, hx] at h; exact .inl ⟨rfl, (Option.some.inj h).symm⟩
    · rw [gt_st_ne hm] at h; exact .inr ⟨hm, h⟩
  rcases key h1 with ⟨e1, e2⟩ | ⟨e1, e2⟩ <;> rcases key h2 with ⟨g1, g2⟩ | ⟨g1, g2⟩
  · rw [e1, g1]
  · exact absurd (e2 ▸ g2) (hh k g1)
  · exact absurd (g2 ▸ e2) (hh j e1)
  · exact nd j k b e2 g2
/-- the heaps change, what the slots hold does not -/
theorem SR.heaps (S : SR K F0 B F H σ δ) (e : Ext F0 B F' H') (sF : Same F F') (hl : ∀ i a ds xs, gt δ i = .own a ds → H a = some (.lst xs) → H' a = some (.lst xs) ∧ F' a = none)
    (hd : ∀ i a k m o, gt δ i = .dic a k m → H a = some o → (∀ xs, o ≠ .lst xs) → (∀ ps, o ≠ .tbl ps) → H' a = some o ∧ F' a = none) : SR K F0 B F' H' σ δ := by
  refine ⟨e, S.len, fun i d h => let ⟨v, a, b⟩ := S.val i d h; ⟨v, a, b.mono sF⟩, fun i a ds h => ?_, fun i a k m h => ?_, S.nd, S.tb⟩
  · obtain ⟨h1, h2, h3, xs, h4, h5⟩ := S.own i a ds h
    obtain ⟨g1, g2⟩ := hl i a ds xs h h4
    exact ⟨h1, h2, g2, xs, g1, h5.mono sF⟩
  · obtain ⟨h1, h2, h3, h4⟩ := S.dc i a k m h
    obtain ⟨o, h5, h6, h7⟩ := h4.ob
    exact ⟨h1, h2, (hd i a k m o h h5 h6 h7).2, h4.obj sF fun o' z1 z2 z3 => (hd i a k m o' h z1 z2 z3).1⟩
theorem SR.mono (S : SR K F0 B F H σ δ) (e : Ext F H F' H') : SR K F0 B F' H' σ δ :=
  S.heaps (S.ext.trans e) e.f (fun i a ds xs h h4 => by
    obtain ⟨h1, h2, h3, _⟩ := S.own i a ds h
    exact ⟨e.h.at h4, e.n a (by rw [h4]; simp) h3⟩) fun i a k m o h h4 _ n => by
    obtain ⟨h1, h2, h3, _⟩ := S.dc i a k m h
    exact ⟨e.h.at h4 n, e.n a (by rw [h4]; simp) h3⟩
theorem SR.setVal (S : SR K F0 B F H σ δ) {i : Nat} {d : D} {v : V} (r : Rp K F d v) : SR K F0 B F H (σ.set i (some v)) (st δ i (.val d)) := by
  refine ⟨S.ext, by rw [List.length_set, st_len]; exact S.len, fun j e h => ?_, fun j a ds h => ?_, fun j a k m h => ?_, fun j k a h1 h2 => S.nd j k a (at_st rfl h1) (at_st rfl h2), S.tb⟩
  · by_cases hj : j = i
    · subst hj
      obtain ⟨hl, h⟩ := gt_stY (by simp) h
      cases h
      exact ⟨v, by rw [List.getElem?_set_self (by rw [S.len]; exact hl)], r⟩
    · rw [gt_st_ne hj] at h
      obtain ⟨w, h1, h2⟩ := S.val j e h
      exact ⟨w, by rw [List.getElem?_set_ne (Ne.symm hj)]; exact h1, h2⟩
  · obtain ⟨hj, h⟩ := gt_stN (by simp) (by simp) h
    obtain ⟨h1, h2⟩ := S.own j a ds h
    exact ⟨by rw [List.getElem?_set_ne (Ne.symm hj)]; exact h1, h2⟩
  · obtain ⟨hj, h⟩ := gt_stN (by simp) (by simp) h
    obtain ⟨h1, h2⟩ := S.dc j a k m h
    exact ⟨by rw [List.getElem?_set_ne (Ne.symm hj)]; exact h1, h2⟩
theorem SR.setNo (S : SR K F0 B F H σ δ) {i : Nat} {o : Option V} : SR K F0 B F H (σ.set i o) (st δ i .no) := by
  refine ⟨S.ext, by rw [List.length_set, st_len]; exact S.len, fun j e h => ?_, fun j a ds h => ?_, fun j a k m h => ?_, fun j k a h1 h2 => S.nd j k a (at_st rfl h1) (at_st rfl h2), S.tb⟩
  · obtain ⟨hj, h⟩ := gt_stN (by simp) (by simp) h
    obtain ⟨w, h1, h2⟩ := S.val j e h
    exact ⟨w, by rw [List.getElem?_set_ne (Ne.symm hj)]; exact h1, h2⟩
  · obtain ⟨hj, h⟩ := gt_stN (by simp) (by simp) h
    obtain ⟨h1, h2⟩ := S.own j a ds h
    exact ⟨by rw [List.getElem?_set_ne (Ne.symm hj)]; exact h1, h2⟩
  · obtain ⟨hj, h⟩ := gt_stN (by simp) (by simp) h
    obtain ⟨h1, h2⟩ := S.dc j a k m h
    exact ⟨by rw [List.getElem?_set_ne (Ne.symm hj)]; exact h1, h2⟩
/-- the object at a changes, which at most slot i owns -/
theorem SR.upd1 (S : SR K F0 B F H σ δ) {i : Nat} {a : Addr} {o : HO} (hB : B a = none) (hF : F a = none) (hh : ∀ j, j ≠ i → slAt (gt δ j) ≠ some a) : SR K F0 B F (upd H a o) σ (st δ i .no) := by
  have sB : Grow B (upd H a o) := ⟨fun b u q n => by rw [upd_ne (ne_of_none q hB)]; exact S.ext.h.at q n, fun P h => by
      obtain ⟨ps, e, h'⟩ := h
      obtain ⟨qs, e2, h2⟩ := S.ext.h.tb P ⟨ps, e, h'⟩
      exact ⟨qs, by rw [upd_ne (ne_of_none e hB)]; exact e2, h2⟩, fun {b} e => by
      by_cases hb : b = a
      · rw [hb, upd_same] at e; cases e
      · rw [upd_ne hb] at e; exact S.ext.h.free e⟩
  have sF : Same F (upd H a o) := fun b u q => by
    rw [upd_ne (ne_of_none q hF)]; exact S.ext.s b u q
  have S' : SR K F0 B F H (σ.set i ((σ[i]?).getD none)) (st δ i .no) := S.setNo
  have e : σ.set i ((σ[i]?).getD none) = σ := by
    apply List.ext_getElem?
    intro j
    by_cases hj : i = j
    · subst hj
      by_cases hl : i < σ.length
      · rw [List.getElem?_set_self hl, List.getElem?_eq_getElem hl]; rfl
      · rw [List.getElem?_eq_none (by simpa using hl), List.getElem?_eq_none (by omega)]
    · rw [List.getElem?_set_ne hj]
  rw [e] at S'
  refine S'.heaps ⟨S.ext.f, sB, sF, S.ext.n⟩ (.refl _) (fun j b ds xs h h4 => ?_) fun j b k m u h h4 _ _ => ?_
  · obtain ⟨hj, h⟩ := gt_stN (by simp) (by simp) h
    have hb : b ≠ a := fun z => hh j hj (z ▸ at_own h)
    exact ⟨by rw [upd_ne hb]; exact h4, (S.own j b ds h).2.2.1⟩
  · obtain ⟨hj, h⟩ := gt_stN (by simp) (by simp) h
    have hb : b ≠ a := fun z => hh j hj (z ▸ at_dic h)
    exact ⟨by rw [upd_ne hb]; exact h4, (S.dc j b k m h).2.2.1⟩
/-- a list at a (new, or the one that slot i owns already) is owned by slot i -/
theorem SR.setOwn (S : SR K F0 B F H σ δ) {i : Nat} {a : Addr} {ds : List D} {xs : List V} (hB : B a = none) (hF : F a = none) (hh : ∀ j, j ≠ i → slAt (gt δ j) ≠ some a) (r : RpL K F ds xs)
    (e : H' = upd H a (.lst xs)) : SR K F0 B F H' (σ.set i (some (.ref a))) (st δ i (.own a ds)) := by
  subst e
  have S' := S.upd1 (i := i) (o := .lst xs) hB hF hh
  have nn : ∀ {j}, j ≠ i → gt (st δ i .no) j = gt δ j := fun hj => gt_st_ne hj
  refine ⟨S'.ext, by rw [List.length_set, st_len]; exact S.len, fun j d h => ?_, fun j b es h => ?_, fun j b k m h => ?_, fun j k b h1 h2 => ?_, S.tb⟩
  · obtain ⟨hj, h⟩ := gt_stN (by simp) (by simp) h
    obtain ⟨w, h1, h2⟩ := S'.val j d ((nn hj).trans h)
    exact ⟨w, by rw [List.getElem?_set_ne (Ne.symm hj)]; exact h1, h2⟩
  · by_cases hj : j = i
    · subst hj
      obtain ⟨hl, h⟩ := gt_stY (by simp) h
      cases h
      exact ⟨by rw [List.getElem?_set_self (by rw [S.len]; exact hl)], hB, hF, xs, upd_same, r⟩
    · rw [gt_st_ne hj] at h
      obtain ⟨h1, h2⟩ := S'.own j b es ((nn hj).trans h)
      exact ⟨by rw [List.getElem?_set_ne (Ne.symm hj)]; exact h1, h2⟩
  · obtain ⟨hj, h⟩ := gt_stN (by simp) (by simp) h
    obtain ⟨h1, h2⟩ := S'.dc j b k m ((nn hj).trans h)
    exact ⟨by rw [List.getElem?_set_ne (Ne.symm hj)]; exact h1, h2⟩
  · exact nd_set S.nd hh h1 h2
theorem SR.setDic (S : SR K F0 B F H σ δ) {i : Nat} {a : Addr} {k : Bool} {kvs : List (D × D)} {o : HO} (hB : B a = none) (hF : F a = none) (hh : ∀ j, j ≠ i → slAt (gt δ j) ≠ some a) (r : DicAt K F (upd H a o) a k kvs)
    (e : H' = upd H a o) : SR K F0 B F H' (σ.set i (some (.ref a))) (st δ i (.dic a k kvs)) := by
  subst e
  have S' := S.upd1 (i := i) (o := o) hB hF hh
  have nn : ∀ {j}, j ≠ i → gt (st δ i .no) j = gt δ j := fun hj => gt_st_ne hj
  refine ⟨S'.ext, by rw [List.length_set, st_len]; exact S.len, fun j d h => ?_, fun j b es h => ?_, fun j b k m h => ?_, fun j k b h1 h2 => ?_, S.tb⟩
  · obtain ⟨hj, h⟩ := gt_stN (by simp) (by simp) h
    obtain ⟨w, h1, h2⟩ := S'.val j d ((nn hj).trans h)
    exact ⟨w, by rw [List.getElem?_set_ne (Ne.symm hj)]; exact h1, h2⟩
  · obtain ⟨hj, h⟩ := gt_stN (by simp) (by simp) h
    obtain ⟨h1, h2⟩ := S'.own j b es ((nn hj).trans h)
    exact ⟨by rw [List.getElem?_set_ne (Ne.symm hj)]; exact h1, h2⟩
  · by_cases hj : j = i
    · subst hj
      obtain ⟨hl, h⟩ := gt_stY (by simp) h
      cases h
      exact ⟨by rw [List.getElem?_set_self (by rw [S.len]; exact hl)], hB, hF, r⟩
    · rw [gt_st_ne hj] at h
      obtain ⟨h1, h2⟩ := S'.dc j b k m ((nn hj).trans h)
      exact ⟨by rw [List.getElem?_set_ne (Ne.symm hj)]; exact h1, h2⟩
  · exact nd_set S.nd hh h1 h2
theorem SR.free {a : Addr} (S : SR K F0 B F H σ δ) (h : H a = none) : B a = none ∧ F a = none ∧ ∀ j, slAt (gt δ j) ≠ some a :=
  ⟨S.ext.h.free h, S.ext.s.free h, fun j q => by
    cases e : gt δ j with
    | own b es =>
      rw [e] at q; cases q
      obtain ⟨_, _, _, xs, h4, _⟩ := S.own j a es e
      rw [h] at h4; cases h4
    | dic b k m =>
      rw [e] at q; cases q
      obtain ⟨_, _, _, h4⟩ := S.dc j a k m e
      obtain ⟨o, h5, _⟩ := h4.ob
      rw [h] at h5; cases h5
    | _ => rw [e] at q; cases q⟩
theorem SR.frzI (S : SR K F0 B F H σ δ) {i : Nat} {a : Addr} {ds : List D} {xs : List V} (h : gt δ i = .own a ds) (h4 : H a = some (.lst xs)) (h5 : RpL K F ds xs) : Ext F0 B (upd F a (.lst xs)) H ∧ Same F (upd F a (.lst xs)) ∧ SR K F0 B (upd F a (.lst xs)) H σ (st δ i (.val (.lst ds))) := by
  obtain ⟨h1, h2, h3, _⟩ := S.own i a ds h
  have sF : Same F (upd F a (.lst xs)) := upd_same_of h3
  have X : Ext F0 B (upd F a (.lst xs)) H := by
    refine ⟨S.ext.f.trans sF, S.ext.h, fun b o q => ?_, fun b q1 q2 => ?_⟩
    · by_cases hb : b = a
      · subst hb; rw [upd_same] at q; cases q; exact h4
      · rw [upd_ne hb] at q; exact S.ext.s b o q
    · have : b ≠ a := fun z => q1 (z ▸ h2)
      rw [upd_ne this]; exact S.ext.n b q1 q2
  refine ⟨X, sF, X, by rw [st_len]; exact S.len, fun j d q => ?_, fun j b es q => ?_, fun j b k m q => ?_, fun j k b q1 q2 => S.nd j k b (at_st rfl q1) (at_st rfl q2), S.tb⟩
  · by_cases hj : j = i
    · subst hj
      obtain ⟨hl, q⟩ := gt_stY (by simp) q
      cases q
      exact ⟨_, h1, .lst (.of upd_same) (h5.mono sF)⟩
    · rw [gt_st_ne hj] at q
      obtain ⟨w, r1, r2⟩ := S.val j d q
      exact ⟨w, r1, r2.mono sF⟩
  · obtain ⟨hj, q⟩ := gt_stN (by simp) (by simp) q
    obtain ⟨r1, r2, r3, ys, r4, r5⟩ := S.own j b es q
    have hb : b ≠ a := fun z => hj (S.nd j i a (z ▸ at_own q) (at_own h))
    exact ⟨r1, r2, by rw [upd_ne hb]; exact r3, ys, r4, r5.mono sF⟩
  · obtain ⟨hj, q⟩ := gt_stN (by simp) (by simp) q
    obtain ⟨r1, r2, r3, r4⟩ := S.dc j b k m q
    have hb : b ≠ a := fun z => hj (S.nd j i a (z ▸ at_dic q) (at_own h))
    exact ⟨r1, r2, by rw [upd_ne hb]; exact r3, r4.obj sF fun o z _ _ => z⟩
/-- a slot's list is given up: it never changes from now on -/
theorem SR.frz (S : SR K F0 B F H σ δ) (i : Nat) : ∃ F', Ext F0 B F' H ∧ Same F F' ∧ SR K F0 B F' H σ (frz1 δ i) := by
  unfold frz1
  by_cases hs : ∃ a ds, gt δ i = .own a ds
  · obtain ⟨a, ds, h⟩ := hs
    rw [show frzS (gt δ i) = .val (.lst ds) by rw [h]; rfl]
    obtain ⟨h1, h2, h3, xs, h4, h5⟩ := S.own i a ds h
    exact ⟨_, S.frzI h h4 h5⟩
  · have e : frzS (gt δ i) = gt δ i := by
      cases q : gt δ i with
      | own a ds => exact absurd ⟨a, ds, q⟩ hs
      | _ => rfl
    rw [e, st_gt]
    exact ⟨F, S.ext, .refl _, S⟩
end
end PL

set_option Elab.async false
set_option linter.all false
set_option maxRecDepth 100000
namespace PL
variable [Tabs]
open PySem PySem.Spec PyProof.Rows L2

/-! ### the pure transformers as readings -/
def lft (K : PySem.W.Frag) (t : Ex) : TE := fun σ H Q => ∃ F0 B F δ Qd, SR K F0 B F H σ δ ∧ t δ Qd ∧ ∀ v F' H' d, Ext F H F' H' → Rp K F' d v → Qd d → Q v H'
def lftT (K : PySem.W.Frag) (t : Ts) : TT := fun σ H Q => ∃ F0 B F δ Qd, SR K F0 B F H σ δ ∧ t δ Qd ∧ ∀ b F' H', Ext F H F' H' → Qd b → Q b H'
def lftA (K : PySem.W.Frag) (t : Ar) : TA := fun σ H Q => ∃ F0 B F δ Qd, SR K F0 B F H σ δ ∧ t δ Qd ∧ ∀ vs F' H' ds, Ext F H F' H' → RpL K F' ds vs → Qd ds → Q vs H'
theorem imp_PE {X : Cx} {e : Expr} {t t' : TE} (h : PE X e t) (i : ∀ σ H Q, t' σ H Q → t σ H Q) : PE X e t' := ⟨fun pins s σ H Q I hq => h.run pins s σ H Q I (i _ _ _ hq)⟩
theorem imp_PT {X : Cx} {e : Expr} {t t' : TT} (h : PT X e t) (i : ∀ σ H Q, t' σ H Q → t σ H Q) : PT X e t' := ⟨fun pins s σ H Q I hq => h.run pins s σ H Q I (i _ _ _ hq)⟩
theorem imp_PW {X : Cx} {e : Expr} {t t' : TT} (h : PW X e t) (i : ∀ σ H Q, t' σ H Q → t σ H Q) : PW X e t' := ⟨fun wh pins s σ H Q I hq => h.run wh pins s σ H Q I (i _ _ _ hq)⟩
theorem imp_PA {X : Cx} {e : List Expr} {t t' : TA} (h : PA X e t) (i : ∀ σ H Q, t' σ H Q → t σ H Q) : PA X e t' := ⟨fun pos pins s σ H Q I hq => h.run pos pins s σ H Q I (i _ _ _ hq)⟩
theorem imp_PS {X : Cx} {e : Stmt} {t t' : TS} (h : PS X e t) (i : ∀ D σ H, t' D σ H → t D σ H) : PS X e t' := ⟨fun pins s σ H Q I hq => h.run pins s σ H Q I (i _ _ _ hq)⟩
theorem imp_PSs {X : Cx} {e : List Stmt} {t t' : TS} (h : PSs X e t) (i : ∀ D σ H, t' D σ H → t D σ H) : PSs X e t' := ⟨fun pins s σ H Q I hq => h.run pins s σ H Q I (i _ _ _ hq)⟩

abbrev QE (X : Cx) (e : Expr) (t : Ex) : Prop := PE X e (lft X.K t)
abbrev QT (X : Cx) (e : Expr) (t : Ts) : Prop := PT X e (lftT X.K t)
abbrev QW (X : Cx) (e : Expr) (t : Ts) : Prop := PW X e (lftT X.K t)
abbrev QA (X : Cx) (es : List Expr) (t : Ar) : Prop := PA X es (lftA X.K t)

/-! by values -/
def V2 (K : PySem.W.Frag) (r : R2) (p : Op2) : Prop := ∀ F H x y v u Qd Q, Same F H → Rp K F x v → Rp K F y u → p x y Qd → (∀ w F' H' d, Ext F H F' H' → Rp K F' d w → Qd d → Q w H') → r v u H Q
def V1 (K : PySem.W.Frag) (r : V → Hp → VK → Prop) (p : Op1) : Prop := ∀ F H x v Qd Q, Same F H → Rp K F x v → p x Qd → (∀ w F' H' d, Ext F H F' H' → Rp K F' d w → Qd d → Q w H') → r v H Q
def VC (K : PySem.W.Frag) (r : List V → Hp → VK → Prop) (p : Pm) : Prop := ∀ F H ds vs Qd Q, Same F H → RpL K F ds vs → p ds Qd → (∀ w F' H' d, Ext F H F' H' → Rp K F' d w → Qd d → Q w H') → r vs H Q

section
variable {K : PySem.W.Frag} {ta tb : Ex}
theorem lft2 {r : R2} {p : Op2} (hp : V2 K r p) {σ : L2.St} {H : Hp} {Q : VK} (h : lft K (e2 p ta tb) σ H Q) : tOp r (lft K ta) (lft K tb) σ H Q := by
  obtain ⟨F0, B, F, δ, Qd, S, h, k⟩ := h
  exact ⟨F0, B, F, δ, _, S, h, fun v F1 H1 x x1 r1 q1 => ⟨F0, B, F1, δ, _, S.mono x1, q1, fun u F2 H2 y x2 r2 q2 =>
    hp F2 H2 x y v u Qd Q x2.s (r1.mono x2.f) r2 q2 fun w F' H' d x3 r3 q3 => k w F' H' d ((x1.trans x2).trans x3) r3 q3⟩⟩
end

section
variable {X : Cx} {a b c e : Expr} {es rest : List Expr} {ta tb tc : Ex} {sa sb : Ts} {pos : Pos}
theorem q_var (i : Nat) {x : Str} {pos : Pos} (hN : X.N[i]? = some x := by rfl) (hv : Vis X.env.scope x := by first | exact Or.inl rfl | exact Or.inr (Or.inl rfl) | exact Or.inr (Or.inr rfl)) (hd : (x == ("__debug__" : Str)) = false := by decide)
    (hcd : (x == ("__classdict__" : Str)) = false := by decide) : QE X (.Name x pos) (eVar i) := by
  refine imp_PE (pv i hN hv hd hcd) fun σ H Q h => ?_
  obtain ⟨F0, B, F, δ, Qd, S, h, k⟩ := h
  unfold eVar asVal at h
  split at h
  · rename_i d e
    obtain ⟨v, h1, h2⟩ := S.val i d e
    exact ⟨v, h1, k v F H d (.refl S.ext.s) h2 h⟩
  · exact h.elim
theorem lftC {K : PySem.W.Frag} {d : D} {v : V} (r : ∀ F, Rp K F d v) {σ : L2.St} {H : Hp} {Q : VK} (h : lft K (eC d) σ H Q) : tC v σ H Q := by
  obtain ⟨F0, B, F, δ, Qd, S, h, k⟩ := h
  exact k v F H d (.refl S.ext.s) (r F) h
theorem q_int {i j pos} : QE X (.Constant (.int i) j pos) (eC (.int i)) := imp_PE pe_int fun _ _ _ => lftC fun _ => .int i
theorem q_bl {i j pos} : QE X (.Constant (.bool i) j pos) (eC (.bl i)) := imp_PE pe_bl fun _ _ _ => lftC fun _ => .bl i
theorem q_non {j pos} : QE X (.Constant .none j pos) (eC .non) := imp_PE pe_non fun _ _ _ => lftC fun _ => .non
theorem q_str {x j pos} : QE X (.Constant (.str x) j pos) (eC (.str x)) := imp_PE pe_str fun _ _ _ => lftC fun _ => .str x

theorem q_op {op : Operator} {r : R2} {p : Op2} (ho : OpR X (binaryOp op) r ∧ V2 X.K r p) (ha : QE X a ta) (hb : QE X b tb) : QE X (.BinOp a op b pos) (e2 p ta tb) :=
  imp_PE (pe_op ho.1 ha hb) fun _ _ _ h => lft2 ho.2 h
theorem q_un {op : UnaryOp} {r : V → Hp → VK → Prop} {p : Op1} (ho : UnR X (unaryOp op) r ∧ V1 X.K r p) (ha : QE X a ta) : QE X (.UnaryOp op a pos) (e1 p ta) :=
  imp_PE (pe_un ho.1 ha) fun σ H Q h => by
    obtain ⟨F0, B, F, δ, Qd, S, h, k⟩ := h
    exact ⟨F0, B, F, δ, _, S, h, fun v F1 H1 x x1 r1 q1 => ho.2 F1 H1 x v Qd Q x1.s r1 q1 fun w F' H' d x3 r3 q3 => k w F' H' d (x1.trans x3) r3 q3⟩
theorem q_cmp {op : CmpOp} {r : R2} {p : Op2} (ho : OpR X (compareOp op) r ∧ V2 X.K r p) (ha : QE X a ta) (hb : QE X b tb) (hm : behindInMarks op b = false) : QE X (.Compare a [op] [b] pos) (e2 p ta tb) :=
  imp_PE (pe_cmpR ho.1 ha hb hm) fun _ _ _ h => lft2 ho.2 h
theorem lftB {K : PySem.W.Frag} {t : Ex} {σ : L2.St} {H : Hp} {Q : Bool → Hp → Prop} (h : lftT K (tB t) σ H Q) : tTest (lft K t) σ H Q := by
  obtain ⟨F0, B, F, δ, Qd, S, h, k⟩ := h
  refine ⟨F0, B, F, δ, _, S, h, fun v F1 H1 x x1 r1 q1 => ?_⟩
  cases x with
  | bl b => exact ⟨b, r1.blI, k b F1 H1 x1 q1⟩
  | _ => exact q1.elim
theorem tTest_imp {t t' : TE} (i : ∀ σ H Q, t' σ H Q → t σ H Q) {σ : L2.St} {H : Hp} {Q : Bool → Hp → Prop} (h : tTest t' σ H Q) : tTest t σ H Q := i _ _ _ h
theorem q_cmpT {op : CmpOp} {r : R2} {p : Op2} (ho : OpR X (compareOp op) r ∧ V2 X.K r p) (ha : QE X a ta) (hb : QE X b tb) (hm : behindInMarks op b = false) : QT X (.Compare a [op] [b] pos) (tB (e2 p ta tb)) :=
  imp_PT (pt_cmpR ho.1 ha hb hm) fun _ _ _ h => tTest_imp (fun _ _ _ => lft2 ho.2) (lftB h)
/-- is None -/
theorem q_isN {j pos'} (ha : QE X a ta) : QE X (.Compare a [.Is] [.Constant .none j pos'] pos) (oIsN ta) :=
  imp_PE (pe_cmp (pc_isN ha)) fun σ H Q h => by
    obtain ⟨F0, B, F, δ, Qd, S, h, k⟩ := h
    refine ⟨F0, B, F, δ, _, S, h, fun v F1 H1 x x1 r1 q1 => ?_⟩
    refine k _ F1 H1 _ x1 ?_ q1
    have e : decide (v = .non) = decide (x = .non) := by
      cases x <;> (simp only [Rp] at r1) <;> first | (subst r1; simp) | (obtain ⟨a, xs, rfl, _⟩ := r1; simp)
    rw [e]; exact .bl _
theorem q_notN {j pos'} (ha : QE X a ta) : QE X (.Compare a [.IsNot] [.Constant .none j pos'] pos) (oNotN ta) :=
  imp_PE (pe_cmp (pc_notN ha)) fun σ H Q h => by
    obtain ⟨F0, B, F, δ, Qd, S, h, k⟩ := h
    refine ⟨F0, B, F, δ, _, S, h, fun v F1 H1 x x1 r1 q1 => ?_⟩
    refine k _ F1 H1 _ x1 ?_ q1
    have e : decide (v = .non) = decide (x = .non) := by
      cases x <;> (simp only [Rp] at r1) <;> first | (subst r1; simp) | (obtain ⟨a, xs, rfl, _⟩ := r1; simp)
    rw [e]; exact .bl _
theorem q_isNT {j pos'} (ha : QE X a ta) : QT X (.Compare a [.Is] [.Constant .none j pos'] pos) (tB (oIsN ta)) :=
  imp_PT (pt_cmp (pc_isN ha)) fun σ H Q h => by
    obtain ⟨F0, B, F, δ, Qd, S, h, k⟩ := h
    refine ⟨F0, B, F, δ, _, S, h, fun v F1 H1 x x1 r1 q1 => ?_⟩
    have e : decide (v = .non) = decide (x = .non) := by
      cases x <;> (simp only [Rp] at r1) <;> first | (subst r1; simp) | (obtain ⟨a, xs, rfl, _⟩ := r1; simp)
    exact ⟨_, rfl, by rw [e]; exact k _ F1 H1 x1 q1⟩
theorem q_notNT {j pos'} (ha : QE X a ta) : QT X (.Compare a [.IsNot] [.Constant .none j pos'] pos) (tB (oNotN ta)) :=
  imp_PT (pt_cmp (pc_notN ha)) fun σ H Q h => by
    obtain ⟨F0, B, F, δ, Qd, S, h, k⟩ := h
    refine ⟨F0, B, F, δ, _, S, h, fun v F1 H1 x x1 r1 q1 => ?_⟩
    have e : decide (v = .non) = decide (x = .non) := by
      cases x <;> (simp only [Rp] at r1) <;> first | (subst r1; simp) | (obtain ⟨a, xs, rfl, _⟩ := r1; simp)
    exact ⟨_, rfl, by rw [e]; exact k _ F1 H1 x1 q1⟩

theorem lftChain {K : PySem.W.Frag} {r r' : R2} {p q : Op2} (hp : V2 K r p) (hq : V2 K r' q) {σ : L2.St} {H : Hp} {Q : VK} (h : lft K (eChn p q ta tb tc) σ H Q) : tChain r r' (lft K ta) (lft K tb) (lft K tc) σ H Q := by
  obtain ⟨F0, B, F, δ, Qd, S, h, k⟩ := h
  refine ⟨F0, B, F, δ, _, S, h, fun v F1 H1 x x1 r1 q1 => ⟨F0, B, F1, δ, _, S.mono x1, q1, fun u F2 H2 y x2 r2 q2 =>
    hp F2 H2 x y v u _ _ x2.s (r1.mono x2.f) r2 q2 fun w F3 H3 d x3 r3 q3 => ?_⟩⟩
  cases d with
  | bl c =>
    refine ⟨c, r3.blI, ?_⟩
    cases c with
    | true =>
      have q3 : tc δ fun w => q y w Qd := by simpa [asB] using q3
      exact ⟨F0, B, F3, δ, _, S.mono ((x1.trans x2).trans x3), q3, fun w' F4 H4 z x4 r4 q4 => hq F4 H4 y z u w' Qd Q x4.s (r2.mono (x3.f.trans x4.f)) r4 q4 fun w F' H' d x5 r5 q5 =>
        k w F' H' d ((((x1.trans x2).trans x3).trans x4).trans x5) r5 q5⟩
    | false =>
      have q3 : Qd (.bl false) := by simpa [asB] using q3
      exact k _ F3 H3 _ ((x1.trans x2).trans x3) (.bl false) q3
  | _ => exact q3.elim
theorem q_chn {op op' : CmpOp} {r r' : R2} {p q : Op2} (ho : OpR X (compareOp op) r ∧ V2 X.K r p) (ho' : OpR X (compareOp op') r' ∧ V2 X.K r' q) (ha : QE X a ta) (hb : QE X b tb) (hc : QE X c tc)
    (hm : lastMarks [op, op'] [b, c] = false := by with_unfolding_all rfl) : QE X (.Compare a [op, op'] [b, c] pos) (eChn p q ta tb tc) :=
  imp_PE (pe_chain ho.1 ho'.1 ha hb hc hm) fun _ _ _ h => lftChain ho.2 ho'.2 h
theorem q_chnT {op op' : CmpOp} {r r' : R2} {p q : Op2} (ho : OpR X (compareOp op) r ∧ V2 X.K r p) (ho' : OpR X (compareOp op') r' ∧ V2 X.K r' q) (ha : QE X a ta) (hb : QE X b tb) (hc : QE X c tc)
    (hm : lastMarks [op, op'] [b, c] = false := by with_unfolding_all rfl) : QT X (.Compare a [op, op'] [b, c] pos) (tB (eChn p q ta tb tc)) :=
  imp_PT (pt_chain ho.1 ho'.1 ha hb hc hm) fun _ _ _ h => tTest_imp (fun _ _ _ => lftChain ho.2 ho'.2) (lftB h)

/-! truth -/
theorem tru_of {K : PySem.W.Frag} {F H : Hp} {x : D} {v : V} {Qd : Bool → Prop} (s : Same F H) (r : Rp K F x v) (h : truD x Qd) : ∃ k, TruV K v H k ∧ Qd k := by
  cases x with
  | non => cases r.nonI; exact ⟨false, rfl, h⟩
  | bl b => cases r.blI; exact ⟨b, rfl, h⟩
  | int i => cases r.intI; exact ⟨_, rfl, h⟩
  | str x => cases r.strI; exact ⟨_, ⟨by have := h.1; rw [sizeLine_eq]; exact this, rfl⟩, h.2⟩
  | tup xs =>
    obtain ⟨a, vs, rfl, h1, h2⟩ := r.tupI
    refine ⟨_, .inr (.inl ⟨vs, sameT s h1, rfl⟩), ?_⟩
    have e : vs.isEmpty = xs.isEmpty := by
      have := h2.len
      cases vs <;> cases xs <;> simp at this ⊢
    rw [e]; exact h
  | lst xs =>
    obtain ⟨a, vs, rfl, h1, h2⟩ := r.lstI
    refine ⟨_, .inl ⟨vs, s.seq h1, rfl⟩, ?_⟩
    have e : vs.isEmpty = xs.isEmpty := by
      have := h2.len
      cases vs <;> cases xs <;> simp at this ⊢
    rw [e]; exact h
theorem q_tru (ha : QE X a ta) (he : ∀ whole, isTrue a X.env whole = (do let v ← whole; standAt a.pos; holding [v] (truthy v)) := by intro _; rfl) : QT X a (tTru ta) :=
  imp_PT (pt_truth ha he) fun σ H Q h => by
    obtain ⟨F0, B, F, δ, Qd, S, h, k⟩ := h
    refine ⟨F0, B, F, δ, _, S, h, fun v F1 H1 x x1 r1 q1 => ?_⟩
    obtain ⟨c, h1, h2⟩ := tru_of x1.s r1 q1
    exact ⟨c, h1, k c F1 H1 x1 h2⟩
theorem q_and1 (ha : QT X a sa) : QW X (.BoolOp .And [a] pos) sa := pw_and1 ha
theorem q_or1 (ha : QT X a sa) : QW X (.BoolOp .Or [a] pos) sa := pw_or1 ha
theorem q_and (ha : QT X a sa) (hb : QW X (.BoolOp .And (b :: rest) pos) sb) : QW X (.BoolOp .And (a :: b :: rest) pos) (tAnd sa sb) :=
  imp_PW (pw_and ha hb) fun σ H Q h => by
    obtain ⟨F0, B, F, δ, Qd, S, h, k⟩ := h
    refine ⟨F0, B, F, δ, _, S, h, fun c F1 H1 x1 q1 => ?_⟩
    cases c with
    | true =>
      have q1 : sb δ Qd := by simpa using q1
      exact iteT ⟨F0, B, F1, δ, _, S.mono x1, q1, fun b F' H' x2 q2 => k b F' H' (x1.trans x2) q2⟩
    | false =>
      have q1 : Qd false := by simpa using q1
      exact iteF (k false F1 H1 x1 q1)
theorem q_or (ha : QT X a sa) (hb : QW X (.BoolOp .Or (b :: rest) pos) sb) : QW X (.BoolOp .Or (a :: b :: rest) pos) (tOr sa sb) :=
  imp_PW (pw_or ha hb) fun σ H Q h => by
    obtain ⟨F0, B, F, δ, Qd, S, h, k⟩ := h
    refine ⟨F0, B, F, δ, _, S, h, fun c F1 H1 x1 q1 => ?_⟩
    cases c with
    | true =>
      have q1 : Qd true := by simpa using q1
      exact iteT (k true F1 H1 x1 q1)
    | false =>
      have q1 : sb δ Qd := by simpa using q1
      exact iteF ⟨F0, B, F1, δ, _, S.mono x1, q1, fun b F' H' x2 q2 => k b F' H' (x1.trans x2) q2⟩
theorem q_wt (h : QW X a sa) : QT X a sa := h.pt
theorem q_notT (ha : QT X a sa) : QT X (.UnaryOp .Not a pos) (tNot sa) :=
  imp_PT (pt_not ha) fun σ H Q h => by
    obtain ⟨F0, B, F, δ, Qd, S, h, k⟩ := h
    exact ⟨F0, B, F, δ, _, S, h, fun c F1 H1 x1 q1 => k _ F1 H1 x1 q1⟩
theorem q_not (ha : QE X a ta) : QE X (.UnaryOp .Not a pos) (eNot ta) :=
  imp_PE (pe_notT ha) fun σ H Q h => by
    obtain ⟨F0, B, F, δ, Qd, S, h, k⟩ := h
    refine ⟨F0, B, F, δ, _, S, h, fun v F1 H1 x x1 r1 q1 => ?_⟩
    obtain ⟨c, h1, h2⟩ := tru_of x1.s r1 q1
    exact ⟨c, h1, k _ F1 H1 _ x1 (.bl _) h2⟩
theorem q_one {op} (h : QE X a ta) : QE X (.BoolOp op [a] pos) ta := pe_one h
theorem q_andV (ha : QE X a ta) (hb : QE X (.BoolOp .And (b :: rest) pos) tb) : QE X (.BoolOp .And (a :: b :: rest) pos) (eAnd ta tb) :=
  imp_PE (pe_and ha hb) fun σ H Q h => by
    obtain ⟨F0, B, F, δ, Qd, S, h, k⟩ := h
    refine ⟨F0, B, F, δ, _, S, h, fun v F1 H1 x x1 r1 q1 => ?_⟩
    cases x with
    | bl c =>
      refine ⟨c, r1.blI, ?_⟩
      cases c with
      | true =>
        have q1 : tb δ Qd := by simpa [asB] using q1
        exact iteT ⟨F0, B, F1, δ, _, S.mono x1, q1, fun b F' H' d x2 r2 q2 => k b F' H' d (x1.trans x2) r2 q2⟩
      | false =>
        have q1 : Qd (.bl false) := by simpa [asB] using q1
        exact iteF (k _ F1 H1 _ x1 (.bl false) q1)
    | _ => exact q1.elim
theorem q_orV (ha : QE X a ta) (hb : QE X (.BoolOp .Or (b :: rest) pos) tb) : QE X (.BoolOp .Or (a :: b :: rest) pos) (eOr ta tb) :=
  imp_PE (pe_or ha hb) fun σ H Q h => by
    obtain ⟨F0, B, F, δ, Qd, S, h, k⟩ := h
    refine ⟨F0, B, F, δ, _, S, h, fun v F1 H1 x x1 r1 q1 => ?_⟩
    cases x with
    | bl c =>
      refine ⟨c, r1.blI, ?_⟩
      cases c with
      | true =>
        have q1 : Qd (.bl true) := by simpa [asB] using q1
        exact iteT (k _ F1 H1 _ x1 (.bl true) q1)
      | false =>
        have q1 : tb δ Qd := by simpa [asB] using q1
        exact iteF ⟨F0, B, F1, δ, _, S.mono x1, q1, fun b F' H' d x2 r2 q2 => k b F' H' d (x1.trans x2) r2 q2⟩
    | _ => exact q1.elim
theorem q_if (hc : QT X c sa) (ha : QE X a ta) (hb : QE X b tb) : QE X (.IfExp c a b pos) (eIf sa ta tb) :=
  imp_PE (pe_ifExp hc ha hb) fun σ H Q h => by
    obtain ⟨F0, B, F, δ, Qd, S, h, k⟩ := h
    refine ⟨F0, B, F, δ, _, S, h, fun c F1 H1 x1 q1 => ?_⟩
    cases c with
    | true =>
      have q1 : ta δ Qd := by simpa using q1
      exact iteT ⟨F0, B, F1, δ, _, S.mono x1, q1, fun b F' H' d x2 r2 q2 => k b F' H' d (x1.trans x2) r2 q2⟩
    | false =>
      have q1 : tb δ Qd := by simpa using q1
      exact iteF ⟨F0, B, F1, δ, _, S.mono x1, q1, fun b F' H' d x2 r2 q2 => k b F' H' d (x1.trans x2) r2 q2⟩

/-! arguments -/
theorem qa_nil : QA X [] aNil := imp_PA pa_nil fun σ H Q h => by
  obtain ⟨F0, B, F, δ, Qd, S, h, k⟩ := h
  exact k [] F H [] (.refl S.ext.s) .nil h
theorem qa_cons {r : Ar} (ha : QE X e ta) (hr : QA X es r) (hs : starEach (e :: es) X.env = (false, eval e X.env) :: starEach es X.env := by rfl) : QA X (e :: es) (aCons ta r) :=
  imp_PA (pa_cons ha hr hs) fun σ H Q h => by
    obtain ⟨F0, B, F, δ, Qd, S, h, k⟩ := h
    exact ⟨F0, B, F, δ, _, S, h, fun v F1 H1 x x1 r1 q1 => ⟨F0, B, F1, δ, _, S.mono x1, q1, fun vs F2 H2 ds x2 r2 q2 => k _ F2 H2 _ (x1.trans x2) (.cons (r1.mono x2.f) r2) q2⟩⟩
theorem line_eq : (sizeLine : Nat) = maxLen := sizeLine_eq
theorem q_tup {x1} {t : Ar} (h : QA X es t) : QE X (.Tuple es x1 pos) (eTup t) :=
  imp_PE (pe_tup h) fun σ H Q h => by
    obtain ⟨F0, B, F, δ, Qd, S, h, k⟩ := h
    refine ⟨F0, B, F, δ, _, S, h, fun vs F1 H1 ds x1 r1 q1 => ⟨by rw [line_eq, r1.len]; exact q1.1, fun p hp => ?_⟩⟩
    have x2 : Ext F1 H1 (upd F1 p (.tup vs)) (upd H1 p (.tup vs)) := Ext.new x1.s hp
    exact k _ _ _ _ (x1.trans x2) (.tup upd_same (r1.mono x2.f)) q1.2

/-! calls of what is built in -/
theorem lftCall {K : PySem.W.Frag} {r : List V → Hp → VK → Prop} {p : Pm} {t : Ar} (hp : VC K r p) {σ : L2.St} {H : Hp} {Q : VK} (h : lft K (eCall p t) σ H Q) : tCB r (lftA K t) σ H Q := by
  obtain ⟨F0, B, F, δ, Qd, S, h, k⟩ := h
  exact ⟨F0, B, F, δ, _, S, h, fun vs F1 H1 ds x1 r1 q1 => hp F1 H1 ds vs Qd Q x1.s r1 q1 fun w F' H' d x2 r2 q2 => k w F' H' d (x1.trans x2) r2 q2⟩
theorem q_callB {x : Str} {p : Pos} {id : String} {r : List V → Hp → VK → Prop} {pm : Pm} {t : Ar} (hc : CallR X (.builtin id) r ∧ VC X.K r pm) (hg : Gl X x) (hm : X.mg x = none) (hv : bootBuiltins x = some (.builtin id)) (ha : QA X (e :: es) t) (hn : x ≠ "__name__" := by decide) (hdb : (x == ("__debug__" : Str)) = false := by decide)
    (he : starEach (e :: es) X.env = (false, eval e X.env) :: starEach es X.env := by rfl) (hpl : (backTo pos (starEach es X.env)).any (·.1) = false := by rfl) : QE X (.Call (.Name x p) (e :: es) [] pos) (eCall pm t) :=
  imp_PE (pe_callB hc.1 hg hm hv ha hn hdb he hpl) fun _ _ _ h => lftCall hc.2 h
theorem q_callTy {x : Str} {p : Pos} {T : String} {r : List V → Hp → VK → Prop} {pm : Pm} {t : Ar} (hc : CallR X (.type T) r ∧ VC X.K r pm) (hg : Gl X x) (hm : X.mg x = none) (hv : bootBuiltins x = some (.type T)) (ha : QA X (e :: es) t) (hn : x ≠ "__name__" := by decide) (hdb : (x == ("__debug__" : Str)) = false := by decide)
    (he : starEach (e :: es) X.env = (false, eval e X.env) :: starEach es X.env := by rfl) (hpl : (backTo pos (starEach es X.env)).any (·.1) = false := by rfl) : QE X (.Call (.Name x p) (e :: es) [] pos) (eCall pm t) :=
  imp_PE (pe_callTy hc.1 hg hm hv ha hn hdb he hpl) fun _ _ _ h => lftCall hc.2 h
end

/-! ### what a def promises -/
/-- F stands in H, and so do the tables, not in F -/
structure SameT (F H : Hp) : Prop where
  s : Same F H
  t : TbOk F H
def lsp (K : PySem.W.Frag) (p : Pm) : Sp := fun vs H Q _ => ∃ F ds Qd, SameT F H ∧ RpL K F ds vs ∧ p ds Qd ∧ ∀ v F' H' d, Ext F H F' H' → Rp K F' d v → Qd d → Q v H'
section
variable {X : Cx} {e : Expr} {es : List Expr} {pos p : Pos} {x : Str} {k : Nat} {f : Addr} {fd : FuncData} {ps : List Str} {pm : Pm} {t : Ar}
theorem q_call (F : FnOk X.prog X.w X.K X.mg X.base CX0 k f fd ps (lsp X.K pm)) (hr : Room k X.A) (hm : X.mg x = some (.ref f)) (hk : PySem.W.keepIn X.K (.ref f) = true) (hb : Binds X.K fd ps []) (ha : QA X (e :: es) t) (hg : Gl X x := by rfl)
    (hdb : (x == ("__debug__" : Str)) = false := by decide) (he : starEach (e :: es) X.env = (false, eval e X.env) :: starEach es X.env := by rfl) (hpl : (backTo pos (starEach es X.env)).any (·.1) = false := by rfl) :
    QE X (.Call (.Name x p) (e :: es) [] pos) (eCall pm t) :=
  imp_PE (pe_call (E := E0) F hr hg hm hk hb .nil pass0 ha hdb he hpl) fun σ H Q h => by
    obtain ⟨F0, B, F, δ, Qd, S, h, k⟩ := h
    refine ⟨F0, B, F, δ, _, S, h, fun vs F1 H1 ds x1 r1 q1 => ?_⟩
    show lsp X.K pm (vs ++ []) H1 Q E0
    rw [List.append_nil]
    exact ⟨F1, ds, Qd, ⟨x1.s, (S.tb.mono S.ext).mono x1⟩, r1, q1, fun v F' H' d x2 r2 q2 => k v F' H' d (x1.trans x2) r2 q2⟩
theorem q_call0 (F : FnOk X.prog X.w X.K X.mg X.base CX0 k f fd ps (lsp X.K pm)) (hr : Room k X.A) (hm : X.mg x = some (.ref f)) (hk : PySem.W.keepIn X.K (.ref f) = true) (hb : Binds X.K fd ps []) (hg : Gl X x := by rfl)
    (hdb : (x == ("__debug__" : Str)) = false := by decide) : QE X (.Call (.Name x p) [] [] pos) (eCall pm aNil) :=
  imp_PE (pe_call0 (E := E0) F hr hg hm hk hb .nil pass0 hdb) fun σ H Q h => by
    obtain ⟨F0, B, F, δ, Qd, S, h, k⟩ := h
    exact ⟨F, [], Qd, ⟨S.ext.s, S.tb.mono S.ext⟩, .nil, h, fun v F' H' d x2 r2 q2 => k v F' H' d x2 r2 q2⟩
end
end PL

set_option Elab.async false
set_option linter.all false
set_option maxRecDepth 100000
namespace PL
variable [Tabs]
open PySem PySem.Spec PyProof.Rows L2

/-! ### operators by values -/
section
variable {X : Cx} {K : PySem.W.Frag}
/-- ints under a condition -/
theorem v2I {C : Int → Int → Prop} {g : Int → Int → Int} {p : Op2} (hp : ∀ x y Q, p x y Q → ∃ i j, x = .int i ∧ y = .int j ∧ C i j ∧ Q (.int (g i j))) : V2 K (rI C fun i j => .int (g i j)) p := by
  intro F H x y v u Qd Q s rx ry h k
  obtain ⟨i, j, rfl, rfl, hc, q⟩ := hp x y Qd h
  exact ⟨i, j, rx.intI, ry.intI, hc, k _ F H _ (.refl s) (.int _) q⟩
theorem v2I0 {g : Int → Int → Int} {p : Op2} (hp : ∀ x y Q, p x y Q → ∃ i j, x = .int i ∧ y = .int j ∧ Q (.int (g i j))) : V2 K (rI0 fun i j => .int (g i j)) p := by
  intro F H x y v u Qd Q s rx ry h k
  obtain ⟨i, j, rfl, rfl, q⟩ := hp x y Qd h
  exact ⟨i, j, rx.intI, ry.intI, k _ F H _ (.refl s) (.int _) q⟩
theorem v2B0 {g : Int → Int → Bool} {p : Op2} (hp : ∀ x y Q, p x y Q → ∃ i j, x = .int i ∧ y = .int j ∧ Q (.bl (g i j))) : V2 K (rI0 fun i j => .bl (g i j)) p := by
  intro F H x y v u Qd Q s rx ry h k
  obtain ⟨i, j, rfl, rfl, q⟩ := hp x y Qd h
  exact ⟨i, j, rx.intI, ry.intI, k _ F H _ (.refl s) (.bl _) q⟩

theorem sub_I : ∀ x y Q, oSub x y Q → ∃ i j, x = .int i ∧ y = .int j ∧ Q (.int (i - j)) := by
  intro x y Q h
  cases x <;> cases y <;> first | exact h.elim | exact ⟨_, _, rfl, rfl, h⟩
theorem k_sub : OpR X (binaryOp .Sub) (rI0 fun i j => .int (i - j)) ∧ V2 K (rI0 fun i j => .int (i - j)) oSub := ⟨op_sub, v2I0 sub_I⟩
theorem ki_sub : OpR X (inplaceOp .Sub) (rI0 fun i j => .int (i - j)) ∧ V2 K (rI0 fun i j => .int (i - j)) oSub := ⟨iop_sub, v2I0 sub_I⟩
theorem mul_I : ∀ x y Q, oMul x y Q → ∃ i j, x = .int i ∧ y = .int j ∧ CMul i j ∧ Q (.int (i * j)) := by
  intro x y Q h
  cases x <;> cases y <;> first | exact h.elim | exact ⟨_, _, rfl, rfl, h.1, h.2⟩
theorem k_mul : OpR X (binaryOp .Mult) (rI CMul fun i j => .int (i * j)) ∧ V2 K (rI CMul fun i j => .int (i * j)) oMul := ⟨op_mul, v2I mul_I⟩
theorem ki_mul : OpR X (inplaceOp .Mult) (rI CMul fun i j => .int (i * j)) ∧ V2 K (rI CMul fun i j => .int (i * j)) oMul := ⟨iop_mul, v2I mul_I⟩
theorem log2_lt_pow {n a : Nat} (h : n < 2 ^ a) : n.log2 < a ∨ n.log2 = 0 := by
  by_cases h0 : n = 0
  · right; subst h0; rfl
  · left; exact (Nat.log2_lt h0).mpr h
theorem k_mulX : OpR X (binaryOp .Mult) (rI CMulW fun i j => .int (i * j)) ∧ V2 K (rI CMulW fun i j => .int (i * j)) oMulX := ⟨op_mulW, v2I fun x y Q h => by
  cases x <;> cases y <;> first | exact h.elim | skip
  rename_i i j
  obtain ⟨⟨a, b, h1, h2, h3⟩, q⟩ := h
  refine ⟨i, j, rfl, rfl, ?_, q⟩
  show i.natAbs.log2 + j.natAbs.log2 < 1000000
  rcases log2_lt_pow h1 with e1 | e1 <;> rcases log2_lt_pow h2 with e2 | e2 <;> omega⟩
theorem log2_64 {j : Int} (h0 : 0 < j) (h : j < 2 ^ 64) : j.natAbs.log2 < 9000 := by
  rcases log2_lt_pow (n := j.natAbs) (a := 64) (by omega) with e | e <;> omega
theorem fdiv_I : ∀ x y Q, oFdiv x y Q → ∃ i j, x = .int i ∧ y = .int j ∧ CDivW i j ∧ Q (.int (i / j)) := by
  intro x y Q h
  cases x <;> cases y <;> first | exact h.elim | exact ⟨_, _, rfl, rfl, ⟨h.1.1, log2_64 h.1.1 h.1.2⟩, h.2⟩
theorem k_fdiv : OpR X (binaryOp .FloorDiv) (rI CDivW fun i j => .int (i / j)) ∧ V2 K (rI CDivW fun i j => .int (i / j)) oFdiv := ⟨op_fdivW, v2I fdiv_I⟩
theorem ki_fdiv : OpR X (inplaceOp .FloorDiv) (rI CDivW fun i j => .int (i / j)) ∧ V2 K (rI CDivW fun i j => .int (i / j)) oFdiv := ⟨iop_fdivW, v2I fdiv_I⟩
theorem k_fdivN : OpR X (binaryOp .FloorDiv) (rI CDivN fun i j => .int (i.fdiv j)) ∧ V2 K (rI CDivN fun i j => .int (i.fdiv j)) oFdivN := ⟨op_fdivN, v2I fun x y Q h => by
  cases x <;> cases y <;> first | exact h.elim | exact ⟨_, _, rfl, rfl, ⟨h.1.1, by have := h.1.2.1; have := h.1.2.2; omega⟩, h.2⟩⟩
theorem mod_I : ∀ x y Q, oMod x y Q → ∃ i j, x = .int i ∧ y = .int j ∧ 0 < j ∧ Q (.int (i % j)) := by
  intro x y Q h
  cases x <;> cases y <;> first | exact h.elim | exact ⟨_, _, rfl, rfl, h.1, h.2⟩
theorem k_mod : OpR X (binaryOp .Mod) (rI (fun _ j => 0 < j) fun i j => .int (i % j)) ∧ V2 K (rI (fun _ j => 0 < j) fun i j => .int (i % j)) oMod := ⟨op_mod, v2I mod_I⟩
theorem ki_mod : OpR X (inplaceOp .Mod) (rI (fun _ j => 0 < j) fun i j => .int (i % j)) ∧ V2 K (rI (fun _ j => 0 < j) fun i j => .int (i % j)) oMod := ⟨iop_mod, v2I mod_I⟩
theorem k_modN : OpR X (binaryOp .Mod) (rI (fun _ j => j ≠ 0) fun i j => .int (i.fmod j)) ∧ V2 K (rI (fun _ j => j ≠ 0) fun i j => .int (i.fmod j)) oModN := ⟨op_modN, v2I fun x y Q h => by
  cases x <;> cases y <;> first | exact h.elim | exact ⟨_, _, rfl, rfl, h.1, h.2⟩⟩
theorem k_pow : OpR X (binaryOp .Pow) (rI CPow fun i j => .int (i ^ j.toNat)) ∧ V2 K (rI CPow fun i j => .int (i ^ j.toNat)) oPow := ⟨op_pow, v2I fun x y Q h => by
  cases x <;> cases y <;> first | exact h.elim | exact ⟨_, _, rfl, rfl, ⟨h.1.1, h.1.2.1, by have := h.1.2.2.1; have := h.1.2.2.2; omega⟩, h.2⟩⟩
theorem k_lt : OpR X (compareOp .Lt) (rI0 fun i j => .bl (decide (i < j))) ∧ V2 K (rI0 fun i j => .bl (decide (i < j))) oLt := ⟨op_lt, v2B0 fun x y Q h => by
  cases x <;> cases y <;> first | exact h.elim | exact ⟨_, _, rfl, rfl, h⟩⟩
theorem k_le : OpR X (compareOp .LtE) (rI0 fun i j => .bl (decide (i ≤ j))) ∧ V2 K (rI0 fun i j => .bl (decide (i ≤ j))) oLe := ⟨op_le, v2B0 fun x y Q h => by
  cases x <;> cases y <;> first | exact h.elim | exact ⟨_, _, rfl, rfl, h⟩⟩
theorem k_gt : OpR X (compareOp .Gt) (rI0 fun i j => .bl (decide (j < i))) ∧ V2 K (rI0 fun i j => .bl (decide (j < i))) oGt := ⟨op_gt, v2B0 fun x y Q h => by
  cases x <;> cases y <;> first | exact h.elim | exact ⟨_, _, rfl, rfl, h⟩⟩
theorem k_ge : OpR X (compareOp .GtE) (rI0 fun i j => .bl (decide (j ≤ i))) ∧ V2 K (rI0 fun i j => .bl (decide (j ≤ i))) oGe := ⟨op_ge, v2B0 fun x y Q h => by
  cases x <;> cases y <;> first | exact h.elim | exact ⟨_, _, rfl, rfl, h⟩⟩
theorem k_neg : UnR X (unaryOp .USub) (rU fun i => .int (-i)) ∧ V1 K (rU fun i => .int (-i)) oNeg := ⟨un_neg, fun F H x v Qd Q s r h k => by
  cases x <;> first | exact h.elim | exact ⟨_, r.intI, k _ F H _ (.refl s) (.int _) h⟩⟩

/-! == of data -/
mutual
def toPy : D → PyData
  | .non => .none
  | .bl b => .bool b
  | .int i => .int i
  | .str x => .str x
  | .tup xs => .tuple (toPyL xs)
  | .lst xs => .list (toPyL xs)
def toPyL : List D → List PyData
  | [] => []
  | x :: xs => toPy x :: toPyL xs
end
mutual
theorem dp_of {F H : Hp} (s : Same F H) : ∀ {d : D} {v : V}, Rp K F d v → Dp K H v (toPy d)
  | .non, _, r => by cases r.nonI; exact .non
  | .bl b, _, r => by cases r.blI; exact .bl b
  | .int i, _, r => by cases r.intI; exact .int i
  | .str x, _, r => by cases r.strI; exact .str x
  | .tup xs, _, r => by
    obtain ⟨a, vs, rfl, h1, h2⟩ := r.tupI
    simp only [toPy]
    exact .tup (sameT s h1) (dpL_of s h2)
  | .lst xs, _, r => by
    obtain ⟨a, vs, rfl, h1, h2⟩ := r.lstI
    simp only [toPy]
    exact .lst (s.seq h1) (dpL_of s h2)
theorem dpL_of {F H : Hp} (s : Same F H) : ∀ {ds : List D} {vs : List V}, RpL K F ds vs → DpAll K H vs (toPyL ds)
  | [], _, r => by simp only [RpL] at r; subst r; exact .nil
  | d :: ds, _, r => by
    obtain ⟨v, q, rfl, h2, h3⟩ := r.inv
    simp only [toPyL]
    exact .cons (dp_of s h2) (dpL_of s h3)
end
mutual
theorem shp_lay : ∀ {n : Nat} {d : D}, shp n d = true → (toPy d).canLay0 = true ∧ (toPy d).depth ≤ n
  | n, .non, _ => ⟨rfl, Nat.zero_le _⟩
  | n, .bl _, _ => ⟨rfl, Nat.zero_le _⟩
  | n, .int _, _ => ⟨rfl, Nat.zero_le _⟩
  | n, .str x, h => ⟨by
      have h : strOkD x = true := by simpa [shp] using h
      show PyData.strOk x = true
      exact h, Nat.zero_le _⟩
  | 0, .tup _, h => by simp [shp] at h
  | 0, .lst _, h => by simp [shp] at h
  | n + 1, .tup xs, h => by
    have := shpL_lay (n := n) (ds := xs) (by simpa [shp] using h)
    simp only [toPy, PyData.canLay0, PyData.depth]
    exact ⟨this.1, by omega⟩
  | n + 1, .lst xs, h => by
    have := shpL_lay (n := n) (ds := xs) (by simpa [shp] using h)
    simp only [toPy, PyData.canLay0, PyData.depth]
    exact ⟨this.1, by omega⟩
theorem shpL_lay : ∀ {n : Nat} {ds : List D}, shpL n ds = true → PyData.canLayAll0 (toPyL ds) = true ∧ PyData.depthAll (toPyL ds) ≤ n
  | n, [], _ => ⟨rfl, Nat.zero_le _⟩
  | n, d :: ds, h => by
    simp only [shpL, Bool.and_eq_true] at h
    have h1 := shp_lay (n := n) (d := d) h.1
    have h2 := shpL_lay (n := n) (ds := ds) h.2
    simp only [toPyL, PyData.canLayAll0, PyData.depthAll, Bool.and_eq_true]
    exact ⟨⟨h1.1, h2.1⟩, by omega⟩
end
theorem shp_shaped {d : D} (h : shp 60 d = true) : SeqAt.shaped (toPy d) = true := by
  obtain ⟨h1, h2⟩ := shp_lay h
  unfold SeqAt.shaped
  rw [h1, decide_eq_true (by omega)]
  rfl
mutual
theorem eqv_py : ∀ (a b : D), PyData.eqv (toPy a) (toPy b) = D.eqv a b
  | .non, b => by cases b <;> simp only [toPy, PyData.eqv, D.eqv]
  | .bl _, b => by cases b <;> simp only [toPy, PyData.eqv, D.eqv]
  | .int _, b => by cases b <;> simp only [toPy, PyData.eqv, D.eqv]
  | .str _, b => by cases b <;> simp only [toPy, PyData.eqv, D.eqv]
  | .tup xs, b => by cases b <;> simp only [toPy, PyData.eqv, D.eqv, eqv_pyL xs]
  | .lst xs, b => by cases b <;> simp only [toPy, PyData.eqv, D.eqv, eqv_pyL xs]
theorem eqv_pyL : ∀ (a b : List D), PyData.eqvAll (toPyL a) (toPyL b) = D.eqvL a b
  | [], b => by cases b <;> simp only [toPyL, PyData.eqvAll, D.eqvL]
  | x :: xs, b => by cases b <;> simp only [toPyL, PyData.eqvAll, D.eqvL, eqv_py x, eqv_pyL xs]
end
theorem k_eq (hu : X.A.units + 64 < cLine) : OpR X (compareOp .Eq) (rEqD X.K) ∧ V2 X.K (rEqD X.K) oEq := ⟨op_eqD hu, fun F H x y v u Qd Q s rx ry h k => by
  obtain ⟨⟨h1, h2⟩, q⟩ := h
  exact ⟨toPy x, toPy y, dp_of s rx, dp_of s ry, shp_shaped h1, shp_shaped h2, by rw [eqv_py]; exact k _ F H _ (.refl s) (.bl _) q⟩⟩
theorem k_ne (hu : X.A.units + 64 < cLine) : OpR X (compareOp .NotEq) (rNeD X.K) ∧ V2 X.K (rNeD X.K) oNe := ⟨op_neD hu, fun F H x y v u Qd Q s rx ry h k => by
  obtain ⟨⟨h1, h2⟩, q⟩ := h
  exact ⟨toPy x, toPy y, dp_of s rx, dp_of s ry, shp_shaped h1, shp_shaped h2, by rw [eqv_py]; exact k _ F H _ (.refl s) (.bl _) q⟩⟩

/-! + of ints, tuples, lists, texts -/
theorem op_catL : OpR X (binaryOp .Add) (fun x y H Q => ∃ a b xs ys, x = .ref a ∧ y = .ref b ∧ SqL X.K H a xs ∧ SqL X.K H b ys ∧ xs.length + ys.length ≤ sizeLine ∧ ∀ p, H p = none → Q (.ref p) (upd H p (.lst (xs ++ ys)))) := by
  intro pins s σ H x y v u Q I rx ry h
  obtain ⟨l, b, xs, zs, rfl, rfl, hH, hB, hz, q⟩ := h
  cases rx
  cases ry
  obtain ⟨its, r, ⟨⟨cls, dd, data, sl⟩, n, ho, hc, hd', hd⟩, _⟩ := I.list hH
  obtain ⟨its2, r2, ⟨⟨cls2, dd2, data2, sl2⟩, n2, ho2, hc2, hd2', hd2⟩, _⟩ := I.list hB
  simp only at hc hd hc2 hd2 hd' hd2'
  subst hc hd hc2 hd2
  have hl := r.length
  have hl2 := r2.length
  have e : its.toArray ++ its2.toArray = (its ++ its2).toArray := by simp
  refine concat_meets ⟨_, ho, rfl⟩ ⟨_, ho2, rfl⟩ noFill_list_add seq_list_add PySem.F.slot_list_add PySem.F.entry_list_add (PySem.F.args_list_add_2 _ _) (list_addW l b its.toArray its2.toArray n n2 dd dd2 sl sl2 (by simp; omega)) ⟨ho, ho2, ?_⟩
  rw [e]
  exact ⟨.ref _, _, I.lnew (t' := s.toks) (r.append r2) (by rw [List.length_append]; omega), rfl, q _ I.fresh⟩
def rAddD (K : PySem.W.Frag) : R2 := fun x y H Q => (rI0 (fun i j => .int (i + j)) x y H Q) ∨ (rCatA K x y H Q) ∨
  (∃ a b xs ys, x = .ref a ∧ y = .ref b ∧ SqL K H a xs ∧ SqL K H b ys ∧ xs.length + ys.length ≤ sizeLine ∧ ∀ p, H p = none → Q (.ref p) (upd H p (.lst (xs ++ ys)))) ∨
  (∃ i j, x = .str i ∧ y = .str j ∧ i.length + j.length ≤ sizeLine ∧ Q (.str (i ++ j)) H)
theorem add_V2 : V2 K (rAddD K) oAdd := by
  intro F H x y v u Qd Q s rx ry h k
  cases x with
  | int i => cases y <;> first | exact h.elim | exact .inl ⟨_, _, rx.intI, ry.intI, k _ F H _ (.refl s) (.int _) h⟩
  | str i => cases y <;> first | exact h.elim | exact .inr (.inr (.inr ⟨_, _, rx.strI, ry.strI, by rw [line_eq]; exact h.1, k _ F H _ (.refl s) (.str _) h.2⟩))
  | tup xs =>
    cases y with
    | tup ys =>
      obtain ⟨a, vs, rfl, h1', h2⟩ := rx.tupH
      obtain ⟨b, us, rfl, g1', g2⟩ := ry.tupH
      have h1 : SqT K F a vs := .inl (.inl h1')
      have g1 : SqT K F b us := .inl (.inl g1')
      have hlen : vs.length + us.length ≤ sizeLine := by rw [line_eq, h2.len, g2.len]; exact h.1
      refine .inr (.inl ⟨a, b, vs, us, rfl, rfl, sameT s h1, sameT s g1, hlen, fun e => ?_, fun e e' => ?_, fun e e' p hp => ?_⟩)
      · have ex : xs = [] := by have := h2.len; rw [e] at this; exact List.length_eq_zero_iff.mp this.symm
        subst ex
        exact k _ F H _ (.refl s) (.tup g1' g2) h.2
      · have ey : ys = [] := by have := g2.len; rw [e'] at this; exact List.length_eq_zero_iff.mp this.symm
        subst ey
        exact k _ F H _ (.refl s) (.tup h1' (by rw [List.append_nil]; exact h2)) h.2
      · have x2 : Ext F H (upd F p (.tup (vs ++ us))) (upd H p (.tup (vs ++ us))) := Ext.new s hp
        exact k _ _ _ _ x2 (.tup upd_same ((h2.app g2).mono x2.f)) h.2
    | _ => exact h.elim
  | lst xs =>
    cases y with
    | lst ys =>
      obtain ⟨a, vs, rfl, h1, h2⟩ := rx.lstI
      obtain ⟨b, us, rfl, g1, g2⟩ := ry.lstI
      have hlen : vs.length + us.length ≤ sizeLine := by rw [line_eq, h2.len, g2.len]; exact h.1
      refine .inr (.inr (.inl ⟨a, b, vs, us, rfl, rfl, s.seq h1, s.seq g1, hlen, fun p hp => ?_⟩))
      have x2 : Ext F H (upd F p (.lst (vs ++ us))) (upd H p (.lst (vs ++ us))) := Ext.new s hp
      exact k _ _ _ _ x2 (.lst (.of upd_same) ((h2.app g2).mono x2.f)) h.2
    | _ => exact h.elim
  | _ => exact h.elim
theorem k_add : OpR X (binaryOp .Add) (rAddD X.K) ∧ V2 X.K (rAddD X.K) oAdd := ⟨op_add.or (op_catA.or (op_catL.or op_add_str)), add_V2⟩
theorem add_I : V2 K (rI0 fun i j => .int (i + j)) (fun x y Q => match x, y with | .int i, .int j => Q (.int (i + j)) | _, _ => False) := v2I0 fun x y Q h => by
  cases x <;> cases y <;> first | exact h.elim | exact ⟨_, _, rfl, rfl, h⟩

/-! subscripts -/
theorem ixP_eq (n : Nat) (i : Int) : ixN n i = ixP n i := rfl
theorem at_of_atD {F H : Hp} {xs : List D} {vs : List V} {i : Int} {Qd : D → Prop} (r : RpL K F xs vs) (h : atD xs i Qd) : ∃ v d, atI vs i = some v ∧ Rp K F d v ∧ Qd d := by
  obtain ⟨j, d, h1, h2, h3⟩ := h
  obtain ⟨v, g1, g2⟩ := r.get h2
  refine ⟨v, d, ?_, g2, h3⟩
  unfold atI
  rw [r.len, ixP_eq, h1]
  exact g1
theorem k_ix : IxR X (rIx X.K) ∧ V2 X.K (rIx X.K) oIx := ⟨ix_seq, fun F H x y v u Qd Q s rx ry h k => by
  cases x with
  | tup xs =>
    cases y with
    | int i =>
      obtain ⟨a, vs, rfl, h1, h2⟩ := rx.tupI
      obtain ⟨w, d, e1, e2, e3⟩ := at_of_atD (F := F) (H := H) h2 h
      exact .inr (.inl ⟨a, vs, i, w, rfl, ry.intI, sameT s h1, e1, k _ F H _ (.refl s) e2 e3⟩)
    | _ => exact h.elim
  | lst xs =>
    cases y with
    | int i =>
      obtain ⟨a, vs, rfl, h1, h2⟩ := rx.lstI
      obtain ⟨w, d, e1, e2, e3⟩ := at_of_atD (F := F) (H := H) h2 h
      exact .inl ⟨a, vs, i, w, rfl, ry.intI, s.seq h1, e1, k _ F H _ (.refl s) e2 e3⟩
    | _ => exact h.elim
  | str z =>
    cases y with
    | int i =>
      obtain ⟨hz, j, c, e1, e2, e3⟩ := h
      refine .inr (.inr ⟨z, i, c, rx.strI, ry.intI, by rw [line_eq]; exact hz, ?_, k _ F H _ (.refl s) (.str _) e3⟩)
      unfold atI
      rw [ixP_eq, e1]
      exact e2
    | _ => exact h.elim
  | _ => exact h.elim⟩
section
variable {a b : Expr} {ta tb : Ex} {pos : Pos}
theorem q_ix {r : R2} {p : Op2} (ho : IxR X r ∧ V2 X.K r p) (ha : QE X a ta) (hb : QE X b tb) (hs : PlainIx b) : QE X (.Subscript a b pos) (e2 p ta tb) :=
  imp_PE (pe_ix ho.1 ha hb hs) fun _ _ _ h => lft2 ho.2 h
/-- x[i], x an owned list -/
theorem q_ixS (s : Nat) {x : Str} {px : Pos} (hb : QE X b tb) (hs : PlainIx b) (hN : X.N[s]? = some x := by rfl) (hv : Vis X.env.scope x := by first | exact Or.inl rfl | exact Or.inr (Or.inl rfl) | exact Or.inr (Or.inr rfl)) (hd : (x == ("__debug__" : Str)) = false := by decide)
    (hcd : (x == ("__classdict__" : Str)) = false := by decide) : QE X (.Subscript (.Name x px) b pos) (eIxS s tb) :=
  imp_PE (pe_ix ix_list (pv s hN hv hd hcd) hb hs) fun σ H Q h => by
    obtain ⟨F0, B, F, δ, Qd, S, h, k⟩ := h
    show tVar s σ H _
    unfold eIxS asOwn at h
    split at h
    · rename_i p xs e
      obtain ⟨h1, _, _, vs, h4, h5⟩ := S.own s p xs e
      refine ⟨.ref p, h1, F0, B, F, δ, _, S, h, fun u F1 H1 y x1 r1 q1 => ?_⟩
      cases y with
      | int i =>
        obtain ⟨w, d, e1, e2, e3⟩ := at_of_atD (F := F) (H := H) h5 q1
        exact ⟨p, vs, i, w, rfl, r1.intI, .of (x1.h.at h4), e1, k _ F1 H1 _ x1 (e2.mono x1.f) e3⟩
      | _ => exact q1.elim
    · exact h.elim
end
end
end PL

set_option Elab.async false
set_option linter.all false
set_option maxRecDepth 100000
namespace PL
variable [Tabs]
open PySem PySem.Spec PyProof.Rows L2

/-! ### fresh lists -/
def lftF (K : PySem.W.Frag) (t : Ex) : TE := fun σ H Q => ∃ F0 B F δ Qd, SR K F0 B F H σ δ ∧ t δ Qd ∧ ∀ p xs ds F' H', Ext F H F' H' → H p = none → F' p = none → H' p = some (.lst xs) → RpL K F' ds xs → Qd (.lst ds) → Q (.ref p) H'
abbrev QF (X : Cx) (e : Expr) (t : Ex) : Prop := PE X e (lftF X.K t)
theorem lft_lftF {K : PySem.W.Frag} {t : Ex} {σ : L2.St} {H : Hp} {Q : VK} (h : lft K t σ H Q) : lftF K t σ H Q := by
  obtain ⟨F0, B, F, δ, Qd, S, h, k⟩ := h
  refine ⟨F0, B, F, δ, Qd, S, h, fun p xs ds F' H' x1 hp hF hH r q => ?_⟩
  have sF : Same F' (upd F' p (.lst xs)) := upd_same_of hF
  have x2 : Ext F H (upd F' p (.lst xs)) H' := by
    refine ⟨x1.f.trans sF, x1.h, fun b o e => ?_, fun a h1 h2 => ?_⟩
    · by_cases hb : b = p
      · subst hb; rw [upd_same] at e; cases e; exact hH
      · rw [upd_ne hb] at e; exact x1.s b o e
    · have : a ≠ p := fun z => h1 (z ▸ hp)
      rw [upd_ne this]; exact x1.n a h1 h2
  exact k _ _ _ _ x2 (.lst (.of upd_same) (r.mono sF)) q
theorem q_fr {X : Cx} {e : Expr} {t : Ex} (h : QF X e t) : QE X e t := imp_PE h fun _ _ _ => lft_lftF
section
variable {X : Cx} {e : Expr} {es : List Expr} {pos : Pos}
theorem qf_lst {t : Ar} (h : QA X es t) : QF X (.List es pos) (eLst t) :=
  imp_PE (pe_lst h) fun σ H Q h => by
    obtain ⟨F0, B, F, δ, Qd, S, h, k⟩ := h
    refine ⟨F0, B, F, δ, _, S, h, fun vs F1 H1 ds x1 r1 q1 => ⟨by rw [line_eq, r1.len]; exact q1.1, fun p hp => ?_⟩⟩
    have hF : F1 p = none := x1.s.free hp
    have sH : Same H1 (upd H1 p (.lst vs)) := upd_same_of hp
    exact k p vs ds F1 _ ⟨x1.f, x1.h.thenS sH, x1.s.trans sH, x1.n⟩ (x1.h.free hp) hF upd_same r1 q1.2
end

/-! ### built-ins -/
section
variable {X : Cx} {K : PySem.W.Frag}
theorem RpL.one {F : Hp} {d : D} {vs : List V} (r : RpL K F [d] vs) : ∃ v, vs = [v] ∧ Rp K F d v := by
  obtain ⟨v, r, rfl, h, h2⟩ := r.inv
  simp only [RpL] at h2; subst h2
  exact ⟨v, rfl, h⟩
theorem RpL.two {F : Hp} {d e : D} {vs : List V} (r : RpL K F [d, e] vs) : ∃ v u, vs = [v, u] ∧ Rp K F d v ∧ Rp K F e u := by
  obtain ⟨v, r, rfl, h, h2⟩ := r.inv
  obtain ⟨u, rfl, h3⟩ := h2.one
  exact ⟨v, u, rfl, h, h3⟩
theorem b_len : CallR X (.builtin "len") (fun xs H Q => ∃ x n, xs = [x] ∧ LenV X.K x H n ∧ Q (.int n) H) ∧ VC X.K (fun xs H Q => ∃ x n, xs = [x] ∧ LenV X.K x H n ∧ Q (.int n) H) pLen := ⟨call_len, fun F H ds vs Qd Q s r h k => by
  unfold pLen at h
  split at h
  · obtain ⟨v, rfl, r1⟩ := r.one
    obtain ⟨a, us, rfl, h1, h2⟩ := r1.tupI
    exact ⟨_, _, rfl, .inr ⟨us, sameT s h1, rfl⟩, by rw [h2.len]; exact k _ F H _ (.refl s) (.int _) h⟩
  · obtain ⟨v, rfl, r1⟩ := r.one
    obtain ⟨a, us, rfl, h1, h2⟩ := r1.lstI
    exact ⟨_, _, rfl, .inl ⟨us, s.seq h1, rfl⟩, by rw [h2.len]; exact k _ F H _ (.refl s) (.int _) h⟩
  · obtain ⟨v, rfl, r1⟩ := r.one
    cases r1.strI
    exact ⟨_, _, rfl, ⟨by rw [line_eq]; exact h.1, rfl⟩, k _ F H _ (.refl s) (.int _) h.2⟩
  · exact h.elim⟩
theorem b_abs : CallR X (.builtin "abs") (fun xs H Q => ∃ i, xs = [.int i] ∧ Q (.int (if i < 0 then -i else i)) H) ∧ VC X.K (fun xs H Q => ∃ i, xs = [.int i] ∧ Q (.int (if i < 0 then -i else i)) H) pAbs := ⟨call_abs, fun F H ds vs Qd Q s r h k => by
  unfold pAbs at h
  split at h
  · obtain ⟨v, rfl, r1⟩ := r.one
    cases r1.intI
    exact ⟨_, rfl, k _ F H _ (.refl s) (.int _) h⟩
  · exact h.elim⟩
theorem b_int : CallR X (.type "int") (fun xs H Q => (∃ i, xs = [.int i] ∧ Q (.int i) H) ∨ ∃ k, xs = [.bl k] ∧ Q (.int (if k then 1 else 0)) H) ∧ VC X.K (fun xs H Q => (∃ i, xs = [.int i] ∧ Q (.int i) H) ∨ ∃ k, xs = [.bl k] ∧ Q (.int (if k then 1 else 0)) H) pInt := ⟨call_int1, fun F H ds vs Qd Q s r h k => by
  unfold pInt at h
  split at h
  · obtain ⟨v, rfl, r1⟩ := r.one
    cases r1.intI
    exact .inl ⟨_, rfl, k _ F H _ (.refl s) (.int _) h⟩
  · obtain ⟨v, rfl, r1⟩ := r.one
    cases r1.blI
    exact .inr ⟨_, rfl, k _ F H _ (.refl s) (.int _) h⟩
  · exact h.elim⟩
theorem b_max2 (hc : X.calm = true) : CallR X (.builtin "max") (fun xs H Q => ∃ i j, xs = [.int i, .int j] ∧ Q (.int (if j > i then j else i)) H) ∧ VC X.K (fun xs H Q => ∃ i j, xs = [.int i, .int j] ∧ Q (.int (if j > i then j else i)) H) pMax2 := ⟨call_max2 hc, fun F H ds vs Qd Q s r h k => by
  unfold pMax2 at h
  split at h
  · obtain ⟨v, u, rfl, r1, r2⟩ := r.two
    cases r1.intI; cases r2.intI
    exact ⟨_, _, rfl, k _ F H _ (.refl s) (.int _) h⟩
  · exact h.elim⟩
theorem b_min2 (hc : X.calm = true) : CallR X (.builtin "min") (fun xs H Q => ∃ i j, xs = [.int i, .int j] ∧ Q (.int (if j < i then j else i)) H) ∧ VC X.K (fun xs H Q => ∃ i j, xs = [.int i, .int j] ∧ Q (.int (if j < i then j else i)) H) pMin2 := ⟨call_min2 hc, fun F H ds vs Qd Q s r h k => by
  unfold pMin2 at h
  split at h
  · obtain ⟨v, u, rfl, r1, r2⟩ := r.two
    cases r1.intI; cases r2.intI
    exact ⟨_, _, rfl, k _ F H _ (.refl s) (.int _) h⟩
  · exact h.elim⟩
def rTupOf (K : PySem.W.Frag) : List V → Hp → VK → Prop := fun xs H Q => ∃ p ys, xs = [.ref p] ∧ ((SqL K H p ys ∧ ∀ l, H l = none → Q (.ref l) (upd H l (.tup ys))) ∨ (SqT K H p ys ∧ Q (.ref p) H))
theorem b_tuple : CallR X (.type "tuple") (rTupOf X.K) ∧ VC X.K (rTupOf X.K) pTuple := ⟨call_tuple_of, fun F H ds vs Qd Q s r h k => by
  unfold pTuple at h
  split at h
  · obtain ⟨v, rfl, r1⟩ := r.one
    obtain ⟨a, us, rfl, h1, h2⟩ := r1.tupI
    exact ⟨a, us, rfl, .inr ⟨sameT s h1, k _ F H _ (.refl s) r1 h⟩⟩
  · obtain ⟨v, rfl, r1⟩ := r.one
    obtain ⟨a, us, rfl, h1, h2⟩ := r1.lstI
    refine ⟨a, us, rfl, .inl ⟨s.seq h1, fun p hp => ?_⟩⟩
    have x2 : Ext F H (upd F p (.tup us)) (upd H p (.tup us)) := Ext.new s hp
    exact k _ _ _ _ x2 (.tup upd_same (h2.mono x2.f)) h
  · exact h.elim⟩
theorem bls_of : ∀ {xs : List D} {b : Bool} {F : Hp} {vs : List V}, allB xs = some b → RpL K F xs vs → ∃ bs : List Bool, vs = bs.map V.bl ∧ bs.all id = b
  | [], b, _, _, h, r => by
    simp only [RpL] at r; subst r
    simp [allB] at h
    exact ⟨[], rfl, by simp [h]⟩
  | x :: xs, b, F, vs, h, r => by
    obtain ⟨v, us, rfl, r1, r2⟩ := r.inv
    cases x with
    | bl c =>
      simp only [allB, Option.map_eq_some_iff] at h
      obtain ⟨d, h, rfl⟩ := h
      obtain ⟨bs, rfl, e⟩ := bls_of h r2
      exact ⟨c :: bs, by rw [r1.blI]; rfl, by simp [e]⟩
    | _ => simp [allB] at h
theorem blsy_of : ∀ {xs : List D} {b : Bool} {F : Hp} {vs : List V}, anyB xs = some b → RpL K F xs vs → ∃ bs : List Bool, vs = bs.map V.bl ∧ bs.any id = b
  | [], b, _, _, h, r => by
    simp only [RpL] at r; subst r
    simp [anyB] at h
    exact ⟨[], rfl, by simp [h]⟩
  | x :: xs, b, F, vs, h, r => by
    obtain ⟨v, us, rfl, r1, r2⟩ := r.inv
    cases x with
    | bl c =>
      simp only [anyB, Option.map_eq_some_iff] at h
      obtain ⟨d, h, rfl⟩ := h
      obtain ⟨bs, rfl, e⟩ := blsy_of h r2
      exact ⟨c :: bs, by rw [r1.blI]; rfl, by simp [e]⟩
    | _ => simp [anyB] at h
theorem b_all (hc : X.calm = true) : CallR X (.builtin "all") (rAll X.K) ∧ VC X.K (rAll X.K) pAllL := ⟨cr_all hc, fun F H ds vs Qd Q s r h k => by
  unfold pAllL at h
  split at h
  · obtain ⟨v, rfl, r1⟩ := r.one
    obtain ⟨a, us, rfl, h1, h2⟩ := r1.lstI
    obtain ⟨b, e, h⟩ := h
    obtain ⟨bs, rfl, e2⟩ := bls_of e h2
    exact ⟨a, bs, rfl, s.seq h1, by rw [e2]; exact k _ F H _ (.refl s) (.bl _) h⟩
  · exact h.elim⟩
theorem b_any (hc : X.calm = true) : CallR X (.builtin "any") (rAny X.K) ∧ VC X.K (rAny X.K) pAnyL := ⟨cr_any hc, fun F H ds vs Qd Q s r h k => by
  unfold pAnyL at h
  split at h
  · obtain ⟨v, rfl, r1⟩ := r.one
    obtain ⟨a, us, rfl, h1, h2⟩ := r1.lstI
    obtain ⟨b, e, h⟩ := h
    obtain ⟨bs, rfl, e2⟩ := blsy_of e h2
    exact ⟨a, bs, rfl, s.seq h1, by rw [e2]; exact k _ F H _ (.refl s) (.bl _) h⟩
  · exact h.elim⟩
theorem ints_of_sum : ∀ {xs : List D} {n : Int} {F : Hp} {vs : List V}, sumD xs = some n → RpL K F xs vs → ∃ ns : List Int, vs = ns.map V.int ∧ ns.sum = n
  | [], b, _, _, h, r => by
    simp only [RpL] at r; subst r
    simp [sumD] at h
    exact ⟨[], rfl, by simp [h]⟩
  | x :: xs, b, F, vs, h, r => by
    obtain ⟨v, us, rfl, r1, r2⟩ := r.inv
    cases x with
    | int c =>
      simp only [sumD, Option.map_eq_some_iff] at h
      obtain ⟨d, h, rfl⟩ := h
      obtain ⟨bs, rfl, e⟩ := ints_of_sum h r2
      exact ⟨c :: bs, by rw [r1.intI]; rfl, by simp [e]⟩
    | _ => simp [sumD] at h
theorem b_sum (hc : X.calm = true) : CallR X (.builtin "sum") (rSum X.K) ∧ VC X.K (rSum X.K) pSumL := ⟨cr_sum hc, fun F H ds vs Qd Q s r h k => by
  unfold pSumL at h
  split at h
  · obtain ⟨v, rfl, r1⟩ := r.one
    obtain ⟨a, us, rfl, h1, h2⟩ := r1.lstI
    obtain ⟨b, e, h⟩ := h
    obtain ⟨bs, rfl, e2⟩ := ints_of_sum e h2
    exact ⟨a, bs, rfl, s.seq h1, by rw [e2]; exact k _ F H _ (.refl s) (.int _) h⟩
  · exact h.elim⟩

/-! isinstance -/
def Ty.nm : Ty → String
  | .int => "int" | .bool => "bool" | .str => "str" | .tuple => "tuple" | .list => "list"
inductive Kd | non | bl | int | str | tup | lst
def Kd.nm : Kd → String
  | .non => "NoneType" | .bl => "bool" | .int => "int" | .str => "str" | .tup => "tuple" | .lst => "list"
def D.kd : D → Kd
  | .non => .non | .bl _ => .bl | .int _ => .int | .str _ => .str | .tup _ => .tup | .lst _ => .lst
def Kd.isTy : Kd → Ty → Bool
  | .int, .int => true
  | .bl, .int => true
  | .bl, .bool => true
  | .str, .str => true
  | .tup, .tuple => true
  | .lst, .list => true
  | _, _ => false
theorem isTy_kd (d : D) (t : Ty) : d.kd.isTy t = isTy d t := by cases d <;> cases t <;> rfl
theorem kit_tab (d : Kd) (t : Ty) : kitB d.nm t.nm = some (d.isTy t) := by
  cases d <;> cases t <;> decide +kernel
theorem tyx_of {F H : Hp} {d : D} {v : V} (s : Same F H) (r : Rp K F d v) : TyX K H v (.type d.kd.nm) := by
  cases d with
  | non => cases r.nonI; exact .base .non
  | bl b => cases r.blI; exact .base (.bl b)
  | int b => cases r.intI; exact .base (.int b)
  | str b => cases r.strI; exact .base (.str b)
  | tup xs =>
    obtain ⟨a, us, rfl, h1, _⟩ := r.tupI
    rcases sameT s h1 with (h | ⟨o, h⟩) | ⟨o, its, n, h, hc, _⟩
    · exact .base (.tup h)
    · exact .fTuple h
    · exact .kTuple h hc
  | lst xs =>
    obtain ⟨a, us, rfl, h1, _⟩ := r.lstI
    rcases s.seq h1 with (h | ⟨o, h⟩) | ⟨o, its, n, h, hc, _⟩
    · exact .base (.lst h)
    · exact .base (.frz h)
    · exact .kList h hc
theorem q_isI {a : Expr} {ta : Ex} {pos p p2 : Pos} {x : Str} (t : Ty) (ha : QE X a ta) (hm : X.mg "isinstance" = none) (hmx : X.mg x = none) (hv : bootBuiltins x = some (.type t.nm)) (hg : Gl X "isinstance" := by rfl) (hgx : Gl X x := by rfl) (hnx : x ≠ "__name__" := by decide) (hdx : (x == ("__debug__" : Str)) = false := by decide)
    (he : starEach [a, .Name x p2] X.env = (false, eval a X.env) :: starEach [.Name x p2] X.env := by rfl) (hpl : (backTo pos (starEach [.Name x p2] X.env)).any (·.1) = false := by rfl)
    (hs : starEach [.Name x p2] X.env = (false, eval (.Name x p2) X.env) :: starEach [] X.env := by rfl) : QE X (.Call (.Name "isinstance" p) [a, .Name x p2] [] pos) (eIsI t ta) :=
  imp_PE (pe_callB call_isi hg hm (by decide +kernel) (pa_cons ha (pa_cons (pe_bltn (v := .ty t.nm) hgx hmx hv rfl hnx hdx) pa_nil hs) he) (by decide) (by decide) he hpl) fun σ H Q h => by
    obtain ⟨F0, B, F, δ, Qd, S, h, k⟩ := h
    refine ⟨F0, B, F, δ, _, S, h, fun v F1 H1 d x1 r1 q1 => ?_⟩
    exact ⟨v, _, _, _, _, rfl, .ty _, tyx_of x1.s r1, kit_ty (kit_tab d.kd t), by rw [isTy_kd]; exact k _ F1 H1 _ x1 (.bl _) q1⟩

/-! slices -/
theorem sIx_eq (n d : Nat) (o : Option Int) : HT.sIx n d o = sIx n d o := by
  cases o with
  | none => rfl
  | some v => unfold sIx HT.sIx; first | rfl | (split <;> omega)
def lftO (K : PySem.W.Frag) (t : Pt) : TO := fun σ H Q => ∃ F0 B F δ Qd, SR K F0 B F H σ δ ∧ t δ Qd ∧ ∀ o F' H', Ext F H F' H' → Qd o → Q o H'
theorem imp_PO {e : Option Expr} {t t' : TO} (h : PO X e t) (i : ∀ σ H Q, t' σ H Q → t σ H Q) : PO X e t' := by
  obtain ⟨h⟩ := h
  exact ⟨fun pins s σ H Q I hq => h pins s σ H Q I (i _ _ _ hq)⟩
theorem qo_none : PO X none (lftO X.K oNo) := imp_PO po_none fun σ H Q h => by
  obtain ⟨F0, B, F, δ, Qd, S, h, k⟩ := h
  exact k none F H (.refl S.ext.s) h
theorem qo_some {e : Expr} {t : Ex} (h : QE X e t) : PO X (some e) (lftO X.K (oSome t)) := imp_PO (po_some h) fun σ H Q h => by
  obtain ⟨F0, B, F, δ, Qd, S, h, k⟩ := h
  refine ⟨F0, B, F, δ, _, S, h, fun v F1 H1 d x1 r1 q1 => ?_⟩
  cases d with
  | int i => exact ⟨i, r1.intI, k _ F1 H1 x1 q1⟩
  | _ => exact q1.elim
theorem RpL.cut {F : Hp} {xs : List D} {vs : List V} (h : RpL K F xs vs) (l u : Option Int) : RpL K F (cutD xs l u) (cutV vs l u) := by
  unfold cutD cutV
  simp only [sIx_eq, h.len]
  exact (h.drop _).take _
theorem q_slice {e : Expr} {lo hi : Option Expr} {t : Ex} {tl th : Pt} {pos p2 : Pos} (he : QE X e t) (hl : PO X lo (lftO X.K tl)) (hu : PO X hi (lftO X.K th)) : QE X (.Subscript e (.Slice lo hi none p2) pos) (eSlice t tl th) :=
  imp_PE (pe_slice (sl_tupA.or sl_list) he hl hu) fun σ H Q h => by
    obtain ⟨F0, B, F, δ, Qd, S, h, k⟩ := h
    refine ⟨F0, B, F, δ, _, S, h, fun v F1 H1 d x1 r1 q1 => ⟨F0, B, F1, δ, _, S.mono x1, q1, fun l F2 H2 x2 q2 => ⟨F0, B, F2, δ, _, (S.mono x1).mono x2, q2, fun u F3 H3 x3 q3 => ?_⟩⟩⟩
    have x13 := (x1.trans x2).trans x3
    have r3 := r1.mono (x2.f.trans x3.f)
    cases d with
    | tup xs =>
      obtain ⟨a, vs, rfl, h1', h2⟩ := r3.tupH
      have h1 : SqT X.K F3 a vs := .inl (.inl h1')
      refine .inl ⟨a, vs, rfl, sameT x3.s h1, fun hw => ?_, fun _ p hp => ?_⟩
      · have hc : cutD xs l u = xs := by
          obtain ⟨w1, w2⟩ := hw
          simp only [sIx_eq, h2.len] at w1 w2
          unfold cutD
          rw [w1, w2]
          simp
        have q3 : Qd (.tup (cutD xs l u)) := q3
        rw [hc] at q3
        exact k _ F3 H3 _ x13 (.tup h1' h2) q3
      · have x4 : Ext F3 H3 (upd F3 p (.tup (cutV vs l u))) (upd H3 p (.tup (cutV vs l u))) := Ext.new x3.s hp
        exact k _ _ _ _ (x13.trans x4) (.tup upd_same ((h2.cut l u).mono x4.f)) q3
    | lst xs =>
      obtain ⟨a, vs, rfl, h1, h2⟩ := r3.lstI
      refine .inr ⟨a, vs, rfl, x3.s.seq h1, fun p hp => ?_⟩
      have x4 : Ext F3 H3 (upd F3 p (.lst (cutV vs l u))) (upd H3 p (.lst (cutV vs l u))) := Ext.new x3.s hp
      exact k _ _ _ _ (x13.trans x4) (.lst (.of upd_same) ((h2.cut l u).mono x4.f)) q3
    | _ => exact q3.elim
end
end PL

set_option Elab.async false
set_option linter.all false
set_option maxRecDepth 100000
namespace PL
variable [Tabs]
open PySem PySem.Spec PyProof.Rows L2

/-! ### statements as readings -/
/-- a new list, frozen at once -/
theorem Ext.frzNew {K : PySem.W.Frag} {F H F' H' : Hp} {p : Addr} {xs : List V} (x1 : Ext F H F' H') (hp : H p = none) (hF : F' p = none) (hH : H' p = some (.lst xs)) : Ext F H (upd F' p (.lst xs)) H' ∧ Same F' (upd F' p (.lst xs)) := by
  have sF : Same F' (upd F' p (.lst xs)) := upd_same_of hF
  refine ⟨⟨x1.f.trans sF, x1.h, fun b o e => ?_, fun a h1 h2 => ?_⟩, sF⟩
  · by_cases hb : b = p
    · subst hb; rw [upd_same] at e; cases e; exact hH
    · rw [upd_ne hb] at e; exact x1.s b o e
  · have : a ≠ p := fun z => h1 (z ▸ hp)
    rw [upd_ne this]; exact x1.n a h1 h2
structure EnR (K : PySem.W.Frag) (F0 B F : Hp) (E : En) (D : Ends) : Prop where
  nx : ∀ F' H' σ' δ', Same F F' → SR K F0 B F' H' σ' δ' → E.nx δ' → D.nx σ' H'
  bk : ∀ F' H' σ' δ', Same F F' → SR K F0 B F' H' σ' δ' → E.bk δ' → D.bk σ' H'
  ct : ∀ F' H' σ' δ', Same F F' → SR K F0 B F' H' σ' δ' → E.ct δ' → D.ct σ' H'
  rt : ∀ F' H' v d, Same F F' → Ext F0 B F' H' → Rp K F' d v → E.rt d → D.rt v H'
  rn : ∀ F' H' p xs ds, Same F F' → Ext F0 B F' H' → B p = none → F' p = none → H' p = some (.lst xs) → RpL K F' ds xs → E.rn ds → D.rt (.ref p) H'
theorem EnR.mono {K : PySem.W.Frag} {F0 B F F1 : Hp} {E : En} {D : Ends} (h : EnR K F0 B F E D) (s : Same F F1) : EnR K F0 B F1 E D :=
  ⟨fun F' H' σ' δ' e => h.nx F' H' σ' δ' (s.trans e), fun F' H' σ' δ' e => h.bk F' H' σ' δ' (s.trans e), fun F' H' σ' δ' e => h.ct F' H' σ' δ' (s.trans e), fun F' H' v d e => h.rt F' H' v d (s.trans e), fun F' H' p xs ds e => h.rn F' H' p xs ds (s.trans e)⟩
def lftS (K : PySem.W.Frag) (t : Sm) : TS := fun D σ H => ∃ F0 B F δ E, SR K F0 B F H σ δ ∧ t E δ ∧ EnR K F0 B F E D
abbrev QS (X : Cx) (s : Stmt) (t : Sm) : Prop := PS X s (lftS X.K t)
abbrev QSs (X : Cx) (s : List Stmt) (t : Sm) : Prop := PSs X s (lftS X.K t)
section
variable {X : Cx} {s : Stmt} {rest : List Stmt} {e : Expr} {a b : Sm} {te : Ex} {pos : Pos}
theorem qs_nil : QSs X [] sNil := imp_PSs pss_nil fun D σ H h => by
  obtain ⟨F0, B, F, δ, E, S, h, k⟩ := h
  exact k.nx F H σ δ (.refl _) S h
theorem qs_one (h : QS X s a) : QSs X [s] a := pss_one h
theorem qs_cons (h1 : QS X s a) (h2 : QSs X rest b) : QSs X (s :: rest) (sSeq a b) := imp_PSs (pss_cons h1 h2) fun D σ H h => by
  obtain ⟨F0, B, F, δ, E, S, h, k⟩ := h
  exact ⟨F0, B, F, δ, { E with nx := Nxt (b E) }, S, h, ⟨fun F' H' σ' δ' e S' h' => ⟨F0, B, F', δ', E, S', h', k.mono e⟩, k.bk, k.ct, k.rt, k.rn⟩⟩
theorem qs_ret (he : QE X e te) : QS X (.Return (some e) pos) (sRet te) := imp_PS (ps_ret he) fun D σ H h => by
  obtain ⟨F0, B, F, δ, E, S, h, k⟩ := h
  exact ⟨F0, B, F, δ, _, S, h, fun v F' H' d x1 r1 q1 => k.rt F' H' v d x1.f (S.ext.trans x1) r1 q1⟩
/-- return x, x owned: a new list -/
theorem qs_retS (i : Nat) {x : Str} {px : Pos} (hi : X.N[i]? = some x := by rfl) (hv : Vis X.env.scope x := by first | exact Or.inl rfl | exact Or.inr (Or.inl rfl) | exact Or.inr (Or.inr rfl)) (hd : (x == ("__debug__" : Str)) = false := by decide)
    (hcd : (x == ("__classdict__" : Str)) = false := by decide) : QS X (.Return (some (.Name x px)) pos) (sRetS i) := imp_PS (ps_ret (pv i hi hv hd hcd)) fun D σ H h => by
  obtain ⟨F0, B, F, δ, E, S, h, k⟩ := h
  unfold sRetS asOwn at h
  split at h
  · rename_i p ds eg
    obtain ⟨h1, h2, h3, xs, h4, h5⟩ := S.own i p ds eg
    exact ⟨.ref p, h1, k.rn F H p xs ds (.refl _) S.ext h2 h3 h4 h5 h⟩
  · exact h.elim
theorem qs_retN : QS X (.Return none pos) sRetN := imp_PS ps_retN fun D σ H h => by
  obtain ⟨F0, B, F, δ, E, S, h, k⟩ := h
  exact k.rt F H _ _ (.refl _) S.ext .non h
theorem qs_brk : QS X (.Break pos) sBrk := imp_PS ps_break fun D σ H h => by
  obtain ⟨F0, B, F, δ, E, S, h, k⟩ := h
  exact k.bk F H σ δ (.refl _) S h
theorem qs_cnt : QS X (.Continue pos) sCnt := imp_PS ps_continue fun D σ H h => by
  obtain ⟨F0, B, F, δ, E, S, h, k⟩ := h
  exact k.ct F H σ δ (.refl _) S h
theorem qs_pass : QS X (.Pass pos) sNil := imp_PS ps_pass fun D σ H h => by
  obtain ⟨F0, B, F, δ, E, S, h, k⟩ := h
  exact k.nx F H σ δ (.refl _) S h
theorem qs_expr (he : QE X e te) (hs : swapsWith e none pos.line X.env = pure false := by rfl) : QS X (.Expr e pos) (sDrop te) := imp_PS (ps_expr he hs) fun D σ H h => by
  obtain ⟨F0, B, F, δ, E, S, h, k⟩ := h
  exact ⟨F0, B, F, δ, _, S, h, fun v F' H' d x1 r1 q1 => k.nx F' H' σ δ x1.f (S.mono x1) q1⟩
theorem qs_if {c : Expr} {p q : List Stmt} {t : Ts} (hc : QT X c t) (ha : QSs X p a) (hb : QSs X q b) : QS X (.If c p q pos) (sIf t a b) := imp_PS (ps_if hc ha hb) fun D σ H h => by
  obtain ⟨F0, B, F, δ, E, S, h, k⟩ := h
  refine ⟨F0, B, F, δ, _, S, h, fun c F1 H1 x1 q1 => ?_⟩
  cases c with
  | true =>
    have q1 : a E δ := by simpa using q1
    exact iteT ⟨F0, B, F1, δ, E, S.mono x1, q1, k.mono x1.f⟩
  | false =>
    have q1 : b E δ := by simpa using q1
    exact iteF ⟨F0, B, F1, δ, E, S.mono x1, q1, k.mono x1.f⟩
/-- a slot's list is given up ahead of the statement -/
theorem qs_frz (i : Nat) (h : QS X s a) : QS X s (sFrz i a) := imp_PS h fun D σ H h => by
  obtain ⟨F0, B, F, δ, E, S, h, k⟩ := h
  obtain ⟨F', x1, sF, S'⟩ := S.frz i
  exact ⟨F0, B, F', _, E, S', h, k.mono sF⟩
end

/-! ### slots forgotten -/
theorem SR.fgt1 {K : PySem.W.Frag} {F0 B F H : Hp} {σ : L2.St} {δ : PSt} (S : SR K F0 B F H σ δ) (i : Nat) : SR K F0 B F H σ (st δ i .no) := by
  have h := S.setNo (i := i) (o := (σ[i]?).getD none)
  have e : σ.set i ((σ[i]?).getD none) = σ := by
    apply List.ext_getElem?
    intro j
    by_cases hj : i = j
    · subst hj
      by_cases hl : i < σ.length
      · rw [List.getElem?_set_self hl, List.getElem?_eq_getElem hl]; rfl
      · rw [List.getElem?_eq_none (by simpa using hl), List.getElem?_eq_none (by omega)]
    · rw [List.getElem?_set_ne hj]
  rw [e] at h
  exact h
theorem SR.fgt {K : PySem.W.Frag} {F0 B F H : Hp} {σ : L2.St} {δ : PSt} (S : SR K F0 B F H σ δ) : ∀ vs : List Nat, SR K F0 B F H σ (wp δ vs)
  | [] => S
  | v :: vs => (S.fgt vs).fgt1 v
theorem qs_cut {X : Cx} {s : Stmt} {rest : List Stmt} {a b : Sm} (vs : List Nat) (h1 : QS X s a) (h2 : QSs X rest b) : QSs X (s :: rest) (sCut vs a b) := imp_PSs (pss_cons h1 h2) fun D σ H h => by
  obtain ⟨F0, B, F, δ, E, S, ⟨J, h, hJ⟩, k⟩ := h
  exact ⟨F0, B, F, δ, _, S, h, ⟨fun F' H' σ' δ' e S' h' => ⟨F0, B, F', _, E, S'.fgt vs, hJ _ h', k.mono e⟩, k.bk, k.ct, k.rt, k.rn⟩⟩
theorem qs_fgt {X : Cx} {s : Stmt} {a : Sm} (vs : List Nat) (h : QS X s a) : QS X s (sFgt vs a) := imp_PS h fun D σ H h => by
  obtain ⟨F0, B, F, δ, E, S, h, k⟩ := h
  exact ⟨F0, B, F, _, E, S.fgt vs, h, k⟩
theorem qss_end {X : Cx} {s : List Stmt} {a : Sm} (vs : List Nat) (h : QSs X s a) : QSs X s (sEnd vs a) := imp_PSs h fun D σ H h => by
  obtain ⟨F0, B, F, δ, E, S, h, k⟩ := h
  exact ⟨F0, B, F, δ, _, S, h, fun F' H' σ' δ' e S' h' => k.nx F' H' σ' _ e (S'.fgt vs) h', k.bk, fun F' H' σ' δ' e S' h' => k.ct F' H' σ' _ e (S'.fgt vs) h', k.rt, k.rn⟩

/-! ### targets -/
theorem wipe_set {σ : L2.St} {i : Nat} {o : Option V} : ∀ {vs : List Nat}, vs.contains i = true → wipe (σ.set i o) vs = wipe σ vs
  | [], h => by simp at h
  | v :: vs, h => by
    unfold wipe
    by_cases hi : vs.contains i = true
    · rw [wipe_set hi]
    · have e : v = i := by
        simp at h hi
        rcases h with h | h
        · exact h.symm
        · exact absurd h hi
      subst e
      have key : ∀ (us : List Nat), us.contains v = false → wipe (σ.set v o) us = (wipe σ us).set v o := by
        intro us
        induction us with
        | nil => intro _; rfl
        | cons u us ih =>
          intro hu
          simp at hu
          unfold wipe
          rw [ih (by simpa using hu.2), List.set_comm _ _ (fun z => hu.1 z)]
      rw [key vs (by simpa using hi), List.set_set]
def lftG (K : PySem.W.Frag) (t : Tgt) : TG := fun v σ H Q => ∃ F0 B F δ d P, SR K F0 B F H σ δ ∧ Rp K F d v ∧ tg t d δ P ∧
  ∀ σ' δ', SR K F0 B F H σ' δ' → (∀ vs, t.inn vs = true → wipe σ' vs = wipe σ vs) → P δ' → Q σ' H
def lftGs (K : PySem.W.Frag) (ts : List Tgt) : TGs := fun us σ H Q => ∃ F0 B F δ ds P, SR K F0 B F H σ δ ∧ RpL K F ds us ∧ tgL ts ds δ P ∧
  ∀ σ' δ', SR K F0 B F H σ' δ' → (∀ vs, Tgt.innL vs ts = true → wipe σ' vs = wipe σ vs) → P δ' → Q σ' H
theorem imp_PG {X : Cx} {e : Expr} {t t' : TG} (h : PG X e t) (i : ∀ v σ H Q, t' v σ H Q → t v σ H Q) : PG X e t' := ⟨fun pins s σ H v u Q I r hq => h.run pins s σ H v u Q I r (i _ _ _ _ hq)⟩
theorem imp_PGs {X : Cx} {e : List Expr} {t t' : TGs} (h : PGs X e t) (i : ∀ v σ H Q, t' v σ H Q → t v σ H Q) : PGs X e t' := ⟨fun pins s σ H v u Q I r hq => h.run pins s σ H v u Q I r (i _ _ _ _ hq)⟩
abbrev QG (X : Cx) (e : Expr) (t : Tgt) : Prop := PG X e (lftG X.K t)
abbrev QGs (X : Cx) (es : List Expr) (ts : List Tgt) : Prop := PGs X es (lftGs X.K ts)
mutual
theorem tg_ex : ∀ (t : Tgt) (d : D) (δ : PSt) (Q : PSt → Prop), tg t d δ Q → ∃ δ', Q δ'
  | .nm i, d, δ, Q, h => ⟨_, by simpa only [tg] using h⟩
  | .tp ts, .tup xs, δ, Q, h => tgL_ex ts xs δ Q (by simpa only [tg] using h)
  | .tp _, .non, _, _, h => by simp [tg] at h
  | .tp _, .bl _, _, _, h => by simp [tg] at h
  | .tp _, .int _, _, _, h => by simp [tg] at h
  | .tp _, .str _, _, _, h => by simp [tg] at h
  | .tp ts, .lst xs, δ, Q, h => tgL_ex ts xs δ Q (by simpa only [tg] using h)
theorem tgL_ex : ∀ (ts : List Tgt) (xs : List D) (δ : PSt) (Q : PSt → Prop), tgL ts xs δ Q → ∃ δ', Q δ'
  | [], [], δ, Q, h => ⟨δ, by simpa only [tgL] using h⟩
  | t :: ts, x :: xs, δ, Q, h => by
    simp only [tgL] at h
    obtain ⟨δ', h'⟩ := tg_ex t x δ _ h
    exact tgL_ex ts xs δ' Q h'
  | [], _ :: _, _, _, h => by simp [tgL] at h
  | _ :: _, [], _, _, h => by simp [tgL] at h
end
theorem tgL_len : ∀ {ts : List Tgt} {xs : List D} {δ : PSt} {Q : PSt → Prop}, tgL ts xs δ Q → xs.length = ts.length
  | [], [], _, _, _ => rfl
  | t :: ts, x :: xs, δ, Q, h => by
    simp only [tgL] at h
    obtain ⟨δ', h'⟩ := tg_ex t x δ _ h
    simp [tgL_len h']
  | [], _ :: _, _, _, h => by simp [tgL] at h
  | _ :: _, [], _, _, h => by simp [tgL] at h
section
variable {X : Cx} {pos : Pos} {e : Expr} {es : List Expr} {t : Tgt} {ts : List Tgt}
theorem qg_name (i : Nat) {x : Str} (hN : X.N.Nodup) (hi : X.N[i]? = some x := by rfl) (hx : Loc X.env.scope x := by first | exact Or.inl rfl | exact Or.inr rfl) (hf : X.fn x = true ∨ X.env.scope.names.lookup x = some .local := by first | exact .inl rfl | exact .inr rfl | assumption) : QG X (.Name x pos) (.nm i) :=
  imp_PG (pg_name hN hi hx hf) fun v σ H Q h => by
    obtain ⟨F0, B, F, δ, d, P, S, r, h, k⟩ := h
    exact k _ _ (S.setVal r) (fun vs hv => wipe_set (by simpa [Tgt.inn] using hv)) (by simpa only [tg] using h)
theorem qgs_nil : QGs X [] [] := imp_PGs pgs_nil fun v σ H Q h => by
  obtain ⟨F0, B, F, δ, ds, P, S, r, h, k⟩ := h
  cases ds with
  | nil =>
    simp only [RpL] at r
    exact ⟨r, k σ δ S (fun _ _ => rfl) (by simpa only [tgL] using h)⟩
  | cons d ds => simp [tgL] at h
theorem qgs_cons (h1 : QG X e t) (h2 : QGs X es ts) (hs : (assignEach (e :: es) X.env).map (·.2) = assign e X.env :: (assignEach es X.env).map (·.2) := by rfl) : QGs X (e :: es) (t :: ts) :=
  imp_PGs (pgs_cons h1 h2 hs) fun us σ H Q h => by
    obtain ⟨F0, B, F, δ, ds, P, S, r, h, k⟩ := h
    cases ds with
    | nil => simp [tgL] at h
    | cons d ds =>
      obtain ⟨v, us, rfl, r1, r2⟩ := r.inv
      simp only [tgL] at h
      refine ⟨v, us, rfl, F0, B, F, δ, d, _, S, r1, h, fun σ1 δ1 S1 w1 h1 => ⟨F0, B, F, δ1, ds, P, S1, r2, h1, fun σ2 δ2 S2 w2 h2 => k σ2 δ2 S2 (fun vs hv => ?_) h2⟩⟩
      simp only [Tgt.innL, Bool.and_eq_true] at hv
      rw [w2 vs hv.2, w1 vs hv.1]
theorem sameSqL {K : PySem.W.Frag} {H H' : Hp} {a : Addr} {xs : List V} (e : Same H H') (h : SqL K H a xs) : SqL K H' a xs := by
  rcases h with (h | ⟨o, h⟩) | h
  · exact .inl (.inl (e _ _ h))
  · exact .inl (.inr ⟨o, e _ _ h⟩)
  · exact .inr h
theorem pg_or {X : Cx} {e : Expr} {t1 t2 : TG} (h1 : PG X e t1) (h2 : PG X e t2) : PG X e (fun v σ H Q => t1 v σ H Q ∨ t2 v σ H Q) := ⟨fun pins s σ H v u Q I r hq => hq.elim (h1.run pins s σ H v u Q I r) (h2.run pins s σ H v u Q I r)⟩
theorem qg_tup {k : Nat} (hc : X.calm = true) (h : QGs X es ts) (hn : (assignEach es X.env).length = ts.length := by rfl) (hst : (assignEach es X.env).findIdx? (·.1) = none := by rfl) : QG X (.Tuple es k pos) (.tp ts) :=
  imp_PG (pg_or (pg_tup hc h hn hst) (pg_unl hc h hn hst)) fun v σ H Q h => by
    obtain ⟨F0, B, F, δ, d, P, S, r, h, k⟩ := h
    cases d with
    | tup xs =>
      simp only [tg] at h
      obtain ⟨a, us, rfl, r1, r2⟩ := r.tupI
      exact .inl ⟨a, us, rfl, sameT S.ext.s r1, by rw [r2.len]; exact tgL_len h, F0, B, F, δ, xs, P, S, r2, h, fun σ' δ' S' w h' => k σ' δ' S' (fun vs hv => w vs (by simpa [Tgt.inn] using hv)) h'⟩
    | lst xs =>
      simp only [tg] at h
      obtain ⟨a, us, rfl, r1, r2⟩ := r.lstI
      exact .inr ⟨a, us, rfl, sameSqL S.ext.s r1, by rw [r2.len]; exact tgL_len h, F0, B, F, δ, xs, P, S, r2, h, fun σ' δ' S' w h' => k σ' δ' S' (fun vs hv => w vs (by simpa [Tgt.inn] using hv)) h'⟩
    | _ => simp [tg] at h
end

/-! ### assignments -/
section
variable {X : Cx} {e : Expr} {te : Ex} {pos : Pos}
theorem asg_val {K : PySem.W.Frag} {i : Nat} {D : Ends} {σ : L2.St} {H : Hp} (h : lftS K (sAsg te (.nm i)) D σ H) : tAsg (lft K te) (L2.gName i) D σ H := by
  obtain ⟨F0, B, F, δ, E, S, h, k⟩ := h
  refine ⟨F0, B, F, δ, _, S, h, fun v F1 H1 d x1 r1 q1 => ?_⟩
  exact k.nx F1 H1 _ _ x1.f ((S.mono x1).setVal r1) (by simpa only [tg] using q1)
theorem asg_own {K : PySem.W.Frag} {i : Nat} {D : Ends} {σ : L2.St} {H : Hp} (h : lftS K (sOwn i te) D σ H) : tAsg (lftF K te) (L2.gName i) D σ H := by
  obtain ⟨F0, B, F, δ, E, S, h, k⟩ := h
  refine ⟨F0, B, F, δ, _, S, h, fun p xs ds F1 H1 x1 hp hF hH r1 q1 => ?_⟩
  obtain ⟨hB, _, hh⟩ := S.free hp
  have S1 := S.mono x1
  refine k.nx F1 H1 _ _ x1.f (S1.setOwn (a := p) hB hF (fun j _ => hh j) r1 ?_) (q1 p)
  funext b
  by_cases hb : b = p
  · subst hb; rw [upd_same]; exact hH
  · rw [upd_ne hb]
theorem qs_set (i : Nat) {x : Str} {pos' : Pos} (hN : X.N.Nodup) (he : QE X e te) (hi : X.N[i]? = some x := by rfl) (hx : Loc X.env.scope x := by first | exact Or.inl rfl | exact Or.inr rfl) (hs : swapsWith e (some (.Name x pos')) pos.line X.env = pure false := by rfl) (hf : X.fn x = true ∨ X.env.scope.names.lookup x = some .local := by first | exact .inl rfl | exact .inr rfl | assumption) :
    QS X (.Assign [.Name x pos'] e pos) (sAsg te (.nm i)) := imp_PS (ps_set hN hi hx he hs hf) fun _ _ _ => asg_val
theorem qs_own (i : Nat) {x : Str} {pos' : Pos} (hN : X.N.Nodup) (he : QF X e te) (hi : X.N[i]? = some x := by rfl) (hx : Loc X.env.scope x := by first | exact Or.inl rfl | exact Or.inr rfl) (hs : swapsWith e (some (.Name x pos')) pos.line X.env = pure false := by rfl) (hf : X.fn x = true ∨ X.env.scope.names.lookup x = some .local := by first | exact .inl rfl | exact .inr rfl | assumption) :
    QS X (.Assign [.Name x pos'] e pos) (sOwn i te) := imp_PS (ps_set hN hi hx he hs hf) fun _ _ _ => asg_own
/-- any target -/
theorem qs_asg {tgt : Expr} {t : Tgt} (he : QE X e te) (hg : QG X tgt t) (hs : swapsWithSole [tgt] e pos.line X.env = pure false := by rfl) (hw : swappedStores [tgt] e X.env = pure none := by rfl)
    (h1 : (assignEach [tgt] X.env).map (·.2) = [assign tgt X.env] := by rfl) : QS X (.Assign [tgt] e pos) (sAsg te t) := imp_PS (ps_asg he hg hs hw h1) fun D σ H h => by
  obtain ⟨F0, B, F, δ, E, S, h, k⟩ := h
  refine ⟨F0, B, F, δ, _, S, h, fun v F1 H1 d x1 r1 q1 => ?_⟩
  exact ⟨F0, B, F1, δ, d, _, S.mono x1, r1, q1, fun σ' δ' S' _ h' => k.nx F1 H1 σ' δ' x1.f S' h'⟩
/-- a, b = x, y; plain local names -/
theorem qs_par (i j : Nat) {x y : Str} {a b : Expr} {ta tb : Ex} {px py pt : Pos} {kt k2 pt2} (hc : X.calm = true) (hN : X.N.Nodup) (ha : QE X a ta) (hb : QE X b tb) (hi : X.N[i]? = some x := by rfl) (hj : X.N[j]? = some y := by rfl) (hij : i ≠ j := by decide)
    (hx : X.env.scope.names.lookup x = some .local := by rfl) (hy : X.env.scope.names.lookup y = some .local := by rfl) (hse : starEach [a, b] X.env = (false, eval a X.env) :: starEach [b] X.env := by rfl) (hse2 : starEach [b] X.env = (false, eval b X.env) :: starEach [] X.env := by rfl)
    (hw : swappedStores [.Tuple [.Name x px, .Name y py] kt pt] (.Tuple [a, b] k2 pt2) X.env = pure (some [x, y]) := by rfl)
    (hs : swapsWithSole [.Tuple [.Name x px, .Name y py] kt pt] (.Tuple [a, b] k2 pt2) pos.line X.env = pure false := by rfl) :
    QS X (.Assign [.Tuple [.Name x px, .Name y py] kt pt] (.Tuple [a, b] k2 pt2) pos) (sPar i j ta tb) :=
  imp_PS (ps_par hc hN hi hj hij hx hy (pa_cons ha (pa_cons hb pa_nil hse2) hse) hw hs) fun D σ H h => by
    obtain ⟨F0, B, F, δ, E, S, h, k⟩ := h
    refine ⟨F0, B, F, δ, _, S, h, fun v F1 H1 d x1 r1 q1 => ⟨F0, B, F1, δ, _, S.mono x1, q1, fun u F2 H2 d2 x2 r2 q2 => ⟨v, u, rfl, ?_⟩⟩⟩
    exact k.nx F2 H2 _ _ (x1.f.trans x2.f) ((((S.mono x1).mono x2).setVal (r1.mono x2.f)).setVal r2) q2
theorem qs_aug (i : Nat) {x : Str} {op : Operator} {r : R2} {p : Op2} {pos' : Pos} (ho : OpR X (inplaceOp op) r ∧ V2 X.K r p) (hN : X.N.Nodup) (he : QE X e te) (hi : X.N[i]? = some x := by rfl) (hx : Loc X.env.scope x := by first | exact Or.inl rfl | exact Or.inr rfl) (hf : X.fn x = true ∨ X.env.scope.names.lookup x = some .local := by first | exact .inl rfl | exact .inr rfl | assumption) :
    QS X (.AugAssign (.Name x pos') op e pos) (sAug i p te) := imp_PS (ps_aug (ti := r) hN hi hx he (fun pins s σ H x y v u Q I rx ry q => ho.1 pins s σ H x y v u Q I rx ry q) hf) fun D σ H h => by
  obtain ⟨F0, B, F, δ, E, S, h, k⟩ := h
  unfold sAug asVal at h
  split at h
  · rename_i d eg
    obtain ⟨v, h1, h2⟩ := S.val i d eg
    refine ⟨v, h1, F0, B, F, δ, _, S, h, fun u F1 H1 y x1 r1 q1 => ho.2 F1 H1 d y v u _ _ x1.s (h2.mono x1.f) r1 q1 fun w F' H' z x2 r2 q2 => ?_⟩
    exact k.nx F' H' _ _ (x1.f.trans x2.f) (((S.mono x1).mono x2).setVal r2) q2
  · exact h.elim
/-- x.append(e), x owned -/
theorem qs_app (i : Nat) {x : Str} {px apos : Pos} {p2 : Pos} (he : QE X e te) (hi : X.N[i]? = some x := by rfl) (hv : Vis X.env.scope x := by first | exact Or.inl rfl | exact Or.inr (Or.inl rfl) | exact Or.inr (Or.inr rfl)) (hd : (x == ("__debug__" : Str)) = false := by decide)
    (hcd : (x == ("__classdict__" : Str)) = false := by decide) (hs : swapsWith (.Call (.Attribute (.Name x px) "append" apos) [e] [] p2) none pos.line X.env = pure false := by rfl)
    (hse : starEach [e] X.env = (false, eval e X.env) :: starEach [] X.env := by rfl) (hbase : attributeBase (.Name x px) "append" X.env (eval (.Name x px) X.env) = eval (.Name x px) X.env := by rfl) (hline : (apos.endLine == p2.line) = true := by rfl)
    (hfew : (((backTo p2 (starEach [e] X.env)).all fun x => !x.fst) && ((backToKw p2 (keywordEach [] X.env)).all fun x => x.fst.isSome) && decide (([e].length + ([] : List Keyword).length + if ([] : List Keyword).isEmpty = true then 0 else 1) < 30)) = true := by rfl) :
    QS X (.Expr (.Call (.Attribute (.Name x px) "append" apos) [e] [] p2) pos) (sApp i te) :=
  imp_PS (ps_expr (pe_bm (hfew := hfew) (hline := hline) (hs := hse) PySem.F.plainAttrs_list PySem.F.slot_list_append PySem.F.type_list_append mt_append (pv i hi hv hd hcd) (pa_cons he pa_nil hse)) hs) fun D σ H h => by
    obtain ⟨F0, B, F, δ, E, S, h, k⟩ := h
    unfold sApp asOwn at h
    split at h
    · rename_i p ds eg
      obtain ⟨h1, h2, h3, xs, h4, h5⟩ := S.own i p ds eg
      refine ⟨.ref p, h1, .inl ⟨rfl, _, .of h4⟩, F0, B, F, δ, _, S, h, fun u F1 H1 y x1 r1 q1 => ?_⟩
      have h4' := x1.h.at h4
      have h3' : F1 p = none := x1.n p (by rw [h4]; simp) h3
      refine ⟨p, xs, u, rfl, rfl, h4', by rw [line_eq, h5.len]; exact q1.1, ?_⟩
      have S1 := S.mono x1
      have S2 := S1.setOwn (i := i) (a := p) (ds := ds ++ [y]) (xs := xs ++ [u]) h2 h3' (fun j hj z => hj (S.nd j i p z (at_own eg))) ((h5.mono x1.f).app (.cons r1 .nil)) rfl
      refine k.nx F1 _ _ _ x1.f ?_ q1.2
      have es : σ.set i (some (.ref p)) = σ := by
        apply List.ext_getElem?
        intro j
        by_cases hj : i = j
        · subst hj
          have hl : i < σ.length := by rw [S.len]; exact gt_in (by rw [eg]; simp)
          rw [List.getElem?_set_self hl, h1]
        · rw [List.getElem?_set_ne hj]
      rw [es] at S2
      exact S2
    · exact h.elim
/-- x[i] = e, x owned -/
theorem qs_sub (i : Nat) {x : Str} {b : Expr} {tb : Ex} {px spos : Pos} (he : QE X e te) (hb : QE X b tb) (hi : X.N[i]? = some x := by rfl) (hv : Vis X.env.scope x := by first | exact Or.inl rfl | exact Or.inr (Or.inl rfl) | exact Or.inr (Or.inr rfl)) (hd : (x == ("__debug__" : Str)) = false := by decide)
    (hcd : (x == ("__classdict__" : Str)) = false := by decide)
    (ha : ∀ v, assign (.Subscript (.Name x px) b spos) X.env v = (do
      let ov ← holding [v] (eval (.Name x px) X.env)
      let iv ← holding [v, ov] (eval b X.env)
      standAt spos
      holding [v, ov, iv] (setItem ov iv v)
      release [v, ov, iv] []) := by intro _; rfl)
    (hs : swapsWithSole [.Subscript (.Name x px) b spos] e pos.line X.env = pure false := by rfl) (hw : swappedStores [.Subscript (.Name x px) b spos] e X.env = pure none := by rfl)
    (h1 : (assignEach [.Subscript (.Name x px) b spos] X.env).map (·.2) = [assign (.Subscript (.Name x px) b spos) X.env] := by rfl) :
    QS X (.Assign [.Subscript (.Name x px) b spos] e pos) (sSet i tb te) :=
  imp_PS (ps_asg he (pg_sub (pv i hi hv hd hcd) hb set_list ha) hs hw h1) fun D σ H h => by
    obtain ⟨F0, B, F, δ, E, S, h, k⟩ := h
    unfold sSet asOwn at h
    split at h
    · rename_i p ds eg
      obtain ⟨g1, g2, g3, xs, g4, g5⟩ := S.own i p ds eg
      refine ⟨F0, B, F, δ, _, S, h, fun u F1 H1 y x1 r1 q1 => ⟨.ref p, g1, F0, B, F1, δ, _, S.mono x1, q1, fun w F2 H2 z x2 r2 q2 => ?_⟩⟩
      have x12 := x1.trans x2
      cases z with
      | int c =>
        obtain ⟨j, q2, q3⟩ := q2
        have g4' := x12.h.at g4
        have g3' : F2 p = none := x12.n p (by rw [g4]; simp) g3
        refine ⟨p, xs, c, j, rfl, r2.intI, g4', by rw [g5.len]; exact q2, ?_⟩
        have S1 := S.mono x12
        have S2 := S1.setOwn (i := i) (a := p) (ds := ds.set j y) (xs := xs.set j u) g2 g3' (fun j hj z => hj (S.nd j i p z (at_own eg))) ((g5.mono x12.f).set j (r1.mono x2.f)) rfl
        refine k.nx F2 _ _ _ x12.f ?_ q3
        have es : σ.set i (some (.ref p)) = σ := by
          apply List.ext_getElem?
          intro j
          by_cases hj : i = j
          · subst hj
            have hl : i < σ.length := by rw [S.len]; exact gt_in (by rw [eg]; simp)
            rw [List.getElem?_set_self hl, g1]
          · rw [List.getElem?_set_ne hj]
        rw [es] at S2
        exact S2
      | _ => exact q2.elim
    · exact h.elim
end
end PL

set_option Elab.async false
set_option linter.all false
set_option maxRecDepth 100000
namespace PL
variable [Tabs]
open PySem PySem.Spec PyProof.Rows L2

/-! ### what is walked -/
structure ItD (K : PySem.W.Frag) (F : Hp) (J : It) (ds : List D) : Prop where
  go : ∀ i F1 H1, Same F F1 → Same F1 H1 → i < ds.length → J.go i H1
  yld : ∀ i F1 H1 x H2, Same F F1 → Same F1 H1 → i < ds.length → J.yld i H1 x H2 → ∃ F2 d, Ext F1 H1 F2 H2 ∧ ds[i]? = some d ∧ Rp K F2 d x
  stop : ∀ F1 H1, Same F F1 → Same F1 H1 → J.stop ds.length H1
def lftI (K : PySem.W.Frag) (t : Ar) : TI := fun σ H R => ∃ F0 B F δ Qd, SR K F0 B F H σ δ ∧ t δ Qd ∧ ∀ ds J F' H', Ext F H F' H' → ItD K F' J ds → Qd ds → R J H'
abbrev QI (X : Cx) (tg iter : Expr) (t : Ar) : Prop := PI X tg iter (lftI X.K t)
theorem imp_PI {X : Cx} {tg e : Expr} {t t' : TI} (h : PI X tg e t) (i : ∀ σ H R, t' σ H R → t σ H R) : PI X tg e t' := ⟨fun pins s σ H R I hq => h.run pins s σ H R I (i _ _ _ hq)⟩
section
variable {K : PySem.W.Frag} {F : Hp}
theorem itd_list {a : Addr} {xs : List V} {ds : List D} (h : SqL K F a xs) (r : RpL K F ds xs) : ItD K F (Itl K a) ds := by
  refine ⟨fun i F1 H1 s1 s2 hi => ?_, fun i F1 H1 x H2 s1 s2 hi hy => ?_, fun F1 H1 s1 s2 => ⟨xs, s2.seq (s1.seq h), by rw [r.len]; exact Nat.le_refl _⟩⟩
  · obtain ⟨v, e, _⟩ := r.get (List.getElem?_eq_getElem hi)
    exact ⟨xs, v, s2.seq (s1.seq h), e⟩
  · obtain ⟨v, e, rv⟩ := r.get (List.getElem?_eq_getElem hi)
    obtain ⟨rfl, hy⟩ := hy
    have := hy xs (s2.seq (s1.seq h))
    rw [e] at this; cases this
    exact ⟨F1, _, .refl s2, List.getElem?_eq_getElem hi, rv.mono s1⟩
theorem itd_tup {a : Addr} {xs : List V} {ds : List D} (h : SqT K F a xs) (r : RpL K F ds xs) : ItD K F (Itt K a) ds := by
  refine ⟨fun i F1 H1 s1 s2 hi => ?_, fun i F1 H1 x H2 s1 s2 hi hy => ?_, fun F1 H1 s1 s2 => ⟨xs, sameT s2 (sameT s1 h), by rw [r.len]; exact Nat.le_refl _⟩⟩
  · obtain ⟨v, e, _⟩ := r.get (List.getElem?_eq_getElem hi)
    exact ⟨xs, v, sameT s2 (sameT s1 h), e⟩
  · obtain ⟨v, e, rv⟩ := r.get (List.getElem?_eq_getElem hi)
    obtain ⟨rfl, hy⟩ := hy
    have := hy xs (sameT s2 (sameT s1 h))
    rw [e] at this; cases this
    exact ⟨F1, _, .refl s2, List.getElem?_eq_getElem hi, rv.mono s1⟩
theorem rng_len (lo : Int) (n : Nat) : (rng lo n).length = n := by simp [rng]
theorem rng_get {lo : Int} {n i : Nat} (h : i < n) : (rng lo n)[i]? = some (.int (lo + i)) := by
  unfold rng
  rw [List.getElem?_map, List.getElem?_range h]
  rfl
theorem itd_rng {lo : Int} {n : Nat} : ItD K F (Itr lo n) (rng lo n) := by
  refine ⟨fun i F1 H1 s1 s2 hi => ?_, fun i F1 H1 x H2 s1 s2 hi hy => ?_, fun F1 H1 s1 s2 => ?_⟩
  · rw [rng_len] at hi; exact hi
  · rw [rng_len] at hi
    obtain ⟨rfl, rfl⟩ := hy
    exact ⟨F1, _, .refl s2, rng_get hi, .int _⟩
  · rw [rng_len]; exact Nat.le_refl n
end
section
variable {X : Cx} {tgt e e2 : Expr} {te tb : Ex} {pos p : Pos}
/-- a list or a tuple -/
theorem qi_seq (he : QE X e te) : QI X tgt e (iSeq te) := by
  refine ⟨fun pins s σ H R I h => ?_⟩
  obtain ⟨F0, B, F, δ, Qd, S, h, k⟩ := h
  have he' : PE X e (fun σ' H' Q' => σ' = σ ∧ H' = H ∧ ∀ v F1 H1 d, Ext F H F1 H1 → Rp X.K F1 d v → asSeq d Qd → Q' v H1) :=
    imp_PE he fun σ' H' Q' hh => by
      obtain ⟨rfl, rfl, kk⟩ := hh
      exact ⟨F0, B, F, δ, _, S, h, kk⟩
  refine thn (he'.run pins s σ H _ I ⟨rfl, rfl, fun v F1 H1 d x1 r1 q1 => (show (∃ F1 d, Ext F H F1 H1 ∧ Rp X.K F1 d v ∧ asSeq d Qd) from ⟨F1, d, x1, r1, q1⟩)⟩) fun u s1 hq => ?_
  obtain ⟨v, H1, I1, rv, F1, d, x1, r1, q1⟩ := hq
  cases d with
  | tup xs =>
    obtain ⟨a, us, rfl, h1, h2⟩ := r1.tupI
    cases rv
    obtain ⟨its, rw', p', hz⟩ := I1.tuple (sameT x1.s h1)
    refine wpAny_pyIter_tuple (show s1.heap.IsTuple a its.toArray from p') ?_
    refine ⟨s1.heap.objs.size, [s1.heap.objs.size], _, _, H1, rfl, I1.kept (t' := s1.toks) fun b o e => Heap.get?_push_of_some _ e, turn_tuple a _, ⟨_, Heap.get?_push_size _ rfl, rfl, rfl⟩, fun b hb => ?_, k xs _ F1 H1 x1 (itd_tup h1 h2) q1⟩
    have e : b = s1.heap.objs.size := by simpa using hb
    subst e
    exact I1.fpOk (Nat.le_refl _) (I1.hok.fresh (Nat.le_refl _))
  | lst xs =>
    obtain ⟨a, us, rfl, h1, h2⟩ := r1.lstI
    cases rv
    obtain ⟨its, rw', p', hz⟩ := I1.list (x1.s.seq h1)
    refine wpAny_pyIter_list p'.isList ?_
    refine ⟨s1.heap.objs.size, [s1.heap.objs.size], _, _, H1, rfl, I1.kept (t' := s1.toks) fun b o e => Heap.get?_push_of_some _ e, turn_list a _, ⟨_, Heap.get?_push_size _ rfl, rfl, rfl⟩, fun b hb => ?_, k xs _ F1 H1 x1 (itd_list h1 h2) q1⟩
    have e : b = s1.heap.objs.size := by simpa using hb
    subst e
    exact I1.fpOk (Nat.le_refl _) (I1.hok.fresh (Nat.le_refl _))
  | _ => exact q1.elim
theorem qi_rng1 (hm : X.mg "range" = none) (ha : QE X e te) (hg : Gl X "range" := by rfl) (hse : starEach [e] X.env = (false, eval e X.env) :: starEach [] X.env := by rfl) (hs : starEach [e] X.env = [(false, eval e X.env)] := by rfl) : QI X tgt (.Call (.Name "range" p) [e] [] pos) (iRng1 te) :=
  imp_PI (pi_range1 hg hm (pa_cons ha pa_nil hse) hs) fun σ H R h => by
    obtain ⟨F0, B, F, δ, Qd, S, h, k⟩ := h
    refine ⟨F0, B, F, δ, _, S, h, fun v F1 H1 d x1 r1 q1 => ?_⟩
    cases d with
    | int n => exact ⟨n, by rw [r1.intI], q1.1.1, q1.1.2, k _ _ F1 H1 x1 itd_rng q1.2⟩
    | _ => exact q1.elim
theorem qi_rng2 (hm : X.mg "range" = none) (ha : QE X e te) (hb : QE X e2 tb) (hg : Gl X "range" := by rfl) (hse : starEach [e, e2] X.env = (false, eval e X.env) :: starEach [e2] X.env := by rfl) (hse2 : starEach [e2] X.env = (false, eval e2 X.env) :: starEach [] X.env := by rfl)
    (hs : starEach [e, e2] X.env = [(false, eval e X.env), (false, eval e2 X.env)] := by rfl) (hs2 : starEach [e2] X.env = [(false, eval e2 X.env)] := by rfl) : QI X tgt (.Call (.Name "range" p) [e, e2] [] pos) (iRng2 te tb) :=
  imp_PI (pi_range2 hg hm (pa_cons ha (pa_cons hb pa_nil hse2) hse) hs hs2) fun σ H R h => by
    obtain ⟨F0, B, F, δ, Qd, S, h, k⟩ := h
    refine ⟨F0, B, F, δ, _, S, h, fun v F1 H1 d x1 r1 q1 => ⟨F0, B, F1, δ, _, S.mono x1, q1, fun u F2 H2 d2 x2 r2 q2 => ?_⟩⟩
    cases d with
    | int m =>
      cases d2 with
      | int n => exact ⟨m, n, by rw [r1.intI, r2.intI], q2.1, k _ _ F2 H2 (x1.trans x2) itd_rng q2.2⟩
      | _ => exact q2.elim
    | _ => cases d2 <;> exact q2.elim
end

/-! ### for, while -/
section
variable {X : Cx} {pos : Pos}
theorem qs_for (vs : List Nat) {tgt iter : Expr} {body : List Stmt} {ti : Ar} {g : Tgt} {b : Sm} (hp : PassesOwn (model X.prog X.w) X.A X.env X.xe) (hc : X.calm = true) (hi : QI X tgt iter ti) (hg : QG X tgt g) (hb : QSs X body b)
    (hs : ∀ x, foldedSetIterable iter X.env x = pure x := by intro _; rfl) : QS X (.For tgt iter body [] pos) (sFor vs ti g b) :=
  imp_PS (ps_for hp hc hi hg hb hs) fun D σ H h => by
    obtain ⟨F0, B, F, δ, E, S, h, k⟩ := h
    refine ⟨F0, B, F, δ, _, S, h, fun ds J F1 H1 x1 it q1 => ?_⟩
    obtain ⟨I, h0, step, done⟩ := q1
    refine ⟨fun i m σ' H' => i + m = ds.length ∧ ∃ F' δ', Same F1 F' ∧ SR X.K F0 B F' H' σ' δ' ∧ I i δ', ⟨ds.length, Nat.zero_add _, F1, _, .refl _, (S.mono x1).fgt vs, h0⟩, ?_⟩
    rintro i m σ' H' ⟨hm, F', δ', sF, S', hI⟩
    cases m with
    | zero =>
      have e : i = ds.length := by omega
      subst e
      exact .inl ⟨it.stop F' H' sF S'.ext.s, k.nx F' H' σ' δ' (x1.f.trans sF) S' (done δ' hI)⟩
    | succ m =>
      have hi : i < ds.length := by omega
      refine .inr ⟨it.go i F' H' sF S'.ext.s hi, fun σ2 H2 => ∃ F2 δ2, Same F1 F2 ∧ SR X.K F0 B F2 H2 σ2 δ2 ∧ I (i + 1) δ2, fun σ2 H2 ⟨F2, δ2, s2, S2, h2⟩ => ⟨m, Nat.lt_succ_self _, by omega, F2, δ2, s2, S2, h2⟩, fun x H2 hy => ?_⟩
      obtain ⟨F2, d, x2, ed, rd⟩ := it.yld i F' H' x H2 sF S'.ext.s hi hy
      have key := step i d δ' ed hI
      refine ⟨F0, B, F2, δ', d, _, S'.mono x2, rd, key, fun σ3 δ3 S3 _ h3 => ⟨F0, B, F2, δ3, _, S3, h3, ?_⟩⟩
      have s12 : Same F1 F2 := sF.trans x2.f
      exact ⟨fun F4 H4 σ4 δ4 s4 S4 h4 => ⟨F4, δ4, s12.trans s4, S4, h4⟩, fun F4 H4 σ4 δ4 s4 S4 h4 => k.nx F4 H4 σ4 δ4 ((x1.f.trans s12).trans s4) S4 h4,
        fun F4 H4 σ4 δ4 s4 S4 h4 => ⟨F4, δ4, s12.trans s4, S4, h4⟩, fun F4 H4 v d s4 e4 r4 h4 => k.rt F4 H4 v d ((x1.f.trans s12).trans s4) e4 r4 h4, fun F4 H4 p xs ds s4 => k.rn F4 H4 p xs ds ((x1.f.trans s12).trans s4)⟩
theorem qs_while {c : Expr} {body : List Stmt} {t : Ts} {b : Sm} (hp : PassesOwn (model X.prog X.w) X.A X.env X.xe) (hc : QT X c t) (hb : QSs X body b) : QS X (.While c body [] pos) (sWhile t b) :=
  imp_PS (ps_while hp hc hb) fun D σ H h => by
    obtain ⟨F0, B, F, δ, E, S, ⟨I, ⟨n0, h0⟩, step⟩, k⟩ := h
    refine ⟨fun n σ' H' => ∃ F' δ', Same F F' ∧ SR X.K F0 B F' H' σ' δ' ∧ I n δ', ⟨n0, F, δ, .refl _, S, h0⟩, ?_⟩
    rintro n σ' H' ⟨F', δ', sF, S', hI⟩
    refine ⟨F0, B, F', δ', _, S', step n δ' hI, fun c F1 H1 x1 q1 => ?_⟩
    cases c with
    | true =>
      rw [if_pos rfl] at q1
      refine iteT ⟨fun σ2 H2 => ∃ F2 δ2, Same F F2 ∧ SR X.K F0 B F2 H2 σ2 δ2 ∧ ∃ n', n' < n ∧ I n' δ2, fun σ2 H2 ⟨F2, δ2, s2, S2, n', hl, h2⟩ => ⟨n', hl, F2, δ2, s2, S2, h2⟩, F0, B, F1, δ', _, S'.mono x1, q1, ?_⟩
      have s12 : Same F F1 := sF.trans x1.f
      exact ⟨fun F4 H4 σ4 δ4 s4 S4 h4 => ⟨F4, δ4, s12.trans s4, S4, h4⟩, fun F4 H4 σ4 δ4 s4 S4 h4 => k.nx F4 H4 σ4 δ4 (s12.trans s4) S4 h4,
        fun F4 H4 σ4 δ4 s4 S4 h4 => ⟨F4, δ4, s12.trans s4, S4, h4⟩, fun F4 H4 v d s4 e4 r4 h4 => k.rt F4 H4 v d (s12.trans s4) e4 r4 h4, fun F4 H4 p xs ds s4 => k.rn F4 H4 p xs ds (s12.trans s4)⟩
    | false =>
      rw [if_neg Bool.false_ne_true] at q1
      exact iteF (k.nx F1 H1 σ' δ' (sF.trans x1.f) (S'.mono x1) q1)
end

/-! ### list comprehensions -/
theorem wipe_idem {τ : L2.St} {vs : List Nat} (h : ∀ u ∈ vs, ∀ x, τ[u]? ≠ some (some x)) : ∀ us : List Nat, (∀ u ∈ us, u ∈ vs) → L2.wipe τ us = τ
  | [], _ => rfl
  | u :: us, hu => by
    unfold L2.wipe
    rw [wipe_idem h us fun z hz => hu z (List.mem_cons_of_mem _ hz)]
    apply List.ext_getElem?
    intro j
    by_cases hj : u = j
    · subst hj
      by_cases hl : u < τ.length
      · rw [List.getElem?_set_self hl]
        cases q : τ[u]? with
        | none => rw [List.getElem?_eq_none_iff] at q; omega
        | some o =>
          cases o with
          | none => rfl
          | some v => exact absurd q (h u (hu u List.mem_cons_self) v)
      · rw [List.getElem?_eq_none (by simpa using hl), List.getElem?_eq_none (by omega)]
    · rw [List.getElem?_set_ne hj]
theorem SR.wipe {K : PySem.W.Frag} {F0 B F H : Hp} {σ : L2.St} {δ : PSt} (S : SR K F0 B F H σ δ) : ∀ vs : List Nat, SR K F0 B F H (L2.wipe σ vs) (wp δ vs)
  | [] => S
  | v :: vs => by
    unfold L2.wipe wp
    exact (S.wipe vs).setNo
section
variable {X : Cx}
theorem qts_nil : PTs X [] (lftT X.K tYes) := ⟨fun _ _ _ H _ I h => by
  obtain ⟨F0, B, F, δ, Qd, S, h, k⟩ := h
  exact wpAny_tests_nil ⟨H, I, k true F H (.refl S.ext.s) h⟩⟩
theorem qts_one {c : Expr} {t : Ts} (h : QT X c t) : PTs X [c] (lftT X.K t) := pts_one h
theorem lft_lc {K : PySem.W.Frag} {ti : Ar} {g : Tgt} {t : Ts} {e : Ex} {vs : List Nat} (hv : g.inn vs = true) {σ : L2.St} {H : Hp} {Q : VK} (h : lftF K (eLc ti vs g t e) σ H Q) : tLc (lftI K ti) (lftG K g) (lftT K t) (lft K e) vs σ H Q := by
  obtain ⟨F0, B, F, δ, Qd, S, h, k⟩ := h
  refine ⟨F0, B, F, δ, _, S, h, fun ds J F1 H1 x1 it q1 p hp => ?_⟩
  obtain ⟨hlen, I, h0, step, done⟩ := q1
  have hF1 : F1 p = none := x1.s.free hp
  refine ⟨fun i m H' => i + m = ds.length ∧ ∃ F' acc us, Ext F1 H1 F' H' ∧ F' p = none ∧ H' p = some (.lst us) ∧ RpL K F' acc us ∧ I i acc ∧ acc.length ≤ i, ⟨ds.length, Nat.zero_add _, F1, [], [], ⟨.refl _, .same (upd_same_of hp), x1.s.trans (upd_same_of hp), fun _ _ q => q⟩, hF1, upd_same, .nil, h0, Nat.le_refl _⟩, ?_⟩
  rintro i m H' ⟨hm, F', acc, us, x2, hF', hH', ra, hI, hacc⟩
  cases m with
  | zero =>
    have e : i = ds.length := by omega
    subst e
    exact .inl ⟨it.stop F' H' x2.f x2.s, k p us acc F' H' (x1.trans x2) (x1.h.free hp) hF' hH' ra (done acc hI)⟩
  | succ m =>
    have hi : i < ds.length := by omega
    refine .inr ⟨it.go i F' H' x2.f x2.s hi, fun H2 => ∃ F2 acc2 us2, Ext F1 H1 F2 H2 ∧ F2 p = none ∧ H2 p = some (.lst us2) ∧ RpL K F2 acc2 us2 ∧ I (i + 1) acc2 ∧ acc2.length ≤ i + 1,
      fun H2 ⟨F2, acc2, us2, a1, a2, a3, a4, a5, a6⟩ => ⟨m, Nat.lt_succ_self _, by omega, F2, acc2, us2, a1, a2, a3, a4, a5, a6⟩, fun x H2 hy => ?_⟩
    obtain ⟨F2, d, x3, ed, rd⟩ := it.yld i F' H' x H2 x2.f x2.s hi hy
    have x23 := x2.trans x3
    have nF2 : F2 p = none := x3.n p (by rw [hH']; simp) hF'
    have S2 : SR K F0 B F2 H2 (L2.wipe σ vs) (wp δ vs) := (S.mono (x1.trans x23)).wipe vs
    refine ⟨F0, B, F2, wp δ vs, d, _, S2, rd, step i d acc ed hI, fun σ3 δ3 S3 w3 h3 => ⟨?_, ?_⟩⟩
    · have := w3 vs hv
      rw [this]
      exact wipe_idem (fun u hu x z => absurd hu (wipe_some z).2) vs fun _ h => h
    · refine ⟨F0, B, F2, δ3, _, S3, h3, fun c F3 H3 x4 q3 => ?_⟩
      have x234 := x23.trans x4
      have nF3 : F3 p = none := x4.n p (by rw [x3.h.at hH']; simp) nF2
      have hH3 := x4.h.at (x3.h.at hH')
      cases c with
      | true =>
        rw [if_pos rfl] at q3
        refine iteT ⟨F0, B, F3, δ3, _, S3.mono x4, q3, fun y F4 H4 z x5 rz q5 => ?_⟩
        have x2345 := x234.trans x5
        have nF4 : F4 p = none := x5.n p (by rw [hH3]; simp) nF3
        have hH4 := x5.h.at hH3
        have ra4 : RpL K F4 acc us := ra.mono (x3.f.trans (x4.f.trans x5.f))
        refine ⟨us, hH4, by rw [line_eq, ra.len]; show acc.length < 16777216; omega, F4, acc ++ [z], us ++ [y], ⟨x2345.f, x2345.h.upd hp, fun b o e => ?_, x2345.n⟩, nF4, upd_same, ra4.app (.cons rz .nil), q5, by rw [List.length_append, List.length_singleton]; omega⟩
        rw [upd_ne (ne_of_none e nF4)]; exact x5.s b o e
      | false =>
        rw [if_neg Bool.false_ne_true] at q3
        exact iteF ⟨F3, acc, us, x234, nF3, hH3, ra.mono (x3.f.trans x4.f), q3, by omega⟩
theorem qf_lc {elt tgt iter : Expr} {ifs : List Expr} {scope : Scope} {own : List (Str × Nat)} {pos : Pos} {ti : Ar} {g : Tgt} {t : Ts} {e : Ex} (hc : X.calm = true) (hN : X.N.Nodup) (hi : QI X tgt iter ti) (ok : BlkOk X.N X.env.scope scope own) (hv : g.inn (own.map (·.2)) = true)
    (hg : ∀ (s : Shared) (H : Hp) (C : Addr) (cl : List (Str × Addr)) (fp : List Addr), QG (X.blk s H scope (compEnvC scope cl C X.env) fp) tgt g) (ht : ∀ (s : Shared) (H : Hp) (C : Addr) (cl : List (Str × Addr)) (fp : List Addr), PTs (X.blk s H scope (compEnvC scope cl C X.env) fp) ifs (lftT X.K t))
    (he : ∀ (s : Shared) (H : Hp) (C : Addr) (cl : List (Str × Addr)) (fp : List Addr), QE (X.blk s H scope (compEnvC scope cl C X.env) fp) elt e) (hs : ∀ x, foldedSetIterable iter X.env x = pure x := by intro _; rfl) :
    QF X (.ListComp elt [⟨tgt, iter, ifs, 0⟩] scope pos) (eLc ti (own.map (·.2)) g t e) :=
  imp_PE (pe_lc hc hN hi ok hg ht he hs) fun _ _ _ => lft_lc hv
theorem qs_ownLc (i : Nat) {y : Str} {py : Pos} {elt tgt iter : Expr} {ifs : List Expr} {scope : Scope} {own : List (Str × Nat)} {pos spos : Pos} {ti : Ar} {g : Tgt} {t : Ts} {e : Ex} (hc : X.calm = true) (hN : X.N.Nodup) (hi : QI X tgt iter ti) (ok : BlkOk X.N X.env.scope scope own) (hv : g.inn (own.map (·.2)) = true)
    (hg : ∀ (s : Shared) (H : Hp) (C : Addr) (cl : List (Str × Addr)) (fp : List Addr), QG (X.blk s H scope (compEnvC scope cl C X.env) fp) tgt g) (ht : ∀ (s : Shared) (H : Hp) (C : Addr) (cl : List (Str × Addr)) (fp : List Addr), PTs (X.blk s H scope (compEnvC scope cl C X.env) fp) ifs (lftT X.K t))
    (he : ∀ (s : Shared) (H : Hp) (C : Addr) (cl : List (Str × Addr)) (fp : List Addr), QE (X.blk s H scope (compEnvC scope cl C X.env) fp) elt e)
    (hy : X.N[i]? = some y := by rfl) (hyl : X.env.scope.names.lookup y = some .local := by rfl) (hsw : swapsWith (.ListComp elt [⟨tgt, iter, ifs, 0⟩] scope pos) (some (.Name y py)) spos.line X.env = pure true := by exact sw_true rfl rfl rfl (by decide +kernel)) (hs : ∀ x, foldedSetIterable iter X.env x = pure x := by intro _; rfl) :
    QS X (.Assign [.Name y py] (.ListComp elt [⟨tgt, iter, ifs, 0⟩] scope pos) spos) (sOwn i (eLc ti (own.map (·.2)) g t e)) :=
  imp_PS (ps_setLc hc hN hy hyl hsw hi ok hg ht he hs) fun D σ H h => lft_lc hv (asg_own h)
theorem qs_setLc (i : Nat) {y : Str} {py : Pos} {elt tgt iter : Expr} {ifs : List Expr} {scope : Scope} {own : List (Str × Nat)} {pos spos : Pos} {ti : Ar} {g : Tgt} {t : Ts} {e : Ex} (hc : X.calm = true) (hN : X.N.Nodup) (hi : QI X tgt iter ti) (ok : BlkOk X.N X.env.scope scope own) (hv : g.inn (own.map (·.2)) = true)
    (hg : ∀ (s : Shared) (H : Hp) (C : Addr) (cl : List (Str × Addr)) (fp : List Addr), QG (X.blk s H scope (compEnvC scope cl C X.env) fp) tgt g) (ht : ∀ (s : Shared) (H : Hp) (C : Addr) (cl : List (Str × Addr)) (fp : List Addr), PTs (X.blk s H scope (compEnvC scope cl C X.env) fp) ifs (lftT X.K t))
    (he : ∀ (s : Shared) (H : Hp) (C : Addr) (cl : List (Str × Addr)) (fp : List Addr), QE (X.blk s H scope (compEnvC scope cl C X.env) fp) elt e)
    (hy : X.N[i]? = some y := by rfl) (hyl : X.env.scope.names.lookup y = some .local := by rfl) (hsw : swapsWith (.ListComp elt [⟨tgt, iter, ifs, 0⟩] scope pos) (some (.Name y py)) spos.line X.env = pure true := by exact sw_true rfl rfl rfl (by decide +kernel)) (hs : ∀ x, foldedSetIterable iter X.env x = pure x := by intro _; rfl) :
    QS X (.Assign [.Name y py] (.ListComp elt [⟨tgt, iter, ifs, 0⟩] scope pos) spos) (sAsg (eLc ti (own.map (·.2)) g t e) (.nm i)) :=
  imp_PS (ps_setLc hc hN hy hyl hsw hi ok hg ht he hs) fun D σ H h => lft_lc hv (lft_lftF (asg_val h))
end

/-! ### a def -/
theorem gt_app_left : ∀ {a b : List Sl} {i : Nat}, i < a.length → gt (a ++ b) i = gt a i
  | [], _, _, h => by simp at h
  | _ :: _, _, 0, _ => rfl
  | _ :: r, b, i + 1, h => gt_app_left (a := r) (by simpa using h)
theorem gt_app_right : ∀ {a b : List Sl} {i : Nat}, a.length ≤ i → gt (a ++ b) i = gt b (i - a.length)
  | [], _, _, _ => rfl
  | _ :: r, b, i + 1, h => by
    show gt (r ++ b) i = _
    rw [gt_app_right (a := r) (by simpa using h)]
    simp
theorem gt_map : ∀ {ds : List D} {i : Nat} {d : D}, gt (ds.map Sl.val) i = .val d → ds[i]? = some d
  | [], _, _, h => by simp [gt] at h
  | x :: _, 0, d, h => by
    have h : Sl.val x = .val d := h
    cases h; rfl
  | _ :: r, i + 1, d, h => by simpa using gt_map (ds := r) (i := i) h
theorem gt_map_own : ∀ {ds : List D} {i : Nat} {a : Nat} {es : List D}, gt (ds.map Sl.val) i ≠ .own a es
  | [], _, _, _ => by simp [gt]
  | _ :: _, 0, _, _ => by simp
  | _ :: r, i + 1, a, es => gt_map_own (ds := r) (i := i)
theorem gt_map_dic : ∀ {ds : List D} {i : Nat} {a : Nat} {k : Bool} {m : List (D × D)}, gt (ds.map Sl.val) i ≠ .dic a k m
  | [], _, _, _, _ => by simp [gt]
  | _ :: _, 0, _, _, _ => by simp
  | _ :: r, i + 1, a, k, m => gt_map_dic (ds := r) (i := i)
theorem gt_rep : ∀ {n i : Nat}, gt (List.replicate n .no) i = .no
  | 0, _ => rfl
  | n + 1, 0 => rfl
  | n + 1, i + 1 => by rw [List.replicate_succ]; exact gt_rep (n := n)
theorem SR.start {K : PySem.W.Frag} {F H : Hp} {N : List Str} {vs : List V} {ds : List D} (s : SameT F H) (r : RpL K F ds vs) (hl : vs.length ≤ N.length) : SR K F H F H (L2.start N vs) (startP N.length ds) := by
  have e := r.len
  have own0 : ∀ i a es, gt (startP N.length ds) i ≠ .own a es := fun i a es h => by
    unfold startP at h
    by_cases hi : i < (ds.map Sl.val).length
    · rw [gt_app_left hi] at h; exact gt_map_own h
    · rw [gt_app_right (by omega), gt_rep] at h; cases h
  have dic0 : ∀ i a k m, gt (startP N.length ds) i ≠ .dic a k m := fun i a k m h => by
    unfold startP at h
    by_cases hi : i < (ds.map Sl.val).length
    · rw [gt_app_left hi] at h; exact gt_map_dic h
    · rw [gt_app_right (by omega), gt_rep] at h; cases h
  have at0 : ∀ i a, slAt (gt (startP N.length ds) i) ≠ some a := fun i a h => by
    cases e : gt (startP N.length ds) i with
    | own b es => exact own0 i b es e
    | dic b k m => exact dic0 i b k m e
    | _ => rw [e] at h; cases h
  refine ⟨.refl s.s, ?_, fun i d h => ?_, fun i a es h => absurd h (own0 i a es), fun i a k m h => absurd h (dic0 i a k m), fun i j a h _ => absurd h (at0 i a), s.t⟩
  · unfold L2.start startP
    simp only [List.length_append, List.length_map, List.length_replicate]
    omega
  · unfold startP at h
    by_cases hi : i < (ds.map Sl.val).length
    · rw [gt_app_left hi] at h
      obtain ⟨v, h1, h2⟩ := r.get (gt_map h)
      refine ⟨v, ?_, h2⟩
      unfold L2.start
      rw [List.getElem?_append_left (by rw [List.length_map]; rw [List.length_map] at hi; omega), List.getElem?_map, h1]
      rfl
    · rw [gt_app_right (by omega), gt_rep] at h; cases h
/-- THE RULE for a def of the text: its body's walk, and the pure side's proof -/
theorem q_def {P : Program} {w : World} {K : PySem.W.Frag} {mg : Str → Option Value} {base : Heap} {x qual : Str} {st : Stmt} {f : Addr} {fd : FuncData} {N ps : List Str} {k : Nat} {pm : Pm} {b : Sm} (F : Fun K x qual st f fd) (S : FnScope N ps (defScope st)) (n : Nat) (hn : N.length = n)
    (len : ∀ ds Q, pm ds Q → ds.length = ps.length)
    (walk : ∀ (cdv : Value) (A : Around) (outer : List Env) (s : Shared) (H : Hp) (E : XK), Room k (A.deeper (envOfC qual (defScope st) s.heap.objs.size f cdv)) → QSs (cxOf CX0 P w K mg base N qual (defScope st) f cdv A outer s H E).nox (defBody st) b)
    (pure_ : ∀ ds Q, pm ds Q → b (endsOf Q) (startP n ds)) : FnOk P w K mg base CX0 (k + 1) f fd ps (lsp K pm) := by
  subst hn
  refine F.ok S (fun vs H Q E h => ?_) fun cdv A outer s H vs Q E hr h => ?_
  · obtain ⟨F, ds, Qd, _, r, h, _⟩ := h
    rw [r.len]; exact len ds Qd h
  · obtain ⟨F1, ds, Qd, sF, r, h, kk⟩ := h
    have hpl : ps.length ≤ N.length := by have := congrArg List.length S.pre; rw [List.length_take] at this; omega
    refine ⟨_, walk cdv A outer s H E hr, F1, H, F1, startP N.length ds, endsOf Qd, SR.start sF r (by rw [r.len, len ds Qd h]; exact hpl), pure_ ds Qd h, fun F' H' σ' δ' s1 S1 h1 => kk _ _ _ _ S1.ext .non h1, fun F' H' σ' δ' s1 S1 h1 => h1.elim, fun F' H' σ' δ' s1 S1 h1 => h1.elim, fun F' H' v d s1 e1 r1 h1 => kk v F' H' d e1 r1 h1, fun F' H' p xs ds s1 e1 b1 f1 h1 r1 q1 => let ⟨x2, s2⟩ := Ext.frzNew (K := K) e1 b1 f1 h1; kk (.ref p) _ H' _ x2 (.lst (.of upd_same) (r1.mono s2)) q1⟩
end PL

set_option Elab.async false
set_option linter.all false
set_option maxRecDepth 100000
namespace PL
variable [Tabs]
open PySem PySem.Spec PyProof.Rows L2

/-- the built-in names that the text leaves alone -/
structure Bi (mg : Str → Option Value) : Prop where
  abs : mg "abs" = none
  all : mg "all" = none
  any : mg "any" = none
  enumerate : mg "enumerate" = none
  int : mg "int" = none
  isinstance : mg "isinstance" = none
  len : mg "len" = none
  list : mg "list" = none
  max : mg "max" = none
  min : mg "min" = none
  range : mg "range" = none
  reversed : mg "reversed" = none
  set : mg "set" = none
  sorted : mg "sorted" = none
  str : mg "str" = none
  sum : mg "sum" = none
  tuple : mg "tuple" = none
  type : mg "type" = none
  zip : mg "zip" = none
  bool : mg "bool" = none
  dict : mg "dict" = none

def FdAt (K : PySem.W.Frag) (f : Addr) (fd : FuncData) : Prop := ∃ oc od osl, K.lookup f = some ⟨oc, od, .func fd, osl⟩
theorem fdat {K : PySem.W.Frag} {x qual : Str} {st : Stmt} {f : Addr} {fd : FuncData} (F : Fun K x qual st f fd) : FdAt K f fd := by
  obtain ⟨oc, od, kV, doc, pm, an, cdv, ct, osl, _, lk, _⟩ := F.ex
  exact ⟨_, _, _, lk⟩
/-- a def that is there and keeps a pure promise -/
def Cal (P : Program) (w : World) (K : PySem.W.Frag) (mg : Str → Option Value) (base : Heap) (x : Str) (k : Nat) (ps : List Str) (pm : Pm) : Prop :=
  ∃ f fd, FnOk P w K mg base CX0 k f fd ps (lsp K pm) ∧ mg x = some (.ref f) ∧ PySem.W.keepIn K (.ref f) = true ∧ L2.Binds K fd ps [] ∧ FdAt K f fd
theorem q_callC {X : Cx} {e : Expr} {es : List Expr} {pos p : Pos} {x : Str} {k : Nat} {ps : List Str} {pm : Pm} {t : Ar} (C : Cal X.prog X.w X.K X.mg X.base x k ps pm) (hr : Room k X.A) (ha : QA X (e :: es) t) (hg : Gl X x := by rfl)
    (hdb : (x == ("__debug__" : Str)) = false := by decide) (he : starEach (e :: es) X.env = (false, eval e X.env) :: starEach es X.env := by rfl) (hpl : (backTo pos (starEach es X.env)).any (·.1) = false := by rfl) :
    QE X (.Call (.Name x p) (e :: es) [] pos) (eCall pm t) := by
  obtain ⟨f, fd, F, hm, hk, hb, _⟩ := C
  exact q_call F hr hm hk hb ha hg hdb he hpl
theorem q_callC0 {X : Cx} {pos p : Pos} {x : Str} {k : Nat} {ps : List Str} {pm : Pm} (C : Cal X.prog X.w X.K X.mg X.base x k ps pm) (hr : Room k X.A) (hg : Gl X x := by rfl)
    (hdb : (x == ("__debug__" : Str)) = false := by decide) : QE X (.Call (.Name x p) [] [] pos) (eCall pm aNil) := by
  obtain ⟨f, fd, F, hm, hk, hb, _⟩ := C
  exact q_call0 F hr hm hk hb hg hdb
section
variable {P : Program} {w : World} {K : PySem.W.Frag} {mg : Str → Option Value} {base : Heap} {x : Str} {k : Nat} {ps : List Str} {pm pm' : Pm} {f : Addr} {fd : FuncData}
theorem cal_zero (hm : mg x = some (.ref f)) (hk : PySem.W.keepIn K (.ref f) = true) (hb : L2.Binds K fd ps []) (hf : FdAt K f fd) (z : ∀ ds Q, pm ds Q → False) : Cal P w K mg base x k ps pm := by
  refine ⟨f, fd, ⟨fun vs H Q E h => ?_, fun A outer s H args us vs Q E _ _ _ _ h => ?_⟩, hm, hk, hb, hf⟩
  · obtain ⟨F, ds, Qd, _, _, h, _⟩ := h
    exact (z _ _ h).elim
  · obtain ⟨F, ds, Qd, _, _, h, _⟩ := h
    exact (z _ _ h).elim
theorem Cal.imp (C : Cal P w K mg base x k ps pm) (h : ∀ ds Q, pm' ds Q → pm ds Q) : Cal P w K mg base x k ps pm' := by
  obtain ⟨f, fd, F, a, b, c⟩ := C
  refine ⟨f, fd, F.imp fun vs H Q E q => ?_, a, b, c⟩
  obtain ⟨F, ds, Qd, s, r, q, kk⟩ := q
  exact ⟨F, ds, Qd, s, r, h _ _ q, kk⟩
theorem cal_fn {st : Stmt} {qual : Str} (C : Cal P w K mg base x k ps pm) (hm : mg x = some (.ref f)) (F : Fun K x qual st f fd) : FnOk P w K mg base CX0 k f fd ps (lsp K pm) := by
  obtain ⟨f', fd', G, hm', _, _, _, _, _, lk'⟩ := C
  rw [hm] at hm'
  cases hm'
  obtain ⟨oc, od, kV, doc, pm, an, cdv, ct, osl, _, lk, _⟩ := F.ex
  rw [lk] at lk'
  cases lk'
  exact G
end

/-- the heap without its tables -/
def noTab (H : Hp) : Hp := fun b => match H b with
  | some (.tbl _) => none
  | o => o
omit [Tabs] in
theorem noTab_at {H : Hp} {b : Addr} {o : HO} (e : H b = some o) (n : ∀ ps, o ≠ .tbl ps := by intro _ z; cases z) : noTab H b = some o := by
  unfold noTab
  rw [e]
  cases o <;> first | rfl | exact absurd rfl (n _)
omit [Tabs] in
theorem noTab_tbl {H : Hp} {b : Addr} {ps : Array Value} (e : H b = some (.tbl ps)) : noTab H b = none := by
  unfold noTab
  rw [e]
omit [Tabs] in
theorem noTab_same {H : Hp} : Same (noTab H) H := fun b o e => by
  unfold noTab at e
  split at e
  · cases e
  · exact e
/-- the law's own promise -/
theorem law_start {K : PySem.W.Frag} {a : Addr} {ns : List Int} {H : Hp} {E : XK} {n : Nat} (hl : ns.length ≤ n) (hn : n = 63) (hT : ∀ P ∈ Tabs.T, H P = some (.tbl #[])) (hS : SqL K H a (ns.map V.int)) : lsp K pLaw [.ref a] H (fun v _ => v = .bl true) E := by
  subst hn
  have hS' : SqL K (noTab H) a (ns.map V.int) := by
    rcases hS with (h | ⟨o, h⟩) | h
    · exact .inl (.inl (noTab_at h))
    · exact .inl (.inr ⟨o, noTab_at h⟩)
    · exact .inr h
  refine ⟨noTab H, [.lst (ns.map .int)], fun d => d = .bl true, ⟨noTab_same, fun P hP => ⟨⟨#[], hT P hP, trivial⟩, noTab_tbl (hT P hP)⟩⟩, .cons (.lst hS' (RpL.ints ns)) .nil, ⟨ns, rfl, hl, rfl⟩, fun v F' H' d x1 r q => ?_⟩
  subst q
  exact r.blI

/-! ### owned lists read in place -/
section
variable {X : Cx} {pos p : Pos}
theorem k_addI : OpR X (inplaceOp .Add) (rI0 fun i j => .int (i + j)) ∧ V2 X.K (rI0 fun i j => .int (i + j)) oAddI := ⟨iop_add, v2I0 fun x y Q h => by
  cases x <;> cases y <;> first | exact h.elim | exact ⟨_, _, rfl, rfl, h⟩⟩
theorem q_lenS (hm : X.mg "len" = none) (i : Nat) {x : Str} {px : Pos} (hi : X.N[i]? = some x := by rfl) (hv : Vis X.env.scope x := by first | exact Or.inl rfl | exact Or.inr (Or.inl rfl) | exact Or.inr (Or.inr rfl)) (hd : (x == ("__debug__" : Str)) = false := by decide)
    (hcd : (x == ("__classdict__" : Str)) = false := by decide) (hg : Gl X "len" := by rfl) (he : starEach [.Name x px] X.env = (false, eval (.Name x px) X.env) :: starEach [] X.env := by rfl) : QE X (.Call (.Name "len" p) [.Name x px] [] pos) (eLenS i) :=
  imp_PE (pe_callB call_len hg hm (by decide +kernel) (pa_cons (pv i hi hv hd hcd) pa_nil he) (by decide) (by decide) he rfl) fun σ H Q h => by
    obtain ⟨F0, B, F, δ, Qd, S, h, k⟩ := h
    unfold eLenS asOwn at h
    split at h
    · rename_i a ds eg
      obtain ⟨h1, h2, h3, xs, h4, h5⟩ := S.own i a ds eg
      exact ⟨.ref a, h1, _, _, rfl, .inl ⟨xs, .of h4, rfl⟩, by rw [h5.len]; exact k _ F H _ (.refl S.ext.s) (.int _) h⟩
    · exact h.elim
theorem q_tupleS (hm : X.mg "tuple" = none) (i : Nat) {x : Str} {px : Pos} (hi : X.N[i]? = some x := by rfl) (hv : Vis X.env.scope x := by first | exact Or.inl rfl | exact Or.inr (Or.inl rfl) | exact Or.inr (Or.inr rfl)) (hd : (x == ("__debug__" : Str)) = false := by decide)
    (hcd : (x == ("__classdict__" : Str)) = false := by decide) (hg : Gl X "tuple" := by rfl) (he : starEach [.Name x px] X.env = (false, eval (.Name x px) X.env) :: starEach [] X.env := by rfl) : QE X (.Call (.Name "tuple" p) [.Name x px] [] pos) (eTupleS i) :=
  imp_PE (pe_callTy call_tuple_of hg hm (by decide +kernel) (pa_cons (pv i hi hv hd hcd) pa_nil he) (by decide) (by decide) he rfl) fun σ H Q h => by
    obtain ⟨F0, B, F, δ, Qd, S, h, k⟩ := h
    unfold eTupleS asOwn at h
    split at h
    · rename_i a ds eg
      obtain ⟨h1, h2, h3, xs, h4, h5⟩ := S.own i a ds eg
      refine ⟨.ref a, h1, a, xs, rfl, .inl ⟨.of h4, fun p hp => ?_⟩⟩
      have x2 : Ext F H (upd F p (.tup xs)) (upd H p (.tup xs)) := Ext.new S.ext.s hp
      exact k _ _ _ _ x2 (.tup upd_same (h5.mono x2.f)) h
    · exact h.elim
theorem qf_list {e : Expr} {te : Ex} (hm : X.mg "list" = none) (ha : QE X e te) (hg : Gl X "list" := by rfl) (he : starEach [e] X.env = (false, eval e X.env) :: starEach [] X.env := by rfl) : QF X (.Call (.Name "list" p) [e] [] pos) (eCall pList (aCons te aNil)) :=
  imp_PE (pe_callTy call_list_of hg hm (by decide +kernel) (pa_cons ha pa_nil he) (by decide) (by decide) he rfl) fun σ H Q h => by
    obtain ⟨F0, B, F, δ, Qd, S, h, k⟩ := h
    refine ⟨F0, B, F, δ, _, S, h, fun v F1 H1 d x1 r1 q1 => ?_⟩
    have key : ∀ (ds : List D) (a : Addr) (xs : List V), (SqL X.K H1 a xs ∨ SqT X.K H1 a xs) → RpL X.K F1 ds xs → Qd (.lst ds) → v = .ref a → ∃ p ys, [v] = [V.ref p] ∧ (SqL X.K H1 p ys ∨ SqT X.K H1 p ys) ∧ ∀ l, H1 l = none → Q (.ref l) (upd H1 l (.lst ys)) := by
      intro ds a xs hs hr hq e
      subst e
      refine ⟨a, xs, rfl, hs, fun l hl => ?_⟩
      have sH : Same H1 (upd H1 l (.lst xs)) := upd_same_of hl
      exact k l xs ds F1 _ ⟨x1.f, x1.h.thenS sH, x1.s.trans sH, x1.n⟩ (x1.h.free hl) (x1.s.free hl) upd_same hr hq
    cases d with
    | tup xs =>
      obtain ⟨a, us, e, h1, h2⟩ := r1.tupI
      exact key xs a us (.inr (sameT x1.s h1)) h2 q1 e
    | lst xs =>
      obtain ⟨a, us, e, h1, h2⟩ := r1.lstI
      exact key xs a us (.inl (x1.s.seq h1)) h2 q1 e
    | _ => exact q1.elim
end
end PL

set_option linter.all false
/-! PLL: tools for the pure side. -/
namespace PL
open PySem
theorem ite_ff {α : Sort _} {a b : α} : (if (false = true) then a else b) = b := by simp
theorem rng_eq (lo : Int) (n : Nat) : rng lo n = (List.range n).map fun (k : Nat) => D.int (lo + k) := rfl
theorem rng_length (lo : Int) (n : Nat) : (rng lo n).length = n := by simp [rng]
theorem rng_at {lo : Int} {n i : Nat} {d : D} (h : (rng lo n)[i]? = some d) : i < n ∧ d = .int (lo + i) := by
  unfold rng at h
  rw [List.getElem?_map] at h
  by_cases hi : i < n
  · rw [List.getElem?_range hi] at h
    exact ⟨hi, (Option.some.inj h).symm⟩
  · rw [List.getElem?_eq_none (by simpa using hi)] at h; cases h
theorem mem_rng {lo : Int} {n : Nat} {d : D} (h : d ∈ rng lo n) : ∃ k : Nat, k < n ∧ d = .int (lo + k) := by
  unfold rng at h
  obtain ⟨k, hk, rfl⟩ := List.mem_map.mp h
  exact ⟨k, List.mem_range.mp hk, rfl⟩

/-! what pw uses -/
theorem asVal_ {d : D} {Q : D → Prop} : asVal (.val d) Q = Q d := rfl
theorem asOwn_ {a : Nat} {ds : List D} {Q : Nat → List D → Prop} : asOwn (.own a ds) Q = Q a ds := rfl
theorem asB_ {b : Bool} {Q : Bool → Prop} : asB (.bl b) Q = Q b := rfl
theorem asI_ {i : Int} {Q : Int → Prop} : asI (.int i) Q = Q i := rfl
theorem asSeq_t {xs : List D} {Q : List D → Prop} : asSeq (.tup xs) Q = Q xs := rfl
theorem asSeq_l {xs : List D} {Q : List D → Prop} : asSeq (.lst xs) Q = Q xs := rfl
theorem asLst_ {xs : List D} {Q : List D → Prop} : asLst (.lst xs) Q = Q xs := rfl
theorem frzS_ {a : Nat} {ds : List D} : frzS (.own a ds) = .val (.lst ds) := rfl
theorem truD_b {b : Bool} {Q : Bool → Prop} : truD (.bl b) Q = Q b := rfl
theorem truD_i {b : Int} {Q : Bool → Prop} : truD (.int b) Q = Q (b != 0) := rfl
theorem truD_n {Q : Bool → Prop} : truD .non Q = Q false := rfl
theorem truD_t {b : List D} {Q : Bool → Prop} : truD (.tup b) Q = Q (!b.isEmpty) := rfl
theorem truD_l {b : List D} {Q : Bool → Prop} : truD (.lst b) Q = Q (!b.isEmpty) := rfl
theorem truD_s {x : Str} {Q : Bool → Prop} : truD (.str x) Q = (x.length ≤ 16777216 ∧ Q ((x.length : Int) != 0)) := rfl
theorem oAdd_ii {i j : Int} {Q : D → Prop} : oAdd (.int i) (.int j) Q = Q (.int (i + j)) := rfl
theorem oAddI_ii {i j : Int} {Q : D → Prop} : oAddI (.int i) (.int j) Q = Q (.int (i + j)) := rfl
theorem oSub_ii {i j : Int} {Q : D → Prop} : oSub (.int i) (.int j) Q = Q (.int (i - j)) := rfl
theorem oMul_ii {i j : Int} {Q : D → Prop} : oMul (.int i) (.int j) Q = (MulB i j ∧ Q (.int (i * j))) := rfl
theorem oFdiv_ii {i j : Int} {Q : D → Prop} : oFdiv (.int i) (.int j) Q = ((0 < j ∧ j < 2 ^ 64) ∧ Q (.int (i / j))) := rfl
theorem oFdivN_ii {i j : Int} {Q : D → Prop} : oFdivN (.int i) (.int j) Q = ((j ≠ 0 ∧ -1073741824 < j ∧ j < 1073741824) ∧ Q (.int (Int.fdiv i j))) := rfl
theorem oMod_ii {i j : Int} {Q : D → Prop} : oMod (.int i) (.int j) Q = (0 < j ∧ Q (.int (i % j))) := rfl
theorem oModN_ii {i j : Int} {Q : D → Prop} : oModN (.int i) (.int j) Q = (j ≠ 0 ∧ Q (.int (Int.fmod i j))) := rfl
theorem oPow_ii {i j : Int} {Q : D → Prop} : oPow (.int i) (.int j) Q = ((0 ≤ j ∧ j ≤ 1000000 ∧ -(2 ^ 64) < i ∧ i < 2 ^ 64) ∧ Q (.int (i ^ j.toNat))) := rfl
theorem oLt_ii {i j : Int} {Q : D → Prop} : oLt (.int i) (.int j) Q = Q (.bl (decide (i < j))) := rfl
theorem oLe_ii {i j : Int} {Q : D → Prop} : oLe (.int i) (.int j) Q = Q (.bl (decide (i ≤ j))) := rfl
theorem oGt_ii {i j : Int} {Q : D → Prop} : oGt (.int i) (.int j) Q = Q (.bl (decide (j < i))) := rfl
theorem oGe_ii {i j : Int} {Q : D → Prop} : oGe (.int i) (.int j) Q = Q (.bl (decide (j ≤ i))) := rfl
theorem oAdd_tt {x y : List D} {Q : D → Prop} : oAdd (.tup x) (.tup y) Q = (x.length + y.length ≤ 16777216 ∧ Q (.tup (x ++ y))) := rfl
theorem oAdd_ll {x y : List D} {Q : D → Prop} : oAdd (.lst x) (.lst y) Q = (x.length + y.length ≤ 16777216 ∧ Q (.lst (x ++ y))) := rfl
theorem oAdd_ss {x y : Str} {Q : D → Prop} : oAdd (.str x) (.str y) Q = (x.length + y.length ≤ 16777216 ∧ Q (.str (x ++ y))) := rfl
theorem oNeg_i {i : Int} {Q : D → Prop} : oNeg (.int i) Q = Q (.int (-i)) := rfl
theorem oIx_t {xs : List D} {i : Int} {Q : D → Prop} : oIx (.tup xs) (.int i) Q = atD xs i Q := rfl
theorem oIx_l {xs : List D} {i : Int} {Q : D → Prop} : oIx (.lst xs) (.int i) Q = atD xs i Q := rfl
theorem oIx_s {x : Str} {i : Int} {Q : D → Prop} : oIx (.str x) (.int i) Q = (x.length ≤ 16777216 ∧ ∃ j c, ixP x.cps.toList.length i = some j ∧ x.cps.toList[j]? = some c ∧ Q (.str ⟨#[c]⟩)) := rfl
theorem oCut_t {xs : List D} {l h : Option Int} {Q : D → Prop} : oCut (.tup xs) l h Q = Q (.tup (cutD xs l h)) := rfl
theorem oCut_l {xs : List D} {l h : Option Int} {Q : D → Prop} : oCut (.lst xs) l h Q = Q (.lst (cutD xs l h)) := rfl
theorem pLen_t {xs : List D} {Q : D → Prop} : pLen [.tup xs] Q = Q (.int xs.length) := rfl
theorem pLen_l {xs : List D} {Q : D → Prop} : pLen [.lst xs] Q = Q (.int xs.length) := rfl
theorem pLen_s {x : Str} {Q : D → Prop} : pLen [.str x] Q = (x.length ≤ 16777216 ∧ Q (.int x.length)) := rfl
theorem pAbs_ {i : Int} {Q : D → Prop} : pAbs [.int i] Q = Q (.int (if i < 0 then -i else i)) := rfl
theorem pInt_i {i : Int} {Q : D → Prop} : pInt [.int i] Q = Q (.int i) := rfl
theorem pInt_b {b : Bool} {Q : D → Prop} : pInt [.bl b] Q = Q (.int (if b then 1 else 0)) := rfl
theorem pMax2_ {i j : Int} {Q : D → Prop} : pMax2 [.int i, .int j] Q = Q (.int (if j > i then j else i)) := rfl
theorem pMin2_ {i j : Int} {Q : D → Prop} : pMin2 [.int i, .int j] Q = Q (.int (if j < i then j else i)) := rfl
theorem pTuple_t {xs : List D} {Q : D → Prop} : pTuple [.tup xs] Q = Q (.tup xs) := rfl
theorem pTuple_l {xs : List D} {Q : D → Prop} : pTuple [.lst xs] Q = Q (.tup xs) := rfl
theorem pList_t {xs : List D} {Q : D → Prop} : pList [.tup xs] Q = Q (.lst xs) := rfl
theorem pList_l {xs : List D} {Q : D → Prop} : pList [.lst xs] Q = Q (.lst xs) := rfl
theorem pAllL_ {xs : List D} {Q : D → Prop} : pAllL [.lst xs] Q = (∃ b, allB xs = some b ∧ Q (.bl b)) := rfl
theorem pAnyL_ {xs : List D} {Q : D → Prop} : pAnyL [.lst xs] Q = (∃ b, anyB xs = some b ∧ Q (.bl b)) := rfl
theorem pSumL_ {xs : List D} {Q : D → Prop} : pSumL [.lst xs] Q = (∃ n, sumD xs = some n ∧ Q (.int n)) := rfl
theorem isTy_nint  : isTy .non .int = false := rfl
theorem isTy_nbool  : isTy .non .bool = false := rfl
theorem isTy_nstr  : isTy .non .str = false := rfl
theorem isTy_ntuple  : isTy .non .tuple = false := rfl
theorem isTy_nlist  : isTy .non .list = false := rfl
theorem isTy_bint {b : Bool} : isTy (.bl b) .int = true := rfl
theorem isTy_bbool {b : Bool} : isTy (.bl b) .bool = true := rfl
theorem isTy_bstr {b : Bool} : isTy (.bl b) .str = false := rfl
theorem isTy_btuple {b : Bool} : isTy (.bl b) .tuple = false := rfl
theorem isTy_blist {b : Bool} : isTy (.bl b) .list = false := rfl
theorem isTy_iint {i : Int} : isTy (.int i) .int = true := rfl
theorem isTy_ibool {i : Int} : isTy (.int i) .bool = false := rfl
theorem isTy_istr {i : Int} : isTy (.int i) .str = false := rfl
theorem isTy_ituple {i : Int} : isTy (.int i) .tuple = false := rfl
theorem isTy_ilist {i : Int} : isTy (.int i) .list = false := rfl
theorem isTy_sint {x : Str} : isTy (.str x) .int = false := rfl
theorem isTy_sbool {x : Str} : isTy (.str x) .bool = false := rfl
theorem isTy_sstr {x : Str} : isTy (.str x) .str = true := rfl
theorem isTy_stuple {x : Str} : isTy (.str x) .tuple = false := rfl
theorem isTy_slist {x : Str} : isTy (.str x) .list = false := rfl
theorem isTy_tint {xs : List D} : isTy (.tup xs) .int = false := rfl
theorem isTy_tbool {xs : List D} : isTy (.tup xs) .bool = false := rfl
theorem isTy_tstr {xs : List D} : isTy (.tup xs) .str = false := rfl
theorem isTy_ttuple {xs : List D} : isTy (.tup xs) .tuple = true := rfl
theorem isTy_tlist {xs : List D} : isTy (.tup xs) .list = false := rfl
theorem isTy_lint {xs : List D} : isTy (.lst xs) .int = false := rfl
theorem isTy_lbool {xs : List D} : isTy (.lst xs) .bool = false := rfl
theorem isTy_lstr {xs : List D} : isTy (.lst xs) .str = false := rfl
theorem isTy_ltuple {xs : List D} : isTy (.lst xs) .tuple = false := rfl
theorem isTy_llist {xs : List D} : isTy (.lst xs) .list = true := rfl
theorem tg_nm {i : Nat} {d : D} {δ : PSt} {Q : PSt → Prop} : tg (.nm i) d δ Q = Q (st δ i (.val d)) := rfl
theorem tg_tpl {ts : List Tgt} {xs : List D} {δ : PSt} {Q : PSt → Prop} : tg (.tp ts) (.lst xs) δ Q = tgL ts xs δ Q := by simp only [tg]
theorem tg_tp {ts : List Tgt} {xs : List D} {δ : PSt} {Q : PSt → Prop} : tg (.tp ts) (.tup xs) δ Q = tgL ts xs δ Q := by simp only [tg]
theorem tgL_nil {δ : PSt} {Q : PSt → Prop} : tgL [] [] δ Q = Q δ := by simp only [tgL]
theorem tgL_cons {t : Tgt} {ts : List Tgt} {x : D} {xs : List D} {δ : PSt} {Q : PSt → Prop} : tgL (t :: ts) (x :: xs) δ Q = tg t x δ fun δ' => tgL ts xs δ' Q := by simp only [tgL]
theorem shp_n {n : Nat}  : shp n .non = true := by cases n <;> simp only [shp]
theorem shp_b {n : Nat} {b : Bool} : shp n (.bl b) = true := by cases n <;> simp only [shp]
theorem shp_i {n : Nat} {i : Int} : shp n (.int i) = true := by cases n <;> simp only [shp]
theorem shp_t {n : Nat} {xs : List D} : shp (n + 1) (.tup xs) = shpL n xs := by simp only [shp]
theorem shp_l {n : Nat} {xs : List D} : shp (n + 1) (.lst xs) = shpL n xs := by simp only [shp]
theorem shpL_nil {n : Nat} : shpL n [] = true := by simp only [shpL]
theorem shpL_cons {n : Nat} {x : D} {xs : List D} : shpL n (x :: xs) = (shp n x && shpL n xs) := by simp only [shpL]
theorem eqv_non_int  {j : Int} : D.eqv .non (.int j) = false := by simp only [D.eqv]
theorem eqv_int_non  {j : Int} : D.eqv (.int j) .non = false := by simp only [D.eqv]
theorem eqv_str_int {x : Str} {j : Int} : D.eqv (.str x) (.int j) = false := by simp only [D.eqv]
theorem eqv_int_str {x : Str} {j : Int} : D.eqv (.int j) (.str x) = false := by simp only [D.eqv]
theorem eqv_tup_int {xs : List D} {j : Int} : D.eqv (.tup xs) (.int j) = false := by simp only [D.eqv]
theorem eqv_int_tup {xs : List D} {j : Int} : D.eqv (.int j) (.tup xs) = false := by simp only [D.eqv]
theorem eqv_lst_int {xs : List D} {j : Int} : D.eqv (.lst xs) (.int j) = false := by simp only [D.eqv]
theorem eqv_int_lst {xs : List D} {j : Int} : D.eqv (.int j) (.lst xs) = false := by simp only [D.eqv]
theorem eqv_bb {a b : Bool} : D.eqv (.bl a) (.bl b) = (a == b) := by simp only [D.eqv]
theorem eqv_nn : D.eqv .non .non = true := by simp only [D.eqv]
theorem eqv_tt {x y : List D} : D.eqv (.tup x) (.tup y) = D.eqvL x y := by simp only [D.eqv]
theorem eqv_ll {x y : List D} : D.eqv (.lst x) (.lst y) = D.eqvL x y := by simp only [D.eqv]
theorem eqvL_nn : D.eqvL [] [] = true := by simp only [D.eqvL]
theorem eqvL_cc {a b : D} {x y : List D} : D.eqvL (a :: x) (b :: y) = (D.eqv a b && D.eqvL x y) := by simp only [D.eqvL]
theorem eqvL_nc {b : D} {y : List D} : D.eqvL [] (b :: y) = false := by simp only [D.eqvL]
theorem eqvL_cn {b : D} {y : List D} : D.eqvL (b :: y) [] = false := by simp only [D.eqvL]
/-! end of pw -/
theorem mulB_l {i j : Int} (h1 : -(2 ^ 64) < i) (h2 : i < 2 ^ 64) : MulB i j = True := eq_true (.inl ⟨h1, h2⟩)
theorem mulB_r {i j : Int} (h1 : -(2 ^ 64) < j) (h2 : j < 2 ^ 64) : MulB i j = True := eq_true (.inr ⟨h1, h2⟩)
/-! loops -/
theorem while_inv {α : Type} (s : α → PSt) (P : α → Prop) (m : α → Nat) (a0 : α) {t : Ts} {b : Sm} {E : En} {δ : PSt} (hd : δ = s a0) (h0 : P a0)
    (step : ∀ a, P a → t (s a) fun c => if c = true then b { nx := fun δ' => ∃ a', δ' = s a' ∧ P a' ∧ m a' < m a, rt := E.rt, rn := E.rn, bk := E.nx, ct := fun δ' => ∃ a', δ' = s a' ∧ P a' ∧ m a' < m a } (s a) else E.nx (s a)) : sWhile t b E δ := by
  refine ⟨fun n δ => ∃ a, δ = s a ∧ P a ∧ m a = n, ⟨_, a0, hd, h0, rfl⟩, ?_⟩
  rintro n _ ⟨a, rfl, hP, rfl⟩
  have e : (fun δ' => ∃ n', n' < m a ∧ ∃ a, δ' = s a ∧ P a ∧ m a = n') = fun δ' => ∃ a', δ' = s a' ∧ P a' ∧ m a' < m a := by
    funext δ'
    apply propext
    constructor
    · rintro ⟨n', hn, a', e, hp, rfl⟩; exact ⟨a', e, hp, hn⟩
    · rintro ⟨a', e, hp, hn⟩; exact ⟨_, hn, a', e, hp, rfl⟩
  rw [e]
  exact step a hP
theorem for_inv {α : Type} (s : α → PSt) (P : Nat → α → Prop) (a0 : α) {ds : List D} {g : Tgt} {b : Sm} {E : En} {δ : PSt} (hd : δ = s a0) (h0 : P 0 a0)
    (step : ∀ i d a, ds[i]? = some d → P i a → tg g d (s a) fun δ' => b { nx := fun δ'' => ∃ a', δ'' = s a' ∧ P (i + 1) a', rt := E.rt, rn := E.rn, bk := E.nx, ct := fun δ'' => ∃ a', δ'' = s a' ∧ P (i + 1) a' } δ')
    (done : ∀ a, P ds.length a → E.nx (s a)) : forD ds g b E δ := by
  refine ⟨fun i δ => ∃ a, δ = s a ∧ P i a, ⟨a0, hd, h0⟩, ?_, ?_⟩
  · rintro i d _ hi ⟨a, rfl, hp⟩
    exact step i d a hi hp
  · rintro _ ⟨a, rfl, hp⟩
    exact done a hp
theorem for_rng {α : Type} (s : α → PSt) (P : Nat → α → Prop) (a0 : α) {lo : Int} {n : Nat} {g : Tgt} {b : Sm} {E : En} {δ : PSt} (hd : δ = s a0) (h0 : P 0 a0)
    (step : ∀ (i : Nat) a, i < n → P i a → tg g (.int (lo + i)) (s a) fun δ' => b { nx := fun δ'' => ∃ a', δ'' = s a' ∧ P (i + 1) a', rt := E.rt, rn := E.rn, bk := E.nx, ct := fun δ'' => ∃ a', δ'' = s a' ∧ P (i + 1) a' } δ')
    (done : ∀ a, P n a → E.nx (s a)) : forD (rng lo n) g b E δ := by
  refine for_inv s P a0 hd h0 (fun i d a hi hp => ?_) (by rw [rng_length]; exact done)
  obtain ⟨h, rfl⟩ := rng_at hi
  exact step i a h hp
/-- a loop whose turns keep one word of the state, whatever the item -/
theorem for_all {α : Type} (s : α → PSt) (P : α → Prop) (a0 : α) {ds : List D} {g : Tgt} {b : Sm} {E : En} {δ : PSt} (hd : δ = s a0) (h0 : P a0)
    (step : ∀ d a, d ∈ ds → P a → tg g d (s a) fun δ' => b { nx := fun δ'' => ∃ a', δ'' = s a' ∧ P a', rt := E.rt, rn := E.rn, bk := E.nx, ct := fun δ'' => ∃ a', δ'' = s a' ∧ P a' } δ')
    (done : ∀ a, P a → E.nx (s a)) : forD ds g b E δ :=
  for_inv s (fun _ => P) a0 hd h0 (fun i d a hi hp => step d a (List.mem_of_getElem? hi) hp) done

/-! the same by predicates of the state -/
theorem for_rngI (I : Nat → PSt → Prop) {lo : Int} {n : Nat} {g : Tgt} {b : Sm} {E : En} {δ : PSt} (h0 : I 0 δ)
    (step : ∀ (i : Nat) δ, i < n → I i δ → tg g (.int (lo + i)) δ fun δ' => b { nx := I (i + 1), rt := E.rt, rn := E.rn, bk := E.nx, ct := I (i + 1) } δ')
    (done : ∀ δ, I n δ → E.nx δ) : forD (rng lo n) g b E δ := by
  refine ⟨I, h0, fun i d δ hi hp => ?_, by rw [rng_length]; exact done⟩
  obtain ⟨h, rfl⟩ := rng_at hi
  exact step i δ h hp
theorem for_I (I : Nat → PSt → Prop) {ds : List D} {g : Tgt} {b : Sm} {E : En} {δ : PSt} (h0 : I 0 δ)
    (step : ∀ (i : Nat) d δ, ds[i]? = some d → I i δ → tg g d δ fun δ' => b { nx := I (i + 1), rt := E.rt, rn := E.rn, bk := E.nx, ct := I (i + 1) } δ')
    (done : ∀ δ, I ds.length δ → E.nx δ) : forD ds g b E δ := ⟨I, h0, step, done⟩
theorem for_allI (I : PSt → Prop) {ds : List D} {g : Tgt} {b : Sm} {E : En} {δ : PSt} (h0 : I δ)
    (step : ∀ d δ, d ∈ ds → I δ → tg g d δ fun δ' => b { nx := I, rt := E.rt, rn := E.rn, bk := E.nx, ct := I } δ')
    (done : ∀ δ, I δ → E.nx δ) : forD ds g b E δ := ⟨fun _ => I, h0, fun _ d δ hi => step d δ (List.mem_of_getElem? hi), done⟩
theorem while_I (I : Nat → PSt → Prop) {t : Ts} {b : Sm} {E : En} {δ : PSt} (h0 : ∃ n, I n δ)
    (step : ∀ n δ, I n δ → t δ fun c => if c = true then b { nx := fun δ' => ∃ n', n' < n ∧ I n' δ', rt := E.rt, rn := E.rn, bk := E.nx, ct := fun δ' => ∃ n', n' < n ∧ I n' δ' } δ else E.nx δ) : sWhile t b E δ := ⟨I, h0, step⟩

/-! comprehensions -/
theorem lc_filter (p : D → Bool) (f : D → D) {ds : List D} {g : Tgt} {t : Ts} {e : Ex} {δ : PSt} {Q : List D → Prop} (hl : ds.length ≤ 16777216)
    (h : ∀ d ∈ ds, ∀ (R : D → Prop) (R0 : Prop), (p d = true → R (f d)) → (p d = false → R0) → tg g d δ fun δ' => t δ' fun c => if c = true then e δ' R else R0)
    (q : Q ((ds.filter p).map f)) : lcD ds g t e δ Q := by
  refine ⟨hl, fun i acc => acc = ((ds.take i).filter p).map f, by simp, fun i d acc hi ha => ?_, fun acc ha => ?_⟩
  · subst ha
    have hm : d ∈ ds := List.mem_of_getElem? hi
    refine h d hm _ _ (fun hp => ?_) fun hp => ?_
    · show _ = _
      rw [List.take_add_one, hi]
      simp [List.filter_append, hp]
    · show _ = _
      rw [List.take_add_one, hi]
      simp [List.filter_append, hp]
  · subst ha
    rw [List.take_length]
    exact q
theorem lc_map (f : D → D) {ds : List D} {g : Tgt} {e : Ex} {δ : PSt} {Q : List D → Prop} (hl : ds.length ≤ 16777216)
    (h : ∀ d ∈ ds, ∀ (R : D → Prop), R (f d) → tg g d δ fun δ' => e δ' R)
    (q : Q (ds.map f)) : lcD ds g tYes e δ Q := by
  refine lc_filter (fun _ => true) f hl (fun d hd R R0 h1 _ => ?_) (by rw [List.filter_eq_self.mpr fun _ _ => rfl]; exact q)
  have := h d hd R (h1 rfl)
  simpa only [tYes, if_true] using this
theorem lc_rng (f : Nat → D) {lo : Int} {n : Nat} {g : Tgt} {e : Ex} {δ : PSt} {Q : List D → Prop} (hl : n ≤ 16777216)
    (h : ∀ k, k < n → ∀ (R : D → Prop), R (f k) → tg g (.int (lo + (k : Nat))) δ fun δ' => e δ' R)
    (q : Q ((List.range n).map f)) : lcD (rng lo n) g tYes e δ Q := by
  refine lc_map (fun d => match d with | .int i => f (i - lo).toNat | _ => .non) (by rw [rng_length]; exact hl) (fun d hd R hR => ?_) ?_
  · obtain ⟨k, hk, rfl⟩ := mem_rng hd
    have e : (lo + (k : Int) - lo).toNat = k := by omega
    simp only [e] at hR
    exact h k hk R hR
  · rw [rng_eq, List.map_map]
    have e : ((fun d => match d with | .int i => f (i - lo).toNat | _ => .non) ∘ fun (k : Nat) => D.int (lo + k)) = f := by
      funext k
      show f (lo + (k : Int) - lo).toNat = f k
      rw [show (lo + (k : Int) - lo).toNat = k by omega]
    rw [e]
    exact q
theorem lc_rng_filter (p : Nat → Bool) (f : Nat → D) {lo : Int} {n : Nat} {g : Tgt} {t : Ts} {e : Ex} {δ : PSt} {Q : List D → Prop} (hl : n ≤ 16777216)
    (h : ∀ k, k < n → ∀ (R : D → Prop) (R0 : Prop), (p k = true → R (f k)) → (p k = false → R0) → tg g (.int (lo + (k : Nat))) δ fun δ' => t δ' fun c => if c = true then e δ' R else R0)
    (q : Q (((List.range n).filter p).map f)) : lcD (rng lo n) g t e δ Q := by
  refine lc_filter (fun d => match d with | .int i => p (i - lo).toNat | _ => false) (fun d => match d with | .int i => f (i - lo).toNat | _ => .non) (by rw [rng_length]; exact hl) (fun d hd R R0 hR hR0 => ?_) ?_
  · obtain ⟨k, hk, rfl⟩ := mem_rng hd
    have e : (lo + (k : Int) - lo).toNat = k := by omega
    simp only [e] at hR hR0
    exact h k hk R R0 hR hR0
  · rw [rng_eq, List.filter_map, List.map_map]
    have e1 : ((fun d => match d with | .int i => f (i - lo).toNat | _ => .non) ∘ fun (k : Nat) => D.int (lo + k)) = f := by
      funext k
      show f (lo + (k : Int) - lo).toNat = f k
      rw [show (lo + (k : Int) - lo).toNat = k by omega]
    have e2 : ((fun d => match d with | .int i => p (i - lo).toNat | _ => false) ∘ fun (k : Nat) => D.int (lo + k)) = p := by
      funext k
      show p (lo + (k : Int) - lo).toNat = p k
      rw [show (lo + (k : Int) - lo).toNat = k by omega]
    rw [e1, e2]
    exact q

/-! places, bools -/
theorem ixP_nat {n j : Nat} (h : j < n) : ixP n (j : Int) = some j := by
  unfold ixP
  rw [if_pos (by omega), if_pos (by omega)]
  simp
theorem atD_nat {xs : List D} {j : Nat} {d : D} {Q : D → Prop} (h : xs[j]? = some d) (q : Q d) : atD xs (j : Int) Q :=
  ⟨j, d, ixP_nat (List.getElem?_eq_some_iff.mp h).1, h, q⟩
theorem atD_at {xs : List D} {k : Int} {j : Nat} {d : D} {Q : D → Prop} (e : k = (j : Int)) (h : xs[j]? = some d) (q : Q d) : atD xs k Q := by
  subst e; exact atD_nat h q
theorem atD_mem {xs : List D} {k : Int} {Q : D → Prop} (h0 : 0 ≤ k) (h1 : k < xs.length) (q : ∀ d, d ∈ xs → Q d) : atD xs k Q := by
  have hj : k.toNat < xs.length := by omega
  refine atD_at (j := k.toNat) (d := xs[k.toNat]) (by omega) (List.getElem?_eq_getElem hj) (q _ (List.getElem_mem hj))
theorem atD_ints {ns : List Int} {k : Int} {Q : D → Prop} (h0 : 0 ≤ k) (h1 : k < ns.length) (q : ∀ x, x ∈ ns → Q (.int x)) : atD (ns.map .int) k Q :=
  atD_mem h0 (by simpa using h1) fun d hd => by
    obtain ⟨x, hx, rfl⟩ := List.mem_map.mp hd
    exact q x hx
/-- the last item -/
theorem atD_last {xs : List D} {d : D} {Q : D → Prop} (h : xs.getLast? = some d) (q : Q d) : atD xs (-1) Q := by
  have hne : xs ≠ [] := by intro z; subst z; simp at h
  have hl : 0 < xs.length := List.length_pos_iff.mpr hne
  refine ⟨xs.length - 1, d, ?_, ?_, q⟩
  · unfold ixP
    rw [if_neg (by omega), if_pos (by omega)]
    congr 1
    omega
  · rw [← List.getLast?_eq_getElem?]; exact h
theorem allB_map {α : Type} (xs : List α) (p : α → Bool) : allB (xs.map fun x => D.bl (p x)) = some (xs.all p) := by
  induction xs with
  | nil => rfl
  | cons x xs ih => simp [allB, ih]
theorem anyB_map {α : Type} (xs : List α) (p : α → Bool) : anyB (xs.map fun x => D.bl (p x)) = some (xs.any p) := by
  induction xs with
  | nil => rfl
  | cons x xs ih => simp [anyB, ih]
theorem sumD_map (xs : List Int) : sumD (xs.map D.int) = some xs.sum := by
  induction xs with
  | nil => rfl
  | cons x xs ih => simp [sumD, ih]
theorem sumD_mapf {α : Type} (xs : List α) (f : α → Int) : sumD (xs.map fun x => D.int (f x)) = some (xs.map f).sum := by
  induction xs with
  | nil => rfl
  | cons x xs ih => simp [sumD, ih]
theorem eqv_int (i j : Int) : D.eqv (.int i) (.int j) = decide (i = j) := by
  simp only [D.eqv]; rw [Bool.eq_iff_iff]; simp
end PL

set_option linter.all false
/-! PLN: plain number theory. -/
namespace PL
/-- a prime -/
def Prm (p : Nat) : Prop := 2 ≤ p ∧ ∀ d, 1 < d → d < p → ¬ d ∣ p
instance (p : Nat) : Decidable (Prm p) := decidable_of_iff (2 ≤ p ∧ ∀ d, d < p → (1 < d → ¬ d ∣ p)) ⟨fun h => ⟨h.1, fun d h1 h2 => h.2 d h2 h1⟩, fun h => ⟨h.1, fun d h1 h2 => h.2 d h2 h1⟩⟩
theorem Prm.coprime {p a : Nat} (hp : Prm p) (h : ¬ p ∣ a) : Nat.Coprime p a := by
  have hd : Nat.gcd p a ∣ p := Nat.gcd_dvd_left p a
  have hle := Nat.le_of_dvd (by have := hp.1; omega) hd
  have hpos : 0 < Nat.gcd p a := Nat.gcd_pos_of_pos_left a (by have := hp.1; omega)
  rcases Nat.lt_or_ge 1 (Nat.gcd p a) with h1 | h1
  · rcases Nat.lt_or_ge (Nat.gcd p a) p with h2 | h2
    · exact absurd hd (hp.2 _ h1 h2)
    · have : Nat.gcd p a = p := by omega
      exact absurd (this ▸ Nat.gcd_dvd_right p a) h
  · show Nat.gcd p a = 1
    omega
theorem Prm.dvd_mul {p a b : Nat} (hp : Prm p) (h : p ∣ a * b) : p ∣ a ∨ p ∣ b := by
  by_cases ha : p ∣ a
  · exact .inl ha
  · exact .inr ((hp.coprime ha).dvd_of_dvd_mul_left h)
theorem Prm.dvd_pow {p a : Nat} (hp : Prm p) : ∀ {k : Nat}, p ∣ a ^ k → p ∣ a
  | 0, h => by
    have := Nat.le_of_dvd (by simp) h
    have := hp.1
    simp at *; omega
  | k + 1, h => by
    rw [Nat.pow_succ] at h
    rcases hp.dvd_mul h with h | h
    · exact hp.dvd_pow h
    · exact h
theorem Prm.eq_of_dvd {p q : Nat} (hp : Prm p) (hq : Prm q) (h : p ∣ q) : p = q := by
  have hle := Nat.le_of_dvd (by have := hq.1; omega) h
  rcases Nat.lt_or_ge p q with h1 | h1
  · exact absurd h (hq.2 p (by have := hp.1; omega) h1)
  · omega
theorem Prm.dvd_prod {p : Nat} (hp : Prm p) : ∀ {ps : List (Nat × Nat)}, (∀ x ∈ ps, Prm x.1) → p ∣ (ps.map fun x => x.1 ^ x.2).prod → ∃ x ∈ ps, x.1 = p
  | [], _, h => by
    have := Nat.le_of_dvd (by simp) h
    have := hp.1
    simp at *; omega
  | x :: ps, hs, h => by
    rw [List.map_cons, List.prod_cons] at h
    rcases hp.dvd_mul h with h | h
    · exact ⟨x, List.mem_cons_self, (hp.eq_of_dvd (hs x List.mem_cons_self) (hp.dvd_pow h)).symm⟩
    · obtain ⟨y, hy, e⟩ := hp.dvd_prod (fun z hz => hs z (List.mem_cons_of_mem _ hz)) h
      exact ⟨y, List.mem_cons_of_mem _ hy, e⟩
/-- the parts of a number: primes in order, how often, their product -/
structure Parts (n : Nat) (ps : List (Nat × Nat)) : Prop where
  prime : ∀ x ∈ ps, Prm x.1 ∧ 1 ≤ x.2
  rise : List.Pairwise (fun a b : Nat × Nat => a.1 < b.1) ps
  prod : (ps.map fun x => x.1 ^ x.2).prod = n
theorem Parts.tail {n : Nat} {x : Nat × Nat} {ps : List (Nat × Nat)} (h : Parts n (x :: ps)) : Parts ((ps.map fun x => x.1 ^ x.2).prod) ps :=
  ⟨fun y hy => h.prime y (List.mem_cons_of_mem _ hy), (List.pairwise_cons.mp h.rise).2, rfl⟩
theorem Parts.pos {n : Nat} : ∀ {ps : List (Nat × Nat)}, Parts n ps → 0 < n
  | [], h => by have := h.prod; simp at this; omega
  | x :: ps, h => by
    rw [← h.prod, List.map_cons, List.prod_cons]
    exact Nat.mul_pos (Nat.pow_pos (by have := (h.prime x List.mem_cons_self).1.1; omega)) h.tail.pos
theorem Parts.head_dvd {n : Nat} {x : Nat × Nat} {ps : List (Nat × Nat)} (h : Parts n (x :: ps)) : x.1 ∣ n := by
  rw [← h.prod, List.map_cons, List.prod_cons]
  have := (h.prime x List.mem_cons_self).2
  refine Nat.dvd_mul_right_of_dvd ⟨x.1 ^ (x.2 - 1), ?_⟩ _
  rw [← Nat.pow_succ']
  congr 1; omega
theorem parts_unique : ∀ {ps qs : List (Nat × Nat)} {n : Nat}, Parts n ps → Parts n qs → ps = qs
  | [], [], _, _, _ => rfl
  | [], y :: qs, n, h, g => by
    have e := h.prod
    have d := g.head_dvd
    have := (g.prime y List.mem_cons_self).1.1
    rw [← e] at d
    have := Nat.le_of_dvd (by simp) d
    simp at this; omega
  | x :: ps, [], n, h, g => by
    have e := g.prod
    have d := h.head_dvd
    have := (h.prime x List.mem_cons_self).1.1
    rw [← e] at d
    have := Nat.le_of_dvd (by simp) d
    simp at this; omega
  | x :: ps, y :: qs, n, h, g => by
    have hx := h.prime x List.mem_cons_self
    have hy := g.prime y List.mem_cons_self
    have h1 := (List.pairwise_cons.mp h.rise).1
    have g1 := (List.pairwise_cons.mp g.rise).1
    have exy : x.1 = y.1 := by
      obtain ⟨z, hz, ez⟩ := hx.1.dvd_prod (fun z hz => (g.prime z hz).1) (g.prod ▸ h.head_dvd)
      obtain ⟨w, hw, ew⟩ := hy.1.dvd_prod (fun z hz => (h.prime z hz).1) (h.prod ▸ g.head_dvd)
      have a1 : y.1 ≤ x.1 := by
        rcases List.mem_cons.mp hz with q | q
        · subst q; omega
        · have := g1 z q; omega
      have a2 : x.1 ≤ y.1 := by
        rcases List.mem_cons.mp hw with q | q
        · subst q; omega
        · have := h1 w q; omega
      omega
    have hp := h.prod
    have gp := g.prod
    rw [List.map_cons, List.prod_cons] at hp gp
    have key : ∀ {a b : Nat} {us vs : List (Nat × Nat)}, (∀ z ∈ us, Prm z.1 ∧ x.1 < z.1) → x.1 ^ a * (us.map fun x => x.1 ^ x.2).prod = x.1 ^ b * (vs.map fun x => x.1 ^ x.2).prod → ¬ a < b := by
      intro a b us vs hu e hab
      have e2 : x.1 ^ b = x.1 ^ a * (x.1 * x.1 ^ (b - a - 1)) := by
        rw [← Nat.pow_succ', ← Nat.pow_add]
        congr 1; omega
      rw [e2, Nat.mul_assoc, Nat.mul_assoc] at e
      have e3 := Nat.eq_of_mul_eq_mul_left (Nat.pow_pos (by have := hx.1.1; omega)) e
      obtain ⟨z, hz, ez⟩ := hx.1.dvd_prod (fun z hz => (hu z hz).1) (e3 ▸ Nat.dvd_mul_right _ _)
      have := (hu z hz).2
      omega
    have e : x.1 ^ x.2 * (ps.map fun x => x.1 ^ x.2).prod = x.1 ^ y.2 * (qs.map fun x => x.1 ^ x.2).prod := by
      rw [hp, exy, gp]
    have k1 := key (fun z hz => ⟨(h.prime z (List.mem_cons_of_mem _ hz)).1, h1 z hz⟩) e
    have k2 := key (fun z hz => ⟨(g.prime z (List.mem_cons_of_mem _ hz)).1, by rw [exy]; exact g1 z hz⟩) e.symm
    have e2 : x.2 = y.2 := by omega
    have exy' : x = y := Prod.ext exy e2
    subst exy'
    have e3 := Nat.eq_of_mul_eq_mul_left (Nat.pow_pos (by have := hx.1.1; omega)) e
    rw [parts_unique h.tail (e3 ▸ g.tail)]
end PL

set_option Elab.async false
set_option linter.all false
/-! PLE: more of the pure side: in, sorted, sets within sorted and len, [::-1]. -/
namespace PL
open PySem
def flatD : D → Bool
  | .tup _ => false
  | .lst _ => false
  | _ => true
def oInB (n : Bool) : Op2 := fun x y Q => match y with
  | .lst ds => (shp 60 x = true ∧ shp 60 (.lst ds) = true) ∧ Q (.bl (xor n (ds.any fun z => D.eqv z x)))
  | .tup ds => (flatD x = true ∧ ds.all flatD = true) ∧ Q (.bl (xor n (ds.any fun z => D.eqv z x)))
  | _ => False
abbrev oIn : Op2 := oInB false
abbrev oNin : Op2 := oInB true
theorem oIn_t (x : D) (ds : List D) (Q : D → Prop) : oIn x (.tup ds) Q = ((flatD x = true ∧ ds.all flatD = true) ∧ Q (.bl (ds.any fun z => D.eqv z x))) := by
  show ((flatD x = true ∧ ds.all flatD = true) ∧ Q (.bl (xor false (ds.any fun z => D.eqv z x)))) = _
  rw [Bool.false_xor]
theorem oIn_l (x : D) (ds : List D) (Q : D → Prop) : oIn x (.lst ds) Q = ((shp 60 x = true ∧ shp 60 (.lst ds) = true) ∧ Q (.bl (ds.any fun z => D.eqv z x))) := by
  show ((shp 60 x = true ∧ shp 60 (.lst ds) = true) ∧ Q (.bl (xor false (ds.any fun z => D.eqv z x)))) = _
  rw [Bool.false_xor]
theorem oNin_t (x : D) (ds : List D) (Q : D → Prop) : oNin x (.tup ds) Q = ((flatD x = true ∧ ds.all flatD = true) ∧ Q (.bl (!ds.any fun z => D.eqv z x))) := by
  show ((flatD x = true ∧ ds.all flatD = true) ∧ Q (.bl (xor true (ds.any fun z => D.eqv z x)))) = _
  rw [Bool.true_xor]
theorem oNin_l (x : D) (ds : List D) (Q : D → Prop) : oNin x (.lst ds) Q = ((shp 60 x = true ∧ shp 60 (.lst ds) = true) ∧ Q (.bl (!ds.any fun z => D.eqv z x))) := by
  show ((shp 60 x = true ∧ shp 60 (.lst ds) = true) ∧ Q (.bl (xor true (ds.any fun z => D.eqv z x)))) = _
  rw [Bool.true_xor]
theorem flatD_i (i : Int) : flatD (.int i) = true := rfl
theorem flatD_b (i : Bool) : flatD (.bl i) = true := rfl
theorem flatD_n : flatD .non = true := rfl
theorem flatD_s (i : Str) : flatD (.str i) = true := rfl
theorem any_int (x : Int) : ∀ ns : List Int, ((ns.map D.int).any fun z => D.eqv z (.int x)) = decide (x ∈ ns)
  | [] => rfl
  | n :: ns => by
    rw [List.map_cons, List.any_cons, any_int x ns, eqv_int]
    by_cases h : n = x
    · subst h; simp
    · have : ¬ x = n := fun e => h e.symm
      simp [h, this]
theorem flat_ints : ∀ ns : List Int, (ns.map D.int).all flatD = true
  | [] => rfl
  | n :: ns => by rw [List.map_cons, List.all_cons, flat_ints ns]; rfl
theorem shpL_ints (n : Nat) : ∀ ns : List Int, shpL n (ns.map D.int) = true
  | [] => by simp [shpL]
  | k :: ns => by simp [shpL, shp, shpL_ints n ns]
theorem sorted_uniq : ∀ {a b : List Int}, a.Pairwise (· ≤ ·) → b.Pairwise (· ≤ ·) → a.Perm b → a = b
  | [], b, _, _, p => (p.symm.eq_nil).symm
  | x :: a, [], _, _, p => absurd p.eq_nil (by simp)
  | x :: a, y :: b, ha, hb, p => by
    obtain ⟨h1, h2⟩ := List.pairwise_cons.mp ha
    obtain ⟨g1, g2⟩ := List.pairwise_cons.mp hb
    have e : x = y := by
      rcases List.mem_cons.mp (p.mem_iff.mp List.mem_cons_self) with c | c
      · exact c
      · rcases List.mem_cons.mp (p.mem_iff.mpr List.mem_cons_self) with d | d
        · exact d.symm
        · have := h1 y d
          have := g1 x c
          omega
    subst e
    rw [sorted_uniq h2 g2 (p.cons_inv)]
theorem strict_uniq {a b : List Int} (ha : a.Pairwise (· < ·)) (hb : b.Pairwise (· < ·)) (h : ∀ k, k ∈ a ↔ k ∈ b) : a = b :=
  sorted_uniq (ha.imp Int.le_of_lt) (hb.imp Int.le_of_lt) ((List.perm_ext_iff_of_nodup (ha.imp Int.ne_of_lt) (hb.imp Int.ne_of_lt)).mpr h)
def pSorted : Pm
  | [.lst xs], Q => ∃ ns ms : List Int, xs = ns.map D.int ∧ ms.Perm ns ∧ ms.Pairwise (· ≤ ·) ∧ Q (.lst (ms.map D.int))
  | _, _ => False
/-- sorted(set(l)) -/
def pSortSet : Pm
  | [.lst xs], Q => ∃ ns ms : List Int, xs = ns.map D.int ∧ (∀ k, k ∈ ms ↔ k ∈ ns) ∧ ms.Pairwise (· < ·) ∧ (ms.length < 64 ∧ ns.length < 4000) ∧ Q (.lst (ms.map D.int))
  | _, _ => False
/-- len(set(l)) -/
def pLenSet : Pm
  | [.lst xs], Q => ∃ ns ms : List Int, xs = ns.map D.int ∧ (∀ k, k ∈ ms ↔ k ∈ ns) ∧ ms.Nodup ∧ ns.length < 4000 ∧ Q (.int ms.length)
  | [.tup xs], Q => ∃ ns ms : List Int, xs = ns.map D.int ∧ (∀ k, k ∈ ms ↔ k ∈ ns) ∧ ms.Nodup ∧ ns.length < 4000 ∧ Q (.int ms.length)
  | _, _ => False
def oRev : Op1
  | .lst xs, Q => Q (.lst xs.reverse)
  | .tup xs, Q => Q (.tup xs.reverse)
  | _, _ => False
theorem oRev_l (xs : List D) (Q : D → Prop) : oRev (.lst xs) Q = Q (.lst xs.reverse) := rfl
theorem oRev_t (xs : List D) (Q : D → Prop) : oRev (.tup xs) Q = Q (.tup xs.reverse) := rfl
/-! comprehensions over encoded lists -/
theorem lc_encF {α : Type} (enc : α → D) (xs : List α) (p : α → Bool) (f : α → D) {g : Tgt} {t : Ts} {e : Ex} {δ : PSt} {Q : List D → Prop} (hl : xs.length ≤ 16777216)
    (h : ∀ x ∈ xs, ∀ (R : D → Prop) (R0 : Prop), (p x = true → R (f x)) → (p x = false → R0) → tg g (enc x) δ fun δ' => t δ' fun c => if c = true then e δ' R else R0)
    (q : Q ((xs.filter p).map f)) : lcD (xs.map enc) g t e δ Q := by
  refine ⟨by rw [List.length_map]; exact hl, fun i acc => acc = ((xs.take i).filter p).map f, by simp, fun i d acc hi ha => ?_, fun acc ha => ?_⟩
  · subst ha
    rw [List.getElem?_map] at hi
    obtain ⟨x, hx, rfl⟩ := Option.map_eq_some_iff.mp hi
    refine h x (List.mem_of_getElem? hx) _ _ (fun hp => ?_) fun hp => ?_
    · show _ = _
      rw [List.take_add_one, hx]
      simp [List.filter_append, hp]
    · show _ = _
      rw [List.take_add_one, hx]
      simp [List.filter_append, hp]
  · subst ha
    rw [List.length_map, List.take_length]
    exact q
theorem lc_enc {α : Type} (enc : α → D) (xs : List α) (f : α → D) {g : Tgt} {e : Ex} {δ : PSt} {Q : List D → Prop} (hl : xs.length ≤ 16777216)
    (h : ∀ x ∈ xs, ∀ (R : D → Prop), R (f x) → tg g (enc x) δ fun δ' => e δ' R) (q : Q (xs.map f)) : lcD (xs.map enc) g tYes e δ Q := by
  refine lc_encF enc xs (fun _ => true) f hl (fun x hx R R0 h1 _ => ?_) (by rw [List.filter_eq_self.mpr fun _ _ => rfl]; exact q)
  have := h x hx R (h1 rfl)
  simpa only [tYes, if_true] using this
/-- the item at a place of an encoded list -/
theorem atD_enc {α : Type} {enc : α → D} {xs : List α} {k : Int} {j : Nat} {x : α} {Q : D → Prop} (e : k = (j : Int)) (h : xs[j]? = some x) (q : Q (enc x)) : atD (xs.map enc) k Q :=
  atD_at e (d := enc x) (by rw [List.getElem?_map, h]; rfl) q
theorem atD_encM {α : Type} {enc : α → D} {xs : List α} {k : Int} {Q : D → Prop} (h0 : 0 ≤ k) (h1 : k < xs.length) (q : ∀ x, x ∈ xs → Q (enc x)) : atD (xs.map enc) k Q :=
  atD_mem h0 (by simpa using h1) fun d hd => by
    obtain ⟨x, hx, rfl⟩ := List.mem_map.mp hd
    exact q x hx
/-! max, min, sum over lists and tuples of ints; lists made by * and + -/
def asNs : List D → (List D → Prop) → Prop
  | [.lst xs], Q => Q xs
  | [.tup xs], Q => Q xs
  | _, _ => False
def pMax : Pm := fun ds Q => asNs ds fun xs => ∃ (ns : List Int) (m : Int), xs = ns.map D.int ∧ m ∈ ns ∧ (∀ y ∈ ns, y ≤ m) ∧ Q (.int m)
def pMin : Pm := fun ds Q => asNs ds fun xs => ∃ (ns : List Int) (m : Int), xs = ns.map D.int ∧ m ∈ ns ∧ (∀ y ∈ ns, m ≤ y) ∧ Q (.int m)
def pSumS : Pm := fun ds Q => asNs ds fun xs => ∃ n, sumD xs = some n ∧ Q (.int n)
theorem pMax_l (xs : List D) (Q : D → Prop) : pMax [.lst xs] Q = ∃ (ns : List Int) (m : Int), xs = ns.map D.int ∧ m ∈ ns ∧ (∀ y ∈ ns, y ≤ m) ∧ Q (.int m) := rfl
theorem pMax_t (xs : List D) (Q : D → Prop) : pMax [.tup xs] Q = ∃ (ns : List Int) (m : Int), xs = ns.map D.int ∧ m ∈ ns ∧ (∀ y ∈ ns, y ≤ m) ∧ Q (.int m) := rfl
theorem pMin_l (xs : List D) (Q : D → Prop) : pMin [.lst xs] Q = ∃ (ns : List Int) (m : Int), xs = ns.map D.int ∧ m ∈ ns ∧ (∀ y ∈ ns, m ≤ y) ∧ Q (.int m) := rfl
theorem pMin_t (xs : List D) (Q : D → Prop) : pMin [.tup xs] Q = ∃ (ns : List Int) (m : Int), xs = ns.map D.int ∧ m ∈ ns ∧ (∀ y ∈ ns, m ≤ y) ∧ Q (.int m) := rfl
theorem pSumS_l (xs : List D) (Q : D → Prop) : pSumS [.lst xs] Q = ∃ n, sumD xs = some n ∧ Q (.int n) := rfl
theorem pSumS_t (xs : List D) (Q : D → Prop) : pSumS [.tup xs] Q = ∃ n, sumD xs = some n ∧ Q (.int n) := rfl
def oRepL : Op2
  | .lst xs, .int n, Q => (-(2 ^ 63) ≤ n ∧ n < 2 ^ 63 ∧ xs.length * n.toNat ≤ 16777216) ∧ Q (.lst (List.replicate n.toNat xs).flatten)
  | _, _, _ => False
theorem oRepL_ (xs : List D) (n : Int) (Q : D → Prop) : oRepL (.lst xs) (.int n) Q = ((-(2 ^ 63) ≤ n ∧ n < 2 ^ 63 ∧ xs.length * n.toNat ≤ 16777216) ∧ Q (.lst (List.replicate n.toNat xs).flatten)) := rfl
def oCatL : Op2
  | .lst xs, .lst ys, Q => xs.length + ys.length ≤ 16777216 ∧ Q (.lst (xs ++ ys))
  | _, _, _ => False
theorem oCatL_ (xs ys : List D) (Q : D → Prop) : oCatL (.lst xs) (.lst ys) Q = (xs.length + ys.length ≤ 16777216 ∧ Q (.lst (xs ++ ys))) := rfl
theorem rep_one (n : Nat) (d : D) : (List.replicate n [d]).flatten = List.replicate n d := by
  induction n with
  | zero => rfl
  | succ n ih => rw [List.replicate_succ, List.flatten_cons, ih, List.replicate_succ]; rfl
def eChn3 (p q r : Op2) (a b c d : Ex) : Ex := fun δ Q => a δ fun x => b δ fun y => p x y fun z => asB z fun k => if k = true then c δ fun w => q y w fun z => asB z fun k => if k = true then d δ fun v => r w v Q else Q (.bl false) else Q (.bl false)
/-! sorted of a list or a tuple of ints, or of tuples of ints (one length) -/
def encR (r : List Int) : D := .tup (r.map .int)
def pSortX : Pm := fun ds Q => asNs ds fun xs => (∃ ns ms : List Int, xs = ns.map D.int ∧ ms.Perm ns ∧ ms.Pairwise (· ≤ ·) ∧ Q (.lst (ms.map D.int))) ∨
  (∃ (ns ms : List (List Int)) (k : Nat), xs = ns.map encR ∧ (∀ r ∈ ns, r.length = k + 1) ∧ ms.Perm ns ∧ ms.Pairwise (· ≤ ·) ∧ Q (.lst (ms.map encR)))
theorem pSortX_l (xs : List D) (Q : D → Prop) : pSortX [.lst xs] Q = ((∃ ns ms : List Int, xs = ns.map D.int ∧ ms.Perm ns ∧ ms.Pairwise (· ≤ ·) ∧ Q (.lst (ms.map D.int))) ∨
  (∃ (ns ms : List (List Int)) (k : Nat), xs = ns.map encR ∧ (∀ r ∈ ns, r.length = k + 1) ∧ ms.Perm ns ∧ ms.Pairwise (· ≤ ·) ∧ Q (.lst (ms.map encR)))) := rfl
theorem pSortX_t (xs : List D) (Q : D → Prop) : pSortX [.tup xs] Q = ((∃ ns ms : List Int, xs = ns.map D.int ∧ ms.Perm ns ∧ ms.Pairwise (· ≤ ·) ∧ Q (.lst (ms.map D.int))) ∨
  (∃ (ns ms : List (List Int)) (k : Nat), xs = ns.map encR ∧ (∀ r ∈ ns, r.length = k + 1) ∧ ms.Perm ns ∧ ms.Pairwise (· ≤ ·) ∧ Q (.lst (ms.map encR)))) := rfl
/-- l.index(x): the first place -/
def oIndex : Op2
  | .lst xs, y, Q => (shp 60 y = true ∧ shp 60 (.lst xs) = true) ∧ ∃ j : Nat, (∃ z, xs[j]? = some z ∧ D.eqv z y = true) ∧ (∀ m z, m < j → xs[m]? = some z → D.eqv z y = false) ∧ Q (.int j)
  | _, _, _ => False
theorem oIndex_l (xs : List D) (y : D) (Q : D → Prop) : oIndex (.lst xs) y Q = ((shp 60 y = true ∧ shp 60 (.lst xs) = true) ∧ ∃ j : Nat, (∃ z, xs[j]? = some z ∧ D.eqv z y = true) ∧ (∀ m z, m < j → xs[m]? = some z → D.eqv z y = false) ∧ Q (.int j)) := rfl
/-- is, is not between bools -/
def oIsB : Op2
  | .bl a, .bl b, Q => Q (.bl (decide (a = b)))
  | _, _, _ => False
def oNotB : Op2
  | .bl a, .bl b, Q => Q (.bl (!decide (a = b)))
  | _, _, _ => False
theorem oIsB_ (a b : Bool) (Q : D → Prop) : oIsB (.bl a) (.bl b) Q = Q (.bl (decide (a = b))) := rfl
theorem oNotB_ (a b : Bool) (Q : D → Prop) : oNotB (.bl a) (.bl b) Q = Q (.bl (!decide (a = b))) := rfl
def eIdx (a b : Ex) : Ex := fun δ Q => a δ fun x => asLst x fun xs => b δ fun y => oIndex (.lst xs) y Q
/-- x in l, x not in l, l an owned list -/
def eInS (n : Bool) (s : Nat) (a : Ex) : Ex := fun δ Q => a δ fun x => asOwn (gt δ s) fun _ xs => oInB n x (.lst xs) Q
theorem oInB_ft (x : D) (ds : List D) (Q : D → Prop) : oInB false x (.tup ds) Q = ((flatD x = true ∧ ds.all flatD = true) ∧ Q (.bl (ds.any fun z => D.eqv z x))) := oIn_t x ds Q
theorem oInB_fl (x : D) (ds : List D) (Q : D → Prop) : oInB false x (.lst ds) Q = ((shp 60 x = true ∧ shp 60 (.lst ds) = true) ∧ Q (.bl (ds.any fun z => D.eqv z x))) := oIn_l x ds Q
theorem oInB_tt (x : D) (ds : List D) (Q : D → Prop) : oInB true x (.tup ds) Q = ((flatD x = true ∧ ds.all flatD = true) ∧ Q (.bl (!ds.any fun z => D.eqv z x))) := oNin_t x ds Q
theorem oInB_tl (x : D) (ds : List D) (Q : D → Prop) : oInB true x (.lst ds) Q = ((shp 60 x = true ∧ shp 60 (.lst ds) = true) ∧ Q (.bl (!ds.any fun z => D.eqv z x))) := oNin_l x ds Q
theorem enumD_map {α : Type} (enc : α → D) (xs : List α) : enumD (xs.map enc) = xs.zipIdx.map fun p => D.tup [.int (p.2 : Nat), enc p.1] := by
  unfold enumD
  apply List.ext_getElem?
  intro i
  rw [List.getElem?_zipWith, List.getElem?_map, List.getElem?_map, List.getElem?_zipIdx, List.length_map]
  by_cases h : i < xs.length
  · rw [List.getElem?_range h, List.getElem?_eq_getElem h]
    simp
  · rw [List.getElem?_eq_none (by simpa using h), List.getElem?_eq_none (l := xs) (by omega)]
    simp
/-- a tuple (not empty) times an int -/
def oRepT : Op2
  | .tup xs, .int n, Q => (xs ≠ [] ∧ 0 ≤ n ∧ n ≤ 1000 ∧ xs.length ≤ 1000) ∧ Q (.tup (List.replicate n.toNat xs).flatten)
  | _, _, _ => False
theorem oRepT_ (xs : List D) (n : Int) (Q : D → Prop) : oRepT (.tup xs) (.int n) Q = ((xs ≠ [] ∧ 0 ≤ n ∧ n ≤ 1000 ∧ xs.length ≤ 1000) ∧ Q (.tup (List.replicate n.toNat xs).flatten)) := rfl
end PL

set_option Elab.async false
set_option linter.all false
namespace PL
/-! PLG0: all, any of a generator expression, the pure side (light). -/
def tvD : D → Option Bool
  | .bl b => some b
  | .int i => some (i != 0)
  | .non => some false
  | _ => none
/-- the turns of all(..); stop: the truth that ends it -/
def genD (stop : Bool) (ds : List D) (g : Tgt) (t : Ts) (e : Ex) (δ : PSt) (Q : D → Prop) : Prop :=
  ∃ I : Nat → Prop, I 0 ∧ (∀ i d, ds[i]? = some d → I i → tg g d δ fun δ3 => t δ3 fun b => if b = true then e δ3 fun y => ∃ c, tvD y = some c ∧ (if c = stop then Q (.bl stop) else I (i + 1)) else I (i + 1)) ∧ (I ds.length → Q (.bl (!stop)))
def eAllG (it : Ar) (vs : List Nat) (g : Tgt) (t : Ts) (e : Ex) : Ex := fun δ Q => it δ fun ds => genD false ds g t e (wp δ vs) Q
def eAnyG (it : Ar) (vs : List Nat) (g : Tgt) (t : Ts) (e : Ex) : Ex := fun δ Q => it δ fun ds => genD true ds g t e (wp δ vs) Q
/-- an element that has a truth p, no tests -/
theorem genD_all {ds : List D} {g : Tgt} {e : Ex} {δ : PSt} {Q : D → Prop} (p : D → Bool) (h : ∀ d ∈ ds, ∀ R : D → Prop, R (.bl (p d)) → tg g d δ fun δ' => e δ' R) (q : Q (.bl (ds.all p))) : genD false ds g tYes e δ Q := by
  refine ⟨fun i => ∀ d ∈ ds.take i, p d = true, by simp, fun i d hd hI => ?_, fun hI => ?_⟩
  · have hm : d ∈ ds := List.mem_of_getElem? hd
    simp only [tYes, if_true]
    refine h d hm _ ⟨p d, rfl, ?_⟩
    cases hp : p d with
    | false =>
      rw [if_pos rfl]
      have : ds.all p = false := by rw [List.all_eq_false]; exact ⟨d, hm, by simp [hp]⟩
      rw [← this]; exact q
    | true =>
      rw [if_neg (by simp)]
      intro x hx
      rw [List.take_add_one, hd] at hx
      rcases List.mem_append.mp hx with hx | hx
      · exact hI x hx
      · have : x = d := by simpa using hx
        rw [this]; exact hp
  · have hI : ∀ d ∈ ds.take ds.length, _ := hI
    rw [List.take_length] at hI
    have : ds.all p = true := List.all_eq_true.mpr hI
    show Q (.bl true)
    rw [← this]; exact q
theorem genD_any {ds : List D} {g : Tgt} {e : Ex} {δ : PSt} {Q : D → Prop} (p : D → Bool) (h : ∀ d ∈ ds, ∀ R : D → Prop, R (.bl (p d)) → tg g d δ fun δ' => e δ' R) (q : Q (.bl (ds.any p))) : genD true ds g tYes e δ Q := by
  refine ⟨fun i => ∀ d ∈ ds.take i, p d = false, by simp, fun i d hd hI => ?_, fun hI => ?_⟩
  · have hm : d ∈ ds := List.mem_of_getElem? hd
    simp only [tYes, if_true]
    refine h d hm _ ⟨p d, rfl, ?_⟩
    cases hp : p d with
    | true =>
      rw [if_pos rfl]
      have : ds.any p = true := by rw [List.any_eq_true]; exact ⟨d, hm, hp⟩
      rw [← this]; exact q
    | false =>
      rw [if_neg (by simp)]
      intro x hx
      rw [List.take_add_one, hd] at hx
      rcases List.mem_append.mp hx with hx | hx
      · exact hI x hx
      · have : x = d := by simpa using hx
        rw [this]; exact hp
  · have hI : ∀ d ∈ ds.take ds.length, _ := hI
    rw [List.take_length] at hI
    have : ds.any p = false := by rw [List.any_eq_false]; exact fun x hx => by simp [hI x hx]
    show Q (.bl false)
    rw [← this]; exact q
/-- over an encoded list -/
theorem genD_allE {α : Type} (enc : α → D) {xs : List α} {g : Tgt} {e : Ex} {δ : PSt} {Q : D → Prop} (p : α → Bool) (h : ∀ x ∈ xs, ∀ R : D → Prop, R (.bl (p x)) → tg g (enc x) δ fun δ' => e δ' R) (q : Q (.bl (xs.all p))) : genD false (xs.map enc) g tYes e δ Q := by
  refine ⟨fun i => ∀ x ∈ xs.take i, p x = true, by simp, fun i d hd hI => ?_, fun hI => ?_⟩
  · rw [List.getElem?_map] at hd
    obtain ⟨x, hx, rfl⟩ := Option.map_eq_some_iff.mp hd
    have hm : x ∈ xs := List.mem_of_getElem? hx
    simp only [tYes, if_true]
    refine h x hm _ ⟨p x, rfl, ?_⟩
    cases hp : p x with
    | false =>
      rw [if_pos rfl]
      have : xs.all p = false := by rw [List.all_eq_false]; exact ⟨x, hm, by simp [hp]⟩
      rw [← this]; exact q
    | true =>
      rw [if_neg (by simp)]
      intro y hy
      rw [List.take_add_one, hx] at hy
      rcases List.mem_append.mp hy with hy | hy
      · exact hI y hy
      · have : y = x := by simpa using hy
        rw [this]; exact hp
  · have hI : ∀ x ∈ xs.take (xs.map enc).length, _ := hI
    rw [List.length_map, List.take_length] at hI
    have : xs.all p = true := List.all_eq_true.mpr hI
    show Q (.bl true)
    rw [← this]; exact q
theorem genD_anyE {α : Type} (enc : α → D) {xs : List α} {g : Tgt} {e : Ex} {δ : PSt} {Q : D → Prop} (p : α → Bool) (h : ∀ x ∈ xs, ∀ R : D → Prop, R (.bl (p x)) → tg g (enc x) δ fun δ' => e δ' R) (q : Q (.bl (xs.any p))) : genD true (xs.map enc) g tYes e δ Q := by
  refine ⟨fun i => ∀ x ∈ xs.take i, p x = false, by simp, fun i d hd hI => ?_, fun hI => ?_⟩
  · rw [List.getElem?_map] at hd
    obtain ⟨x, hx, rfl⟩ := Option.map_eq_some_iff.mp hd
    have hm : x ∈ xs := List.mem_of_getElem? hx
    simp only [tYes, if_true]
    refine h x hm _ ⟨p x, rfl, ?_⟩
    cases hp : p x with
    | true =>
      rw [if_pos rfl]
      have : xs.any p = true := by rw [List.any_eq_true]; exact ⟨x, hm, hp⟩
      rw [← this]; exact q
    | false =>
      rw [if_neg (by simp)]
      intro y hy
      rw [List.take_add_one, hx] at hy
      rcases List.mem_append.mp hy with hy | hy
      · exact hI y hy
      · have : y = x := by simpa using hy
        rw [this]; exact hp
  · have hI : ∀ x ∈ xs.take (xs.map enc).length, _ := hI
    rw [List.length_map, List.take_length] at hI
    have : xs.any p = false := by rw [List.any_eq_false]; exact fun x hx => by simp [hI x hx]
    show Q (.bl false)
    rw [← this]; exact q
/-- // by a wide number -/
def oFdivX : Op2
  | .int i, .int j, Q => (0 < j ∧ ∃ a : Nat, j.natAbs < 2 ^ a ∧ a ≤ 8999) ∧ Q (.int (i / j))
  | _, _, _ => False
theorem oFdivX_ii (i j : Int) (Q : D → Prop) : oFdivX (.int i) (.int j) Q = ((0 < j ∧ ∃ a : Nat, j.natAbs < 2 ^ a ∧ a ≤ 8999) ∧ Q (.int (i / j))) := rfl
theorem oMulX_ii (i j : Int) (Q : D → Prop) : oMulX (.int i) (.int j) Q = ((∃ a b : Nat, i.natAbs < 2 ^ a ∧ j.natAbs < 2 ^ b ∧ a + b ≤ 1000000) ∧ Q (.int (i * j))) := rfl
/-- i, j, l = a, b, c -/
def sPar3 (i j l : Nat) (a b c : Ex) : Sm := fun E δ => a δ fun x => b δ fun y => c δ fun z => E.nx (st (st (st δ i (.val x)) j (.val y)) l (.val z))
/-! order of tuples of ints -/
def lexGt : List Int → List Int → Bool
  | [], _ => false
  | _ :: _, [] => true
  | x :: xs, y :: ys => if x = y then lexGt xs ys else decide (y < x)
def lexGe : List Int → List Int → Bool
  | [], [] => true
  | [], _ :: _ => false
  | _ :: _, [] => true
  | x :: xs, y :: ys => if x = y then lexGe xs ys else decide (y ≤ x)
def oTT (g : List Int → List Int → Bool) : Op2
  | .tup xs, .tup ys, Q => ∃ ns ms : List Int, xs = ns.map .int ∧ ys = ms.map .int ∧ Q (.bl (g ns ms))
  | _, _, _ => False
abbrev oGtT : Op2 := oTT lexGt
abbrev oGeT : Op2 := oTT lexGe
abbrev oLtT : Op2 := oTT fun a b => lexGt b a
abbrev oLeT : Op2 := oTT fun a b => lexGe b a
theorem oTT_tt (g : List Int → List Int → Bool) (xs ys : List D) (Q : D → Prop) : oTT g (.tup xs) (.tup ys) Q = ∃ ns ms : List Int, xs = ns.map .int ∧ ys = ms.map .int ∧ Q (.bl (g ns ms)) := rfl
/-! ranges as lists, tuples; an owned list lent -/
def eLstRg (t : Ar) : Ex := fun δ Q => t δ fun ds => ds.length ≤ 16777216 ∧ Q (.lst ds)
def eTupRg (t : Ar) : Ex := fun δ Q => t δ fun ds => ds.length ≤ 16777216 ∧ Q (.tup ds)
theorem rng_lenP (a : Int) (n : Nat) : (rng a n).length = n := by unfold rng; simp
mutual
def noL : D → Bool
  | .tup ds => noLL ds
  | .lst _ => false
  | _ => true
def noLL : List D → Bool
  | [] => true
  | d :: ds => noL d && noLL ds
end
theorem noL_n : noL .non = true := by simp only [noL]
theorem noL_i (i : Int) : noL (.int i) = true := by simp only [noL]
theorem noL_b (i : Bool) : noL (.bl i) = true := by simp only [noL]
theorem noL_s (i : PySem.Str) : noL (.str i) = true := by simp only [noL]
theorem noL_t (ds : List D) : noL (.tup ds) = noLL ds := by simp only [noL]
theorem noLL_nil : noLL [] = true := by simp only [noLL]
theorem noLL_cons (d : D) (ds : List D) : noLL (d :: ds) = (noL d && noLL ds) := by simp only [noLL]
theorem noLL_all (ds : List D) : noLL ds = ds.all noL := by
  induction ds with
  | nil => simp only [noLL, List.all_nil]
  | cons d ds ih => simp only [noLL, List.all_cons, ih]
theorem noLL_ints (ns : List Int) : noLL (ns.map .int) = true := by
  rw [noLL_all, List.all_map]; exact List.all_eq_true.mpr fun _ _ => noL_i _
def eLend (i : Nat) (t : Ex) : Ex := fun δ Q => t (frz1 δ i) fun d => noL d = true ∧ Q d
def tLend (i : Nat) (t : Ts) : Ts := fun δ Q => t (frz1 δ i) Q
def eLendF (i : Nat) (t : Ex) : Ex := fun δ Q => t (frz1 δ i) fun d => ∃ ds, d = .lst ds ∧ noLL ds = true ∧ Q d
/-! zip of two tuples or two lists; reversed -/
def iZipX (a b : Ex) : Ar := fun δ Q => a δ fun x => b δ fun y => asSeq x fun xs => asSeq y fun ys => Q (zipD xs ys)
def iRev (a : Ex) : Ar := fun δ Q => a δ fun x => asSeq x fun xs => Q xs.reverse
theorem zipD_map {α β : Type} (f : α → D) (g : β → D) (xs : List α) (ys : List β) : zipD (xs.map f) (ys.map g) = (xs.zip ys).map fun p => D.tup [f p.1, g p.2] := by
  unfold zipD
  rw [List.zipWith_map, List.zip, List.map_zipWith]
/-- l[b] op= e, l owned -/
def sAugS (i : Nat) (p : Op2) (b e : Ex) : Sm := fun E δ => asOwn (gt δ i) fun a xs => b δ fun z => asI z fun k => ∃ j d, ixP xs.length k = some j ∧ xs[j]? = some d ∧ e δ fun y => p d y fun w => E.nx (st δ i (.own a (xs.set j w)))
/-- a list lent to a call that returns a new list -/
def eLendN (i : Nat) (t : Ex) : Ex := fun δ Q => t (frz1 δ i) fun d => asLst d fun ds => noLL ds = true ∧ Q (.lst ds)
/-! comprehensions of two clauses -/
def lcD2 (ds : List D) (g : Tgt) (t : Ts) (it1 : Ar) (vs1 : List Nat) (g1 : Tgt) (t1 : Ts) (e : Ex) (δ : PSt) (Q : List D → Prop) : Prop := ∃ I : Nat → List D → Prop, I 0 [] ∧
  (∀ (i : Nat) (d : D) (acc : List D), ds[i]? = some d → I i acc → tg g d δ fun δ2 => t δ2 fun c => if c = true then it1 δ2 fun es => ∃ I1 : Nat → List D → Prop, I1 0 acc ∧
    (∀ (j : Nat) (x : D) (acc : List D), es[j]? = some x → I1 j acc → tg g1 x (wp δ2 vs1) fun δ3 => t1 δ3 fun c => if c = true then e δ3 fun y => acc.length < 16777216 ∧ I1 (j + 1) (acc ++ [y]) else I1 (j + 1) acc) ∧ (∀ acc, I1 es.length acc → I (i + 1) acc)
    else I (i + 1) acc) ∧ ∀ acc, I ds.length acc → Q acc
def eLc2 (it : Ar) (vs : List Nat) (g : Tgt) (t : Ts) (it1 : Ar) (vs1 : List Nat) (g1 : Tgt) (t1 : Ts) (e : Ex) : Ex := fun δ Q => it δ fun ds => lcD2 ds g t it1 vs1 g1 t1 e (wp δ vs) fun ys => Q (.lst ys)
/-! range of three -/
def rsz (i j c : Int) : Nat := if c > 0 then (if i < j then ((j - i - 1) / c + 1).toNat else 0) else (if i > j then ((i - j - 1) / (-c) + 1).toNat else 0)
def rngC (i c : Int) (n : Nat) : List D := (List.range n).map fun (k : Nat) => D.int (i + k * c)
def iRng3 (a b c : Ex) : Ar := fun δ Q => a δ fun x => b δ fun y => c δ fun z => asI x fun i => asI y fun j => asI z fun k => (-(2 ^ 40) < i ∧ i < 2 ^ 40 ∧ -(2 ^ 40) < j ∧ j < 2 ^ 40 ∧ k ≠ 0 ∧ -(2 ^ 30) < k ∧ k < 2 ^ 30) ∧ Q (rngC i k (rsz i j k))
theorem rsz_down (i j : Int) : rsz i j (-1) = (i - j).toNat := by
  unfold rsz
  rw [if_neg (by omega)]
  split
  · rw [show -(-1 : Int) = 1 by omega, Int.ediv_one]; omega
  · omega
end PL

set_option Elab.async false
set_option linter.all false
set_option maxRecDepth 100000
/-! PLS8: in, sorted, set(..) within sorted and len, [::-1]. -/
namespace PL
variable [Tabs]
open PySem PySem.Spec PyProof.Rows L2

theorem sh_eq {s s' : Shared} (h : s'.os = s.os) : s' = { s with heap := s'.heap, gens := s'.gens, drawn := s'.drawn, toks := s'.toks } := by
  cases s'
  cases h
  rfl
section
variable {P : Program} {w : World} {A : Around} {E : Value → Shared → Prop} {s : Shared}
/-- a set that was made just now -/
abbrev nSet (w : World) : Obj := { cls := .type "set", dict := none, data := .set #[] 0 (.fresh 0 0 (!w.params.followText "set-order")) }
abbrev lIt (l : Addr) : Obj := { cls := .type "list_iterator", data := .fields #[.ref l, .int 0 0] }
set_option maxHeartbeats 4000000 in
/-- set(l), l a list of ints -/
theorem set_of_ints {l : Addr} {its : Array Value} (ns : List Int) {Q : Value → Shared → Prop} (hh : A.handled = none) (hl : s.heap.IsList l its)
    (hi : IntsAre its.toList ns) (hb : ns.length + 1 < scanBound)
    (h : ∀ (g : Heap) (tk c : Nat), SetR w g s.heap.objs.size (fun j => decide (j ∈ ns)) c → (∀ b o, s.heap.get? b = some o → g.get? b = some o) →
      Q (.ref s.heap.objs.size) { s with heap := g, toks := tk }) : wpAny (model P w) A (call (.type "set") [.ref l]) Q E s := by
  have sz : its.size = ns.length := by simpa using IntsAre.length hi
  obtain ⟨c, tl, mro⟩ := F.called_set.mro
  have m1 := F.called_set.made
  have m2 := F.called_set.sub
  refine wpAny_call (codeAny_of_tree ?_)
  show wpAny _ _ (callAny (.type "set") _) _ _ _
  refine wpAny_pure ⟨Code.quiet_builtin _ (by decide +kernel), codeAny_builtin F.entry_type_call ?_⟩
  rw [Around.under_plain (weight_type_call_type "set" [.ref l] []) rfl]
  have n1 := F.called_set.notType
  have n2 := F.called_set.canCreate
  have n3 := F.typeCall_set_1 (.ref l)
  repeat (any_goals (first | assumption | wp_step))
  refine codeAny_mono (code_set_led1 (.ref l) (E := E) (Q₁ := fun x u => x = .ref s.heap.objs.size ∧ u = { s with heap := s.heap.push (nSet w) }) ⟨rfl, rfl⟩) fun r u hr => ?_
  cases r with
  | error e => exact hr
  | ok fl =>
    cases fl with
    | ret x =>
      obtain ⟨rfl, rfl⟩ := hr
      have eS : (s.heap.push (nSet w)).get? s.heap.objs.size = some (nSet w) := Heap.get?_push_size _ rfl
      have eT : Shared.TypeIs { s with heap := s.heap.push (nSet w) } (.ref s.heap.objs.size) "set" := ⟨_, eS, rfl⟩
      have i1 := F.called_set.init.lookup
      have i2 := F.called_set.init.bind (.ref s.heap.objs.size)
      repeat (any_goals (first | assumption | wp_step))
      refine codeAny_mono (codeAny_call_builtin (R := wants (fun r u => r = .none ∧ ∃ g tk c, u = { s with heap := g, toks := tk } ∧
        SetR w g s.heap.objs.size (fun j => decide (j ∈ ns)) c ∧ (∀ b o, s.heap.get? b = some o → g.get? b = some o)) E) F.called_set.init.plain F.entry_set_init (check_set_init_1 eT ?_)) fun r u hr => ?_
      · obtain ⟨⟨k0, k1, k2, k3⟩, ho, hc, n, hd⟩ := hl
        simp only at hc hd
        subst hc hd
        have ho2 : (s.heap.push (nSet w)).get? l = some { cls := .type "list", dict := k1, data := .seq its n, slots := k3 } := Heap.get?_push_of_some _ ho
        have s1 := F.sub_list_set
        have s2 := F.sub_list_frozenset
        have s3 : (Value.type "list" == Value.type "dict") = false := by decide
        have hl2 : (s.heap.push (nSet w)).IsList l its := ⟨_, ho2, rfl, n, rfl⟩
        unfold Builtin.«set.__init__» noKeywords Builtin.Frozenset.updateFrom
        generalize eP : pyIter = PI
        wp_walk
        subst eP
        refine wpAny_pyIter_list hl2 ?_
        refine wpAny_bind (wpAny_runValue ?_)
        have lt : l < s.heap.objs.size := Heap.lt_size ho
        have z1 : (s.heap.push (nSet w)).objs.size = s.heap.objs.size + 1 := Heap.size_push ..
        have ne : l ≠ (s.heap.push (nSet w)).objs.size := by rw [z1]; exact Nat.ne_of_lt (Nat.lt_succ_of_lt lt)
        have nf : s.heap.objs.size ∉ [(s.heap.push (nSet w)).objs.size, l] := by
          rw [z1]
          intro z
          rcases List.mem_cons.mp z with z | z
          · exact Nat.ne_of_lt (Nat.lt_succ_self _) z
          · exact Nat.ne_of_gt lt (List.mem_singleton.mp z)
        have hv : ∀ (i : Nat) (v : Value), its[i]? = some v → ∃ k t, ns[i]? = some k ∧ v = .int k t := fun i v hv => by
          have hi2 : i < ns.length := by rw [← sz]; exact (Array.getElem?_eq_some_iff.mp hv).1
          obtain ⟨t, e⟩ := IntsAre.int_at hi i v (by rw [Array.getElem?_toList]; exact hv)
          exact ⟨ns[i], t, List.getElem?_eq_getElem hi2, by rw [e, List.getD_eq_getElem?_getD, List.getElem?_eq_getElem hi2]; rfl⟩
        refine set_update_ints ((Walks.list (show A.in1.in1.in1.handled = none from hh) _ l ne its).toS) s.heap.objs.size nf ns sz hb hv (its.size - 0) 0 _ (by omega) (Nat.zero_le _)
          ⟨⟨_, Heap.get?_push_size _ rfl, rfl, rfl⟩, (hl2.push _)⟩ ⟨0, Nat.le_refl 0, setR_new_at (Heap.get?_push_of_some _ eS)⟩ ?_
        intro u c' hm _ hS
        obtain ⟨g, g2, d2, t2, o2⟩ := u
        have e1 : g2 = s.gens := hm.gens
        have e2 : d2 = s.drawn := hm.drawn
        have e3 : o2 = s.os := hm.os
        subst e1 e2 e3
        show wpAny _ _ _ _ _ _
        refine wpAny_pure ?_
        show wpAny _ _ (ret Value.none) _ _ _
        refine wpAny_pure ⟨rfl, g, t2, c', rfl, hS, fun b o e => hm.heap b o (fun z => ?_) (Heap.get?_push_of_some _ (Heap.get?_push_of_some _ e))⟩
        have lb := Heap.lt_size e
        rcases List.mem_cons.mp z with z | z
        · exact Nat.ne_of_lt lb z
        · have z' : b = (s.heap.push (nSet w)).objs.size := List.mem_singleton.mp z
          rw [z1] at z'
          exact Nat.ne_of_lt (Nat.lt_succ_of_lt lb) z'
      · cases r with
        | error e => exact hr
        | ok fl =>
          cases fl with
          | ret x =>
            obtain ⟨rfl, g, tk, c, rfl, q1, q2⟩ := hr
            repeat (any_goals (first | assumption | wp_step))
            exact h g tk c q1 q2
          | _ => exact hr
    | _ => exact hr
end

/-! ### x in l -/
section
variable {X : Cx} {K : PySem.W.Frag}
theorem flat_rp {F : Hp} {d : D} {v : V} (h : flatD d = true) (r : Rp K F d v) : flatV v = true := by
  cases d <;> first | (cases r.nonI; rfl) | (cases r.blI; rfl) | (cases r.intI; rfl) | (cases r.strI; rfl) | (exact absurd h Bool.false_ne_true)
theorem flat_eq {F : Hp} {d e : D} {v u : V} (h : flatD d = true) (h' : flatD e = true) (r : Rp K F d v) (q : Rp K F e u) : eqV v u = D.eqv d e := by
  cases d <;> first | (exact absurd h Bool.false_ne_true) | skip
  all_goals (cases e <;> first | (exact absurd h' Bool.false_ne_true) | skip)
  all_goals first | cases r.nonI | cases r.blI | cases r.intI | cases r.strI
  all_goals first | cases q.nonI | cases q.blI | cases q.intI | cases q.strI
  all_goals simp only [eqV, D.eqv]
theorem flat_all {F : Hp} : ∀ {ds : List D} {vs : List V}, ds.all flatD = true → RpL K F ds vs → vs.all flatV = true
  | [], _, _, r => by simp only [RpL] at r; subst r; rfl
  | d :: ds, _, h, r => by
    obtain ⟨v, q, rfl, h2, h3⟩ := r.inv
    rw [List.all_cons, Bool.and_eq_true] at h ⊢
    exact ⟨flat_rp h.1 h2, flat_all h.2 h3⟩
theorem flat_any {F : Hp} {x : D} {u : V} (hx : flatD x = true) (q : Rp K F x u) : ∀ {ds : List D} {vs : List V}, ds.all flatD = true → RpL K F ds vs → inV u vs = ds.any fun z => D.eqv z x
  | [], _, _, r => by simp only [RpL] at r; subst r; rfl
  | d :: ds, _, h, r => by
    obtain ⟨v, r', rfl, h2, h3⟩ := r.inv
    rw [List.all_cons, Bool.and_eq_true] at h
    unfold inV
    rw [List.any_cons, List.any_cons, flat_eq h.1 hx h2 q]
    congr 1
    exact flat_any hx q h.2 h3
theorem py_any {x : D} : ∀ ds : List D, ((toPyL ds).any fun z => PyData.eqv z (toPy x)) = ds.any fun z => D.eqv z x
  | [] => rfl
  | d :: ds => by
    simp only [toPyL, List.any_cons, eqv_py, py_any ds]
theorem k_in (hu : X.A.units + 64 < cLine) (hu2 : X.A.units + 65 < cLine) : OpR X (compareOp .In) (fun x y H Q => rInD X.K x y H Q ∨ rIn X.K false x y H Q) ∧ V2 X.K (fun x y H Q => rInD X.K x y H Q ∨ rIn X.K false x y H Q) oIn := ⟨(op_inD hu2).or op_in_seq, fun F H x y v u Qd Q s rx ry h k => by
  cases y with
  | lst ds =>
    obtain ⟨⟨h1, h2⟩, q⟩ := h
    rw [Bool.false_xor] at q
    refine .inl ⟨toPy x, toPyL ds, dp_of s rx, ?_, shp_shaped h1, ?_, by rw [py_any]; exact k _ F H _ (.refl s) (.bl _) q⟩
    · have := dp_of s ry
      simp only [toPy] at this
      exact this
    · have := shp_shaped h2
      simp only [toPy] at this
      exact this
  | tup ds =>
    obtain ⟨⟨h1, h2⟩, q⟩ := h
    rw [Bool.false_xor] at q
    obtain ⟨a, vs, rfl, g1, g2⟩ := ry.tupI
    refine .inr ⟨a, vs, rfl, .inr (sameT s g1), flat_rp h1 rx, flat_all h2 g2, ?_⟩
    show Q (.bl (inV v vs)) H
    rw [flat_any h1 rx h2 g2]
    exact k _ F H _ (.refl s) (.bl _) q
  | _ => exact h.elim⟩
theorem k_nin (hu : X.A.units + 64 < cLine) (hu2 : X.A.units + 65 < cLine) : OpR X (compareOp .NotIn) (fun x y H Q => rNotInD X.K x y H Q ∨ rIn X.K true x y H Q) ∧ V2 X.K (fun x y H Q => rNotInD X.K x y H Q ∨ rIn X.K true x y H Q) oNin := ⟨(op_notInD hu2).or op_notIn_seq, fun F H x y v u Qd Q s rx ry h k => by
  cases y with
  | lst ds =>
    obtain ⟨⟨h1, h2⟩, q⟩ := h
    rw [Bool.true_xor] at q
    refine .inl ⟨toPy x, toPyL ds, dp_of s rx, ?_, shp_shaped h1, ?_, by rw [py_any]; exact k _ F H _ (.refl s) (.bl _) q⟩
    · have := dp_of s ry
      simp only [toPy] at this
      exact this
    · have := shp_shaped h2
      simp only [toPy] at this
      exact this
  | tup ds =>
    obtain ⟨⟨h1, h2⟩, q⟩ := h
    rw [Bool.true_xor] at q
    obtain ⟨a, vs, rfl, g1, g2⟩ := ry.tupI
    refine .inr ⟨a, vs, rfl, .inr (sameT s g1), flat_rp h1 rx, flat_all h2 g2, ?_⟩
    show Q (.bl (!inV v vs)) H
    rw [flat_any h1 rx h2 g2]
    exact k _ F H _ (.refl s) (.bl _) q
  | _ => exact h.elim⟩

/-! ### sorted(l), sorted(set(l)), len(set(l)), ints -/
theorem ints_rp {F : Hp} : ∀ {ns : List Int} {vs : List V}, RpL K F (ns.map D.int) vs → vs = ns.map V.int
  | [], _, r => by simpa only [List.map_nil, RpL] using r
  | n :: ns, _, r => by
    obtain ⟨v, q, rfl, h2, h3⟩ := RpL.inv r
    rw [ints_rp h3, h2.intI]
    rfl
theorem qf_sorted {e : Expr} {te : Ex} {p pos : Pos} (hm : X.mg "sorted" = none) (ha : QE X e te) (hg : Gl X "sorted" := by rfl) (na : starEach [e] X.env = (false, eval e X.env) :: starEach [] X.env := by rfl) :
    QF X (.Call (.Name "sorted" p) [e] [] pos) (eCall pSorted (aCons te aNil)) :=
  imp_PE (pe_callB cr_sortedI hg hm (by decide +kernel) (pa_cons ha pa_nil na) (by decide) (by decide) na rfl) fun σ H Q h => by
    obtain ⟨F0, B, F, δ, Qd, S, h, k⟩ := h
    refine ⟨F0, B, F, δ, _, S, h, fun v F1 H1 d x1 r1 q1 => ?_⟩
    cases d with
    | lst xs =>
      obtain ⟨ns, ms, rfl, hp, hs, q⟩ := q1
      obtain ⟨a, vs, rfl, h1, h2⟩ := r1.lstI
      have e := ints_rp h2
      subst e
      refine ⟨a, ns, rfl, x1.s.seq h1, fun ns' l p' s' hl => ?_⟩
      have e2 : ns' = ms := sorted_uniq s' hs (p'.trans hp.symm)
      subst e2
      have sH : Same H1 (upd H1 l (.lst (ns'.map V.int))) := upd_same_of hl
      exact k l (ns'.map V.int) (ns'.map D.int) F1 _ ⟨x1.f, x1.h.thenS sH, x1.s.trans sH, x1.n⟩ (x1.h.free hl) (x1.s.free hl) upd_same (.ints _) q
    | _ => exact q1.elim
theorem setR_count {w : World} {h : Heap} {a : Addr} {c : Nat} {ns ms : List Int} (R : SetR w h a (fun j => decide (j ∈ ns)) c) (hn : ms.Nodup) (hm : ∀ k, k ∈ ms ↔ k ∈ ns) : c = ms.length := by
  obtain ⟨o, es, ep, t, _, _, _, _, nd, hk, _, _, e, _⟩ := R
  have p : (es.toList.map keyOf).Perm ms := (List.perm_ext_iff_of_nodup nd hn).mpr fun k => by
    rw [hm k, ← hk k, decide_eq_true_eq]
  have := p.length_eq
  rw [List.length_map, Array.length_toList] at this
  omega
theorem qf_sortSet {e : Expr} {te : Ex} {p p2 q pos : Pos} (hc : X.calm = true) (hm : X.mg "sorted" = none) (hm2 : X.mg "set" = none) (ha : QE X e te) (hg : Gl X "sorted" := by rfl) (hg2 : Gl X "set" := by rfl)
    (na : starEach [e] X.env = (false, eval e X.env) :: starEach [] X.env := by rfl) : QF X (.Call (.Name "sorted" p) [.Call (.Name "set" p2) [e] [] q] [] pos) (eCall pSortSet (aCons te aNil)) := by
  refine ⟨fun pins s σ H Q I h => ?_⟩
  obtain ⟨F0, B, F, δ, Qd, S, h, k⟩ := h
  refine Call_ (ld_blt I hg hm (by decide +kernel : bootBuiltins "sorted" = some (.builtin "sorted")) ?_)
  refine callWith_builtin1 (args_cons ?_ rfl) rfl rfl
  refine Call_ (ld_blt I hg2 hm2 boot_set ?_)
  refine callWith_type1 (args_cons (thn (ha.run pins s σ H (fun v H1 => ∃ F1 d, Ext F H F1 H1 ∧ Rp X.K F1 d v ∧ pSortSet [d] Qd) I ⟨F0, B, F, δ, _, S, h, fun v F1 H1 d x1 r1 q1 => ⟨F1, d, x1, r1, q1⟩⟩) fun v s1 ⟨x, H1, I1, r1, q1⟩ => args_nil ?_) na) na rfl
  obtain ⟨F1, d, x1, rd, q1⟩ := q1
  cases d with
  | lst xs =>
    obtain ⟨ns, ms, rfl, hmm, hs, ⟨h64, hl⟩, q2⟩ := q1
    obtain ⟨a, vs, rfl, g1, g2⟩ := rd.lstI
    have e := ints_rp g2
    subst e
    cases r1
    obtain ⟨its, rv, pl, hz⟩ := I1.list (x1.s.seq g1)
    refine set_of_ints ns (I1.ok.hd hc) pl.isList (by simpa using rv.ints) (by unfold scanBound; omega) fun g tk c R hk => args_nil ?_
    have ec := setR_count R (hs.imp Int.ne_of_lt) hmm
    subst ec
    have I2 : Inv X pins σ H1 { s1 with heap := g, toks := tk } := I1.kept fun b o e => hk b o e
    refine sorted_set R (I2.ok.hd hc) h64 fun u l out c2 ns' kk eg eo hp hget hi hp2 hm3 hl2 => ?_
    have e2 : ns' = ms := strict_uniq hp2 hs fun k => by rw [hm3 k, decide_eq_true_eq, ← hmm k]
    subst e2
    have hlen : (ns'.map V.int).length ≤ sizeLine := by rw [List.length_map, sizeLine_eq]; omega
    have hn : H1 l = none := I2.hok.fresh hp
    have J : Inv X pins σ (upd H1 l (.lst (ns'.map V.int))) { ({ s1 with heap := g, toks := tk } : Shared) with heap := u.heap, gens := u.gens, drawn := u.drawn, toks := u.toks } :=
      I2.call (ch := []) (Un.laid kk hp hn) (I2.hok.laid kk hp ⟨hlen, out.toList, c2, vals_of_ints hi, hget⟩) (by rw [eg]; exact I2.bare) (fun _ z => nomatch z)
    have eu : u = { ({ s1 with heap := g, toks := tk } : Shared) with heap := u.heap, gens := u.gens, drawn := u.drawn, toks := u.toks } := sh_eq eo
    rw [eu]
    have sH : Same H1 (upd H1 l (.lst (ns'.map V.int))) := upd_same_of hn
    exact ⟨.ref l, _, J, rfl, k l (ns'.map V.int) (ns'.map D.int) F1 _ ⟨x1.f, x1.h.thenS sH, x1.s.trans sH, x1.n⟩ (x1.h.free hn) (x1.s.free hn) upd_same (.ints _) q2⟩
  | _ => exact q1.elim
theorem q_lenSet {e : Expr} {te : Ex} {p p2 q pos : Pos} (hc : X.calm = true) (hm : X.mg "len" = none) (hm2 : X.mg "set" = none) (ha : QE X e te) (hg : Gl X "len" := by rfl) (hg2 : Gl X "set" := by rfl)
    (na : starEach [e] X.env = (false, eval e X.env) :: starEach [] X.env := by rfl) : QE X (.Call (.Name "len" p) [.Call (.Name "set" p2) [e] [] q] [] pos) (eCall pLenSet (aCons te aNil)) := by
  refine ⟨fun pins s σ H Q I h => ?_⟩
  obtain ⟨F0, B, F, δ, Qd, S, h, k⟩ := h
  refine Call_ (ld_blt I hg hm PySem.boot_len ?_)
  refine callWith_builtin1 (args_cons ?_ rfl) rfl rfl
  refine Call_ (ld_blt I hg2 hm2 boot_set ?_)
  refine callWith_type1 (args_cons (thn (ha.run pins s σ H (fun v H1 => ∃ F1 d, Ext F H F1 H1 ∧ Rp X.K F1 d v ∧ pLenSet [d] Qd) I ⟨F0, B, F, δ, _, S, h, fun v F1 H1 d x1 r1 q1 => ⟨F1, d, x1, r1, q1⟩⟩) fun v s1 ⟨x, H1, I1, r1, q1⟩ => args_nil ?_) na) na rfl
  obtain ⟨F1, d, x1, rd, q1⟩ := q1
  cases d with
  | lst xs =>
    obtain ⟨ns, ms, rfl, hmm, hs, hl, q2⟩ := q1
    obtain ⟨a, vs, rfl, g1, g2⟩ := rd.lstI
    have e := ints_rp g2
    subst e
    cases r1
    obtain ⟨its, rv, pl, hz⟩ := I1.list (x1.s.seq g1)
    refine set_of_ints ns (I1.ok.hd hc) pl.isList (by simpa using rv.ints) (by unfold scanBound; omega) fun g tk c R hk => args_nil ?_
    have ec := setR_count R hs hmm
    subst ec
    have I2 : Inv X pins σ H1 { s1 with heap := g, toks := tk } := I1.kept fun b o e => hk b o e
    obtain ⟨o, es, ep, t, ho, hex, hd, _, _, _, hb, hf, hn, _⟩ := R
    refine call_len_set ho hex hd hf (by unfold scanBound at hb; omega) ⟨.int ms.length, H1, I2.tok _, ⟨_, by rw [hn]⟩, k (.int ms.length) F1 H1 (.int ms.length) x1 (.int _) q2⟩
  | tup xs =>
    obtain ⟨ns, ms, rfl, hmm, hs, hl, q2⟩ := q1
    obtain ⟨a, vs, rfl, g1, g2⟩ := rd.tupI
    have e := ints_rp g2
    subst e
    cases r1
    obtain ⟨its, rv, pl, hz⟩ := I1.tuple (sameT x1.s g1)
    refine call_set_tupI ns (I1.ok.hd hc) pl (by simpa using rv.ints) (by unfold scanBound; omega) fun g tk c R _ hk => args_nil ?_
    have ec := setR_count R hs hmm
    subst ec
    have I2 : Inv X pins σ H1 { s1 with heap := g, toks := tk } := I1.kept fun b o e => hk b o e
    obtain ⟨o, es, ep, t, ho, hex, hd, _, _, _, hb, hf, hn, _⟩ := R
    refine call_len_set ho hex hd hf (by unfold scanBound at hb; omega) ⟨.int ms.length, H1, I2.tok _, ⟨_, by rw [hn]⟩, k (.int ms.length) F1 H1 (.int ms.length) x1 (.int _) q2⟩
  | _ => exact q1.elim

theorem RpL.rev {F : Hp} : ∀ {ds : List D} {vs : List V}, RpL K F ds vs → RpL K F ds.reverse vs.reverse
  | [], _, h => by simp only [RpL] at h; subst h; exact .nil
  | d :: ds, _, h => by
    obtain ⟨v, r, rfl, h2, h3⟩ := h.inv
    rw [List.reverse_cons, List.reverse_cons]
    exact h3.rev.app (.cons h2 .nil)
/-! ### [::-1] -/
end
section
variable {prog : Program} {w : World} {A : Around} {E : Value → Shared → Prop} {s : Shared}
theorem rev_adjust (n : Nat) : Builtin.Slice.sliceAdjust none none (-1) (n : Int) = ((n : Int) - 1, -1) := by
  unfold Builtin.Slice.sliceAdjust
  simp
theorem rev_places (n : Nat) : Builtin.Slice.slicePlaces ((n : Int) - 1) (-1) (-1) = n := by
  unfold Builtin.Slice.slicePlaces
  have h1 : ¬ ((-1 : Int) > 0) := by decide
  simp only [h1, if_false, show (- -1 : Int) = 1 by decide, Int.ediv_one]
  split <;> omega
theorem rev_pick (xs : Array Value) : ((List.range xs.size).filterMap fun (m : Nat) => xs[((xs.size : Int) - 1 + (m : Int) * -1).toNat]?).toArray = xs.toList.reverse.toArray := by
  have e : (List.range xs.size).filterMap (fun (m : Nat) => xs[((xs.size : Int) - 1 + (m : Int) * -1).toNat]?) = ((List.range xs.size).map fun k => xs.size - 1 - k).filterMap (xs[·]?) := by
    rw [List.filterMap_map]
    have all : ∀ l : List Nat, (∀ m ∈ l, m < xs.size) → l.filterMap (fun (m : Nat) => xs[((xs.size : Int) - 1 + (m : Int) * -1).toNat]?) = l.filterMap ((xs[·]?) ∘ fun k => xs.size - 1 - k) := by
      intro l
      induction l with
      | nil => intro _; rfl
      | cons m l ih =>
        intro h
        have h1 := h m List.mem_cons_self
        have h2 : ((xs.size : Int) - 1 + (m : Int) * -1).toNat = xs.size - 1 - m := by omega
        rw [List.filterMap_cons, List.filterMap_cons, h2, ih fun k hk => h k (List.mem_cons_of_mem _ hk)]
        rfl
    exact all _ fun m hm => List.mem_range.mp hm
  rw [e, PySem.W.krv_range, List.filterMap_reverse, PySem.W.krv_all]
theorem tup_rev {t sl : Addr} {its : Array Value} {vl vu vs : Value} {Q : Value → Shared → Prop} (ht : IsTup s.heap t its) (hs : s.heap.IsSliceOf sl vl vu vs) (pl : IsPart vl none) (pu : IsPart vu none) (ps : IsPart vs (some (-1)))
    (h : Q (.ref s.heap.objs.size) { s with heap := s.heap.push { cls := .type "tuple", data := .seq its.toList.reverse.toArray } }) (hz : its.size ≤ sizeLine) : wpAny (model prog w) A (getItem (.ref t) (.ref sl)) Q E s := by
  have ok : sizeOk (.seq its.toList.reverse.toArray) := by
    show its.toList.reverse.toArray.size ≤ sizeLine
    simpa using hz
  obtain ⟨os, hos, hcs, hds⟩ := id hs
  have hT : s.TypeIs (.ref sl) "slice" := ⟨os, hos, hcs⟩
  unfold getItem
  try with_reducible refine wpAny_holding ?_
  first | refine wpAny_bind (wpAny_pure ?_) | skip
  refine wpAny_bind (wpAny_sequenceKey ht.typeIs (by decide) ?_)
  refine wpAny_bind (wpAny_callSpecial?_slot (name := Str.ofString "__getitem__") ht.typeIs slot_tuple_getitem (wpAny_call_entry slot_tuple_getitem ht.typeIs entry_tuple_getitem ?_ (args_tuple_getitem _ _)))
  show wpAny _ _ (Builtin.Tuple.tupleItemsOf (.ref t) >>= _) _ _ s
  refine wpAny_bind (tupleItemsOf_ ht ?_)
  refine wpAny_bind (wpAny_typeOf hT ?_)
  rw [if_pos (by decide)]
  have app : ∀ {Q : Int × Int × Nat → Shared → Prop}, Q ((its.size : Int) - 1, -1, its.size) s → wpAny (model prog w) A.in1 (Builtin.Slice.sliceApplied (.ref sl) (pure (its.size : Int))) Q E s := by
    intro Q hQ
    unfold Builtin.Slice.sliceApplied Builtin.Slice.sliceFields
    refine wpAny_bind (wpAny_bind (wpAny_field hos hds (x := vl) rfl (wpAny_bind (wpAny_field hos hds (x := vu) rfl (wpAny_bind (wpAny_field hos hds (x := vs) rfl (wpAny_pure ?_)))))))
    refine wpAny_bind (HT.slicePart_ ps ?_)
    show wpAny _ _ (if ((-1 : Int) == 0) = true then _ else _) _ _ s
    rw [if_neg (by decide)]
    refine wpAny_bind (HT.slicePart_ pl (wpAny_bind (HT.slicePart_ pu (wpAny_bind (wpAny_pure ?_)))))
    show wpAny _ _ (match Builtin.Slice.sliceAdjust none none (-1) (its.size : Int) with | (lo, hi) => pure (lo, (-1 : Int), Builtin.Slice.slicePlaces lo hi (-1))) _ _ s
    rw [rev_adjust]
    show wpAny _ _ (pure ((its.size : Int) - 1, (-1 : Int), Builtin.Slice.slicePlaces ((its.size : Int) - 1) (-1) (-1))) _ _ s
    rw [rev_places]
    exact wpAny_pure hQ
  refine wpAny_bind (app ?_)
  have no : ¬ ((((its.size : Int) - 1 == 0) && ((-1 : Int) == 1) && (its.size == its.size)) = true) := by
    rw [show ((-1 : Int) == 1) = false by decide, Bool.and_false, Bool.false_and]
    exact Bool.false_ne_true
  show wpAny _ _ (if (((its.size : Int) - 1 == 0) && ((-1 : Int) == 1) && (its.size == its.size)) = true then _ else _) _ _ s
  rw [if_neg no, rev_pick]
  first
    | exact wpAny_bind (m := Builtin.Tuple.tupleExact _) (wpAny_newObj_type (wpAny_pure ⟨_, rfl, wpAny_pure h⟩) ok)
    | exact wpAny_bind (m := Builtin.Tuple.tupleExact _) (wpAny_newObj_type (wpAny_bind (wpAny_pure (wpAny_pure ⟨_, rfl, wpAny_pure h⟩))) ok)
    | exact wpAny_bind (wpAny_bind (m := Builtin.Tuple.tupleExact _) (wpAny_newObj_type (wpAny_pure (wpAny_pure ⟨_, rfl, wpAny_pure h⟩)) ok))
    | exact wpAny_bind (wpAny_bind (m := Builtin.Tuple.tupleExact _) (wpAny_newObj_type (wpAny_pure ⟨_, rfl, wpAny_pure h⟩) ok))
end
section
variable {X : Cx}
/-- x[::-1], x a list or a tuple -/
theorem q_rev {e : Expr} {te : Ex} {k : Nat} {p1 p2 p3 pos : Pos} (he : QE X e te) : QE X (.Subscript e (.Slice none none (some (.UnaryOp .USub (.Constant (.int 1) k p1) p2)) p3) pos) (e1 oRev te) := by
  refine ⟨fun pins s σ H Q I h => ?_⟩
  obtain ⟨F0, B, F, δ, Qd, S, h, kk⟩ := h
  refine Subscript_ (thn (he.run pins s σ H (fun v H1 => ∃ F1 d, Ext F H F1 H1 ∧ Rp X.K F1 d v ∧ oRev d Qd) I ⟨F0, B, F, δ, _, S, h, fun v F1 H1 d x1 r1 q1 => ⟨F1, d, x1, r1, q1⟩⟩) fun v s1 ⟨x, H1, I1, r1, q1⟩ => ?_)
  obtain ⟨F1, d, x1, rd, q1⟩ := q1
  have st : PO X (some (.UnaryOp .USub (.Constant (.int 1) k p1) p2)) (tPart (tUn (rU fun i => .int (-i)) (tC (.int 1)))) := po_some (pe_un un_neg pe_int)
  refine wpAny_Slice (thn (po_none.run pins s1 σ H1 (fun o H2 => o = none ∧ H2 = H1) I1 ⟨rfl, rfl⟩) fun vl s2 ⟨l, H2, I2, pl, el, e2⟩ => ?_)
  cases el
  cases e2
  refine thn (po_none.run pins s2 σ H1 (fun o H3 => o = none ∧ H3 = H1) I2 ⟨rfl, rfl⟩) fun vu s3 ⟨u, H3, I3, pu, eu, e3⟩ => ?_
  cases eu
  cases e3
  refine thn (st.run pins s3 σ H1 (fun o H4 => o = some (-1) ∧ H4 = H1) I3 ⟨1, rfl, -1, rfl, rfl, rfl⟩) fun vs s4 ⟨o, H4, I4, ps, eo, e4⟩ => ?_
  cases eo
  cases e4
  have I5 : Inv X pins σ H1 { s4 with heap := s4.heap.push { cls := .type "slice", data := .fields #[vl, vu, vs] } } := I4.kept (t' := s4.toks) fun b ob q => Heap.get?_push_of_some _ q
  cases d with
  | lst xs =>
    obtain ⟨a, ys, rfl, g1, g2⟩ := rd.lstI
    cases r1
    obtain ⟨its, r, ht, hz⟩ := I5.list (x1.s.seq g1)
    have hlen := r.length
    show wpAny _ X.A (subscriptTail e (.Slice none none (some (.UnaryOp .USub (.Constant (.int 1) k p1) p2)) p3) (.ref a) (.ref s4.heap.objs.size)) _ _ _
    refine tail_any (ops := [.ref a, .ref s4.heap.objs.size]) ht.isList.typeIs (PySem.slot_list_getitem.lookup) ?_ (by with_unfolding_all rfl)
    refine wpAny_getItem_list_slice ht.isList (Heap.IsSliceOf.new _ vl vu vs) pl pu ps (by decide) ?_ (by rw [List.size_toArray]; omega)
    rw [PySem.W.krv_pick]
    have hn := I5.hok.fresh (Nat.le_refl _)
    have x4 : Ext F1 H1 (upd F1 _ (.lst ys.reverse)) (upd H1 _ (.lst ys.reverse)) := Ext.new x1.s hn
    refine ⟨.ref _, _, I5.laid (t' := s4.toks) (o := .lst ys.reverse) (fun b ob q => Heap.get?_push_of_some _ q) (Nat.le_refl _) ⟨by rw [List.length_reverse]; exact hz, _, 0, r.reverse, Heap.get?_push_size _ rfl⟩, rfl, kk _ _ _ _ (x1.trans x4) (.lst (.of upd_same) (g2.rev.mono x4.f)) q1⟩
  | tup xs =>
    obtain ⟨a, ys, rfl, g1, g2⟩ := rd.tupI
    cases r1
    obtain ⟨its, r, ht, hz⟩ := I5.tuple (sameT x1.s g1)
    have hlen := r.length
    show wpAny _ X.A (subscriptTail e (.Slice none none (some (.UnaryOp .USub (.Constant (.int 1) k p1) p2)) p3) (.ref a) (.ref s4.heap.objs.size)) _ _ _
    refine tail_any (ops := [.ref a, .ref s4.heap.objs.size]) ht.typeIs (slot_tuple_getitem.lookup) ?_ (by with_unfolding_all rfl)
    refine tup_rev ht (Heap.IsSliceOf.new _ vl vu vs) pl pu ps ?_ (by rw [List.size_toArray]; omega)
    have hn := I5.hok.fresh (Nat.le_refl _)
    have x4 : Ext F1 H1 (upd F1 _ (.tup ys.reverse)) (upd H1 _ (.tup ys.reverse)) := Ext.new x1.s hn
    refine ⟨.ref _, _, I5.laid (t' := s4.toks) (o := .tup ys.reverse) (fun b ob q => Heap.get?_push_of_some _ q) (Nat.le_refl _) ⟨by rw [List.length_reverse]; exact hz, _, r.reverse, IsTup.new _ _⟩, rfl, kk _ _ _ _ (x1.trans x4) (.tup upd_same (g2.rev.mono x4.f)) q1⟩
  | _ => exact q1.elim
end
theorem units65 {k : Nat} {A : Around} (r : Room k A) : A.units + 65 < cLine := by have := r.un; omega
end PL

set_option Elab.async false
set_option linter.all false
set_option maxRecDepth 100000
/-! PLS9: max, min, sum over tuples too; fresh lists by + and *. -/
namespace PL
variable [Tabs]
open PySem PySem.Spec PyProof.Rows L2

section
variable {P : Program} {w : World} {A : Around} {E : Value → Shared → Prop} {s : Shared} {t : Addr} {its : List Value} {ns : List Int} {Q : Value → Shared → Prop}
theorem ints_val (hi : IntsAre its ns) : ∀ (i : Nat) (v : Value), its.toArray[i]? = some v → ∃ t, v = .int (ns.getD i 0) t := fun i v hv =>
  IntsAre.int_at hi i v (by simpa using hv)
theorem ns_mem {m i : Nat} (h : i < ns.length) : ns.getD i 0 ∈ ns := by
  rw [List.getD_eq_getElem?_getD, List.getElem?_eq_getElem h]
  exact List.getElem_mem h
theorem ns_at {y : Int} (h : y ∈ ns) : ∃ i, i < ns.length ∧ ns.getD i 0 = y := by
  obtain ⟨i, hi, e⟩ := List.mem_iff_getElem.mp h
  exact ⟨i, hi, by rw [List.getD_eq_getElem?_getD, List.getElem?_eq_getElem hi, ← e]; rfl⟩
theorem pre_take : ∀ k, k ≤ ns.length → preSum (fun i => ns.getD i 0) k = (ns.take k).sum
  | 0, _ => by simp [preSum]
  | k + 1, h => by
    have ih := pre_take k (by omega)
    have e : ns.getD k 0 = ns[k] := by rw [List.getD_eq_getElem?_getD, List.getElem?_eq_getElem (by omega)]; rfl
    rw [List.take_add_one, List.getElem?_eq_getElem (by omega)]
    show preSum (fun i => ns.getD i 0) k + ns.getD k 0 = (ns.take k ++ [ns[k]]).sum
    rw [ih, e, List.sum_append, List.sum_cons, List.sum_nil, Int.add_zero]
theorem new_keep {b : Addr} {o : Obj} {wr : List Addr} {g h' : Heap} {x : Obj} (hw : wr = [g.objs.size]) (hk : ∀ b o, b ∉ wr → (g.push x).get? b = some o → h'.get? b = some o) (e : g.get? b = some o) : h'.get? b = some o := by
  refine hk b o (fun z => ?_) (Heap.get?_push_of_some _ e)
  rw [hw] at z
  have e1 : b = g.objs.size := List.mem_singleton.mp z
  have e2 := Heap.lt_size e
  rw [e1] at e2
  exact absurd e2 (Nat.lt_irrefl _)
theorem two_lt {b n : Nat} {g : Heap} {x : Obj} (hn : n < g.objs.size) (h : b ∈ [g.objs.size, n]) : b < (g.push x).objs.size := by
  rw [Heap.size_push]
  rcases List.mem_cons.mp h with e | h
  · rw [e]; exact Nat.lt_succ_self _
  · rw [List.mem_singleton.mp h]; exact Nat.lt_succ_of_lt hn
theorem max_tup (hh : A.handled = none) (ht : s.heap.IsTuple t its.toArray) (hi : IntsAre its ns) (hne : 0 < ns.length)
    (h : ∀ g tk m t', (∀ b o, s.heap.get? b = some o → g.get? b = some o) → m ∈ ns → (∀ y ∈ ns, y ≤ m) → Q (.int m t') { s with heap := g, toks := tk }) : wpAny (model P w) A (call (.builtin "max") [.ref t]) Q E s := by
  have hlt : t < s.heap.objs.size := let ⟨o, ho, _⟩ := ht; Heap.lt_size ho
  have sz : its.toArray.size = ns.length := by rw [List.size_toArray]; exact IntsAre.length hi
  refine call_max_walk (wpAny_pyIter_tuple ht ?_)
  refine ⟨_, _, _, _, _, _, _, rfl, Walks.tuple (A := A.in1) hh _ t (Nat.ne_of_lt hlt) its.toArray, ⟨⟨_, Heap.get?_push_size _ rfl, rfl, rfl⟩, ht.push _⟩, fun b hb => two_lt hlt hb, by rw [sz]; exact hne, CmpOf.ints_gt (fun i => ns.getD i 0) (ints_val hi), fun v g tk hP hk => ?_⟩
  obtain ⟨t', rfl⟩ := ints_val hi _ v hP
  obtain ⟨b1, b2⟩ := argBest_gt (fun i => ns.getD i 0) (its.toArray.size - 1)
  refine h g tk _ t' (fun b o e => new_keep rfl hk e) (ns_mem (m := 0) (by omega)) fun y hy => ?_
  obtain ⟨i, hi2, e⟩ := ns_at hy
  rw [← e]
  exact b2 i (by omega)
theorem min_tup (hh : A.handled = none) (ht : s.heap.IsTuple t its.toArray) (hi : IntsAre its ns) (hne : 0 < ns.length)
    (h : ∀ g tk m t', (∀ b o, s.heap.get? b = some o → g.get? b = some o) → m ∈ ns → (∀ y ∈ ns, m ≤ y) → Q (.int m t') { s with heap := g, toks := tk }) : wpAny (model P w) A (call (.builtin "min") [.ref t]) Q E s := by
  have hlt : t < s.heap.objs.size := let ⟨o, ho, _⟩ := ht; Heap.lt_size ho
  have sz : its.toArray.size = ns.length := by rw [List.size_toArray]; exact IntsAre.length hi
  refine call_min_walk (wpAny_pyIter_tuple ht ?_)
  refine ⟨_, _, _, _, _, _, _, rfl, Walks.tuple (A := A.in1) hh _ t (Nat.ne_of_lt hlt) its.toArray, ⟨⟨_, Heap.get?_push_size _ rfl, rfl, rfl⟩, ht.push _⟩, fun b hb => two_lt hlt hb, by rw [sz]; exact hne, CmpOf.ints_lt (fun i => ns.getD i 0) (ints_val hi), fun v g tk hP hk => ?_⟩
  obtain ⟨t', rfl⟩ := ints_val hi _ v hP
  obtain ⟨b1, b2⟩ := argBest_lt (fun i => ns.getD i 0) (its.toArray.size - 1)
  refine h g tk _ t' (fun b o e => new_keep rfl hk e) (ns_mem (m := 0) (by omega)) fun y hy => ?_
  obtain ⟨i, hi2, e⟩ := ns_at hy
  rw [← e]
  exact b2 i (by omega)
theorem sum_tup (hh : A.handled = none) (ht : s.heap.IsTuple t its.toArray) (hi : IntsAre its ns)
    (h : ∀ g tk t', (∀ b o, s.heap.get? b = some o → g.get? b = some o) → Q (.int ns.sum t') { s with heap := g, toks := tk }) : wpAny (model P w) A (call (.builtin "sum") [.ref t]) Q E s := by
  have hlt : t < s.heap.objs.size := let ⟨o, ho, _⟩ := ht; Heap.lt_size ho
  have sz : its.toArray.size = ns.length := by rw [List.size_toArray]; exact IntsAre.length hi
  refine call_sum_walkG (wpAny_pyIter_tuple ht ?_)
  refine ⟨_, _, _, _, _, _, fun i => ns.getD i 0, rfl, Walks.tuple (A := A.in1) hh _ t (Nat.ne_of_lt hlt) its.toArray, ⟨⟨_, Heap.get?_push_size _ rfl, rfl, rfl⟩, ht.push _⟩, fun b hb => two_lt hlt hb, ints_val hi, fun g tk t' hk => ?_⟩
  rw [sz, pre_take _ (Nat.le_refl _), List.take_length]
  exact h g tk t' fun b o e => new_keep rfl hk e
end
section
variable {X : Cx}
def rMaxS (K : PySem.W.Frag) : List V → Hp → VK → Prop := fun vs H Q => ∃ (a : Addr) (ns : List Int), vs = [V.ref a] ∧ (SqL K H a (ns.map V.int) ∨ SqT K H a (ns.map V.int)) ∧ 0 < ns.length ∧ ∀ m, m ∈ ns → (∀ y ∈ ns, y ≤ m) → Q (.int m) H
def rMinS (K : PySem.W.Frag) : List V → Hp → VK → Prop := fun vs H Q => ∃ (a : Addr) (ns : List Int), vs = [V.ref a] ∧ (SqL K H a (ns.map V.int) ∨ SqT K H a (ns.map V.int)) ∧ 0 < ns.length ∧ ∀ m, m ∈ ns → (∀ y ∈ ns, m ≤ y) → Q (.int m) H
def rSumS (K : PySem.W.Frag) : List V → Hp → VK → Prop := fun vs H Q => ∃ (a : Addr) (ns : List Int), vs = [V.ref a] ∧ (SqL K H a (ns.map V.int) ∨ SqT K H a (ns.map V.int)) ∧ Q (.int ns.sum) H
theorem cr_maxS (hc : X.calm = true) : CallR X (.builtin "max") (rMaxS X.K) := by
  intro pins s σ H vs us Q I r h
  obtain ⟨a, ns, rfl, hs, hne, q⟩ := h
  rw [Vals.ref1 r]
  rcases hs with hs | hs
  · obtain ⟨its, rv, hl, _⟩ := I.list hs
    exact max_raw (I.ok.hd hc) hl.isList rv.ints hne fun g tk m t' hk h1 h2 => ⟨.int _, H, I.kept hk, ⟨_, rfl⟩, q m h1 h2⟩
  · obtain ⟨its, rv, hl, _⟩ := I.tuple hs
    exact max_tup (I.ok.hd hc) hl rv.ints hne fun g tk m t' hk h1 h2 => ⟨.int _, H, I.kept hk, ⟨_, rfl⟩, q m h1 h2⟩
theorem cr_minS (hc : X.calm = true) : CallR X (.builtin "min") (rMinS X.K) := by
  intro pins s σ H vs us Q I r h
  obtain ⟨a, ns, rfl, hs, hne, q⟩ := h
  rw [Vals.ref1 r]
  rcases hs with hs | hs
  · obtain ⟨its, rv, hl, _⟩ := I.list hs
    exact min_raw (I.ok.hd hc) hl.isList rv.ints hne fun g tk m t' hk h1 h2 => ⟨.int _, H, I.kept hk, ⟨_, rfl⟩, q m h1 h2⟩
  · obtain ⟨its, rv, hl, _⟩ := I.tuple hs
    exact min_tup (I.ok.hd hc) hl rv.ints hne fun g tk m t' hk h1 h2 => ⟨.int _, H, I.kept hk, ⟨_, rfl⟩, q m h1 h2⟩
theorem cr_sumS (hc : X.calm = true) : CallR X (.builtin "sum") (rSumS X.K) := by
  intro pins s σ H vs us Q I r h
  obtain ⟨a, ns, rfl, hs, q⟩ := h
  rw [Vals.ref1 r]
  rcases hs with hs | hs
  · obtain ⟨its, rv, hl, _⟩ := I.list hs
    exact sum_raw (I.ok.hd hc) hl.isList rv.ints fun g tk t' hk => ⟨.int _, H, I.kept hk, ⟨_, rfl⟩, q⟩
  · obtain ⟨its, rv, hl, _⟩ := I.tuple hs
    exact sum_tup (I.ok.hd hc) hl rv.ints fun g tk t' hk => ⟨.int _, H, I.kept hk, ⟨_, rfl⟩, q⟩
theorem asNs_of {F H : Hp} {K : PySem.W.Frag} (s : Same F H) {ds : List D} {vs : List V} {R : List D → Prop} (r : RpL K F ds vs) (h : asNs ds R) : ∃ a us xs, vs = [.ref a] ∧ (SqL K H a us ∨ SqT K H a us) ∧ RpL K F xs us ∧ R xs := by
  unfold asNs at h
  split at h
  · obtain ⟨v, rfl, r1⟩ := r.one
    obtain ⟨a, us, rfl, h1, h2⟩ := r1.lstI
    exact ⟨a, us, _, rfl, .inl (s.seq h1), h2, h⟩
  · obtain ⟨v, rfl, r1⟩ := r.one
    obtain ⟨a, us, rfl, h1, h2⟩ := r1.tupI
    exact ⟨a, us, _, rfl, .inr (sameT s h1), h2, h⟩
  · exact h.elim
theorem b_maxS (hc : X.calm = true) : CallR X (.builtin "max") (rMaxS X.K) ∧ VC X.K (rMaxS X.K) pMax := ⟨cr_maxS hc, fun F H ds vs Qd Q s r h k => by
  obtain ⟨a, us, xs, rfl, h1, h2, ns, m, rfl, hm, hy, q⟩ := asNs_of s r h
  have e := ints_rp h2
  subst e
  refine ⟨a, ns, rfl, h1, List.length_pos_of_mem hm, fun m' hm' hy' => ?_⟩
  have : m' = m := Int.le_antisymm (hy m' hm') (hy' m hm)
  subst this
  exact k _ F H _ (.refl s) (.int _) q⟩
theorem b_minS (hc : X.calm = true) : CallR X (.builtin "min") (rMinS X.K) ∧ VC X.K (rMinS X.K) pMin := ⟨cr_minS hc, fun F H ds vs Qd Q s r h k => by
  obtain ⟨a, us, xs, rfl, h1, h2, ns, m, rfl, hm, hy, q⟩ := asNs_of s r h
  have e := ints_rp h2
  subst e
  refine ⟨a, ns, rfl, h1, List.length_pos_of_mem hm, fun m' hm' hy' => ?_⟩
  have : m' = m := Int.le_antisymm (hy' m hm) (hy m' hm')
  subst this
  exact k _ F H _ (.refl s) (.int _) q⟩
theorem b_sumS (hc : X.calm = true) : CallR X (.builtin "sum") (rSumS X.K) ∧ VC X.K (rSumS X.K) pSumS := ⟨cr_sumS hc, fun F H ds vs Qd Q s r h k => by
  obtain ⟨a, us, xs, rfl, h1, h2, n, e, q⟩ := asNs_of s r h
  obtain ⟨bs, rfl, e2⟩ := ints_of_sum e h2
  exact ⟨a, bs, rfl, h1, by rw [e2]; exact k _ F H _ (.refl s) (.int _) q⟩⟩
theorem qf_cat {a b : Expr} {ta tb : Ex} {pos : Pos} (ha : QE X a ta) (hb : QE X b tb) : QF X (.BinOp a .Add b pos) (e2 oCatL ta tb) :=
  imp_PE (pe_op op_catL ha hb) fun σ H Q h => by
    obtain ⟨F0, B, F, δ, Qd, S, h, k⟩ := h
    refine ⟨F0, B, F, δ, _, S, h, fun v F1 H1 x x1 r1 q1 => ⟨F0, B, F1, δ, _, S.mono x1, q1, fun u F2 H2 y x2 r2 q2 => ?_⟩⟩
    cases x with
    | lst xs =>
      cases y with
      | lst ys =>
        obtain ⟨p, vs, rfl, h1, h2⟩ := (r1.mono x2.f).lstI
        obtain ⟨q, us, rfl, g1, g2⟩ := r2.lstI
        refine ⟨p, q, vs, us, rfl, rfl, x2.s.seq h1, x2.s.seq g1, by rw [line_eq, h2.len, g2.len]; exact q2.1, fun l hl => ?_⟩
        have x12 := x1.trans x2
        have sH : Same H2 (upd H2 l (.lst (vs ++ us))) := upd_same_of hl
        exact k l (vs ++ us) (xs ++ ys) F2 _ ⟨x12.f, x12.h.thenS sH, x12.s.trans sH, x12.n⟩ (x12.h.free hl) (x12.s.free hl) upd_same (h2.app g2) q2.2
      | _ => exact q2.elim
    | _ => cases y <;> exact q2.elim
theorem qf_rep {a b : Expr} {ta tb : Ex} {pos : Pos} (ha : QF X a ta) (hb : QE X b tb) : QF X (.BinOp a .Mult b pos) (e2 oRepL ta tb) :=
  imp_PE (pe_op op_rep ha hb) fun σ H Q h => by
    obtain ⟨F0, B, F, δ, Qd, S, h, k⟩ := h
    refine ⟨F0, B, F, δ, _, S, h, fun p vs xs F1 H1 x1 hp0 hp1 hp r1 q1 => ⟨F0, B, F1, δ, _, S.mono x1, q1, fun u F2 H2 y x2 r2 q2 => ?_⟩⟩
    cases y with
    | int n =>
      refine ⟨p, n, vs, rfl, r2.intI, x2.h.at hp, q2.1.1, q2.1.2.1, by rw [line_eq, r1.len]; exact q2.1.2.2, fun l hl => ?_⟩
      have x12 := x1.trans x2
      have sH : Same H2 (upd H2 l (.lst (List.replicate n.toNat vs).flatten)) := upd_same_of hl
      exact k l _ _ F2 _ ⟨x12.f, x12.h.thenS sH, x12.s.trans sH, x12.n⟩ (x12.h.free hl) (x12.s.free hl) upd_same ((r1.mono x2.f).rep n.toNat) q2.2
    | _ => exact q2.elim
end
end PL

set_option Elab.async false
set_option linter.all false
set_option maxRecDepth 100000
/-! PLS10: chains of three comparisons. -/
namespace PL
variable [Tabs]
open PySem PySem.Spec PyProof.Rows L2
section
variable {X : Cx} {a b c d : Expr} {ta tb tc td : Ex} {pos : Pos}
theorem q_chn3 {op op' op'' : CmpOp} {r r' r'' : R2} {p q t : Op2} (ho : OpR X (compareOp op) r ∧ V2 X.K r p) (ho' : OpR X (compareOp op') r' ∧ V2 X.K r' q) (ho'' : OpR X (compareOp op'') r'' ∧ V2 X.K r'' t) (ha : QE X a ta) (hb : QE X b tb) (hc : QE X c tc) (hd : QE X d td)
    (hm : lastMarks [op, op', op''] [b, c, d] = false := by with_unfolding_all rfl) : QE X (.Compare a [op, op', op''] [b, c, d] pos) (eChn3 p q t ta tb tc td) := by
  refine ⟨fun pins s σ H Q I h => ?_⟩
  obtain ⟨F0, B, F, δ, Qd, S, h, k⟩ := h
  refine Compare_chain (thn (ha.run pins s σ H (fun v H1 => ∃ F1 x, Ext F H F1 H1 ∧ Rp X.K F1 x v ∧ (tb δ fun y => p x y fun z => asB z fun k => if k = true then tc δ fun w => q y w fun z => asB z fun k => if k = true then td δ fun v => t w v Qd else Qd (.bl false) else Qd (.bl false))) I
    ⟨F0, B, F, δ, _, S, h, fun v F1 H1 d x1 r1 q1 => ⟨F1, d, x1, r1, q1⟩⟩) fun v s1 ⟨vx, H1, I1, rv, F1, x, x1, rx, h1⟩ => ?_) hm
  refine chain_link (thn (hb.run pins s1 σ H1 (fun v H2 => ∃ F2 y, Ext F1 H1 F2 H2 ∧ Rp X.K F2 y v ∧ (p x y fun z => asB z fun k => if k = true then tc δ fun w => q y w fun z => asB z fun k => if k = true then td δ fun v => t w v Qd else Qd (.bl false) else Qd (.bl false))) I1
    ⟨F0, B, F1, δ, _, S.mono x1, h1, fun v F2 H2 d x2 r2 q2 => ⟨F2, d, x2, r2, q2⟩⟩) fun u s2 ⟨vy, H2, I2, ru, F2, y, x2, ry, h2⟩ => ?_)
  refine thn (ho.1 pins s2 σ H2 vx vy v u (fun w H3 => ∃ F3 k, Ext F2 H2 F3 H3 ∧ w = .bl k ∧ (if k = true then tc δ fun w => q y w fun z => asB z fun k => if k = true then td δ fun v => t w v Qd else Qd (.bl false) else Qd (.bl false))) I2 rv ru
    (ho.2 F2 H2 x y vx vy _ _ x2.s (rx.mono x2.f) ry h2 fun w F3 H3 d x3 r3 q3 => ?_)) fun dv s3 ⟨z, H3, I3, r3, F3, kk, x3, e, h3⟩ => ?_
  · cases d with
    | bl c => exact ⟨F3, c, x3, r3.blI, q3⟩
    | _ => exact q3.elim
  subst e
  cases r3
  refine wpAny_truthy_bool ?_
  have x13 := (x1.trans x2).trans x3
  cases kk with
  | false => rw [if_neg Bool.false_ne_true]; exact ⟨.bl false, H3, I3, rfl, k _ F3 H3 (.bl false) x13 (.bl false) h3⟩
  | true =>
    rw [if_pos rfl]; refine (chain_link (thn (hc.run pins s3 σ H3 (fun v H4 => ∃ F4 w, Ext F3 H3 F4 H4 ∧ Rp X.K F4 w v ∧ (q y w fun z => asB z fun k => if k = true then td δ fun v => t w v Qd else Qd (.bl false))) I3
      ⟨F0, B, F3, δ, _, S.mono x13, h3, fun v F4 H4 d x4 r4 q4 => ⟨F4, d, x4, r4, q4⟩⟩) fun w' s4 ⟨vw, H4, I4, rw4, F4, w, x4, rw, h4⟩ => ?_))
    refine thn (ho'.1 pins s4 σ H4 vy vw u w' (fun w5 H5 => ∃ F5 k, Ext F4 H4 F5 H5 ∧ w5 = .bl k ∧ (if k = true then td δ fun v => t w v Qd else Qd (.bl false))) I4 ru rw4
      (ho'.2 F4 H4 y w vy vw _ _ x4.s (ry.mono (x3.f.trans x4.f)) rw h4 fun w5 F5 H5 d x5 r5 q5 => ?_)) fun dv s5 ⟨z, H5, I5, r5, F5, kk, x5, e, h5⟩ => ?_
    · cases d with
      | bl c => exact ⟨F5, c, x5, r5.blI, q5⟩
      | _ => exact q5.elim
    subst e
    cases r5
    refine wpAny_truthy_bool ?_
    have x15 := (x13.trans x4).trans x5
    cases kk with
    | false => rw [if_neg Bool.false_ne_true]; exact ⟨.bl false, H5, I5, rfl, k _ F5 H5 (.bl false) x15 (.bl false) h5⟩
    | true =>
      rw [if_pos rfl]; refine (chain_last (thn (hd.run pins s5 σ H5 (fun v H6 => ∃ F6 z, Ext F5 H5 F6 H6 ∧ Rp X.K F6 z v ∧ t w z Qd) I5
        ⟨F0, B, F5, δ, _, S.mono x15, h5, fun v F6 H6 d x6 r6 q6 => ⟨F6, d, x6, r6, q6⟩⟩) fun v6 s6 ⟨vz, H6, I6, rv6, F6, z, x6, rz, h6⟩ => ?_))
      exact ho''.1 pins s6 σ H6 vw vz w' v6 Q I6 rw4 rv6 (ho''.2 F6 H6 w z vw vz Qd Q x6.s (rw.mono (x5.f.trans x6.f)) rz h6 fun w7 F7 H7 d x7 r7 q7 => k w7 F7 H7 d ((x15.trans x6).trans x7) r7 q7)
end
end PL

set_option Elab.async false
set_option linter.all false
set_option maxRecDepth 100000
/-! PLS11: sorted of lists and tuples whose items are ints or tuples of ints; .index; is True; order of tuples. -/
namespace PL
variable [Tabs]
open PySem PySem.Spec PySem.W PyProof.Rows L2
section
variable {prog : Program} {w : World} {A : Around} {E : Value → Shared → Prop} {s : Shared}
theorem check_sorted (a : Value) : checkBuiltinCall "sorted" { pos := [a] } = pure () := by
  have h := args_sorted1 a
  unfold checkBuiltinCall
  have e1 : builtinKind "sorted" = none := by decide +kernel
  rw [e1]
  exact h
theorem sorted_seqD {β : Type} {vs : List Value} {bs : List β} {enc : β → PyData} {R : Value → β → Prop} {p : Addr} {T : String} {o : Obj} {n : Nat} {Q : Value → Shared → Prop}
    (hT : T = "list" ∨ T = "tuple") (ho : s.heap.get? p = some o) (hc : o.cls = .type T) (hd : o.data = .seq vs.toArray n)
    (h1 : EachIs R vs bs) (h2 : EachIs (fun v b => Reads s.heap v (enc b) []) vs bs) (h3 : AllAlike (bs.map enc)) (h4 : Sortable (bs.map enc)) (hl : bs.length ≤ sizeLine)
    (hu : ∀ b ∈ bs, A.units + 2 + (enc b).depth < cLine)
    (hQ : ∀ (h' g : Heap) (l : Addr) (out : List Value) (e : Nat), (∀ b o, s.heap.get? b = some o → h'.get? b = some o) → (∀ b o, h'.get? b = some o → g.get? b = some o) → h'.objs.size ≤ l → g.get? l = some (seqObj "list" out.toArray e) →
      out.length = bs.length → EachIs R out (bs.mergeSort (dataLe false enc)) → Q (.ref l) { s with heap := g }) :
    wpAny (model prog w) A (call (.builtin "sorted") [.ref p]) Q E s := by
  refine wpAny_call (codeAny_call_builtin plain_sorted entry_sorted ?_)
  rw [check_sorted]
  refine wpAny_pure ?_
  unfold Builtin.sorted
  have e0 : checkCount "sorted" 1 1 [Value.ref p].length = pure () := rfl
  show wpAny _ _ (checkCount "sorted" 1 1 [Value.ref p].length >>= _) _ _ _
  rw [e0]
  refine wpAny_bind (wpAny_pure ?_)
  have lv : vs.length = bs.length := h1.length
  refine wpAny_bind (wpAny_collect_seq p hT ho hc hd (fun h' hk => ?_) (by simpa using (show vs.length ≤ sizeLine by rw [lv]; exact hl)))
  refine wpAny_bind (wpAny_newObj_type ?_ (by show vs.toArray.toList.toArray.size ≤ sizeLine; simpa using (show vs.length ≤ sizeLine by rw [lv]; exact hl)))
  refine wpAny_bind (wpAny_holding ?_)
  have hnew : (h'.push (seqObj "list" vs.toArray 0)).get? h'.objs.size = some (seqObj "list" vs.toArray 0) := Heap.get?_push_size _ rfl
  have hk2 : ∀ b o, h'.get? b = some o → (h'.push (seqObj "list" vs.toArray 0)).get? b = some o := fun b o e => Heap.get?_push_of_some _ e
  refine list_sort_data (n := 0) (vs := vs) (bs := bs) (enc := enc) (R := R) hnew h1 (h2.mono fun v b r => ⟨[], PyProof.Rows.Reads.keeps (fun b o e => hk2 b o (hk b o e)) r, fun z => nomatch z⟩) h3 h4 hl (fun b hb => by have := hu b hb; show A.units + 1 + 1 + (enc b).depth < cLine; omega) fun out hlen hout => ?_
  obtain ⟨e, he⟩ := sortedHeap_at (out := out.toArray) hnew
  refine wpAny_pure ?_
  refine hQ h' _ _ out e hk (fun b o h => ?_) (Nat.le_refl _) he hlen hout
  have lb := Heap.lt_size h
  have lb2 : b < (h'.push (seqObj "list" vs.toArray 0)).objs.size := by rw [Heap.size_push]; exact Nat.lt_succ_of_lt lb
  rw [sortedHeap_old (Nat.ne_of_lt lb) lb2]
  exact hk2 b o h
end
/-! ### sorted(x) -/
section
theorem readInts {h : Heap} : ∀ {ns : List Int} {vs : List Value} {as : List Addr}, ReadsAll h vs (ns.map .int) as → as = []
  | [], _, _, r => by cases r; rfl
  | n :: ns, _, _, r => by
    cases r with
    | cons a b =>
      cases a
      rw [readInts b]; rfl
theorem readRow {h : Heap} {ns : List Int} {v : Value} {as : List Addr} (r : Reads h v (.tuple (ns.map .int)) as) : as = [] := by
  cases r with
  | tuple _ _ _ r => exact readInts r
theorem readInt {h : Heap} {n : Int} {v : Value} {as : List Addr} (r : Reads h v (.int n) as) : as = [] := by
  cases r; rfl
theorem toPy_ints : ∀ ns : List Int, toPyL (ns.map D.int) = ns.map PyData.int
  | [] => rfl
  | n :: ns => by
    show toPy (.int n) :: toPyL (ns.map D.int) = _
    rw [toPy_ints ns]; rfl
theorem toPy_row (r : List Int) : toPy (encR r) = .tuple (r.map PyData.int) := by
  show PyData.tuple (toPyL (r.map D.int)) = _
  rw [toPy_ints]
theorem perm_uniq {α : Type} {le : α → α → Prop} (anti : ∀ x y, le x y → le y x → x = y) : ∀ {a b : List α}, a.Pairwise le → b.Pairwise le → a.Perm b → a = b
  | [], b, _, _, p => (p.symm.eq_nil).symm
  | x :: a, [], _, _, p => absurd p.eq_nil (by simp)
  | x :: a, y :: b, ha, hb, p => by
    obtain ⟨h1, h2⟩ := List.pairwise_cons.mp ha
    obtain ⟨g1, g2⟩ := List.pairwise_cons.mp hb
    have e : x = y := by
      rcases List.mem_cons.mp (p.mem_iff.mp List.mem_cons_self) with c | c
      · exact c
      · rcases List.mem_cons.mp (p.mem_iff.mpr List.mem_cons_self) with d | d
        · exact d.symm
        · exact anti _ _ (h1 y d) (g1 x c)
    subst e
    rw [perm_uniq anti h2 g2 (p.cons_inv)]
theorem alikeInts : ∀ {a b : List Int}, a.length = b.length → alikeAll (a.map .int) (b.map .int) = true
  | [], [], _ => by simp [alikeAll]
  | _ :: a, _ :: b, h => by
    simp only [List.length_cons, Nat.add_right_cancel_iff] at h
    simp [alikeAll, alike, alikeInts h]
  | [], _ :: _, h => by simp at h
  | _ :: _, [], h => by simp at h
theorem depthInts : ∀ a : List Int, PyData.depthAll (a.map .int) ≤ 1
  | [] => by simp [PyData.depthAll]
  | _ :: a => by
    have := depthInts a
    simp [PyData.depthAll, PyData.depth]
    omega
variable {X : Cx}
/-- what both kinds of items share -/
structure SortKind (γ : Type) where
  eD : γ → D
  eP : γ → PyData
  py : ∀ g, toPy (eD g) = eP g
  rd : ∀ (h : Heap) v g as, Reads h v (eP g) as → as = []
  le : γ → γ → Bool
  dl : (dataLe false fun b : V × γ => eP b.2) = fun p q => le p.2 q.2
  anti : ∀ x y, le x y = true → le y x = true → x = y
  trans : ∀ x y z, le x y = true → le y z = true → le x z = true
  total : ∀ x y, (le x y || le y x) = true
  dep : ∀ g, (eP g).depth ≤ 2
def kInt : SortKind Int where
  eD := .int
  eP := .int
  py _ := rfl
  rd _ _ _ _ r := readInt r
  le x y := decide (x ≤ y)
  dl := dataLe_int (fun b : V × Int => b.2)
  anti x y h g := by simp at h g; omega
  trans x y z h g := by simp at h g ⊢; omega
  total x y := by simp; omega
  dep g := by simp [PyData.depth]
def kRow : SortKind (List Int) where
  eD := encR
  eP r := .tuple (r.map .int)
  py := toPy_row
  rd _ _ _ _ r := readRow r
  le x y := decide (x ≤ y)
  dl := dataLe_rows (fun b : V × List Int => b.2)
  anti x y h g := List.le_antisymm (of_decide_eq_true h) (of_decide_eq_true g)
  trans x y z h g := decide_eq_true (List.le_trans (of_decide_eq_true h) (of_decide_eq_true g))
  total x y := by
    rw [Bool.or_eq_true, decide_eq_true_eq, decide_eq_true_eq]
    exact List.le_total _ _
  dep g := by
    have := depthInts g
    simp [PyData.depth]
    omega
theorem vals_each {γ : Type} (S : SortKind γ) {K : PySem.W.Frag} {F H : Hp} (sf : Same F H) : ∀ {gs : List γ} {xs : List V} {us : List Value}, RpL K F (gs.map S.eD) xs → Vals xs us →
    ∃ bs : List (V × γ), bs.map (·.2) = gs ∧ bs.map (·.1) = xs ∧ EachIs (fun u b => RelV b.1 u ∧ Rp K F (S.eD b.2) b.1) us bs
  | [], _, us, r, v => by
    simp only [List.map_nil, RpL] at r
    subst r
    cases v
    exact ⟨[], rfl, rfl, .nil⟩
  | g :: gs, _, us, r, v => by
    obtain ⟨x, xs, rfl, h2, h3⟩ := RpL.inv r
    cases v with
    | cons a b =>
      obtain ⟨bs, e1, e2, e3⟩ := vals_each S sf h3 b
      exact ⟨(x, g) :: bs, by simp [e1], by simp [e2], .cons ⟨a, h2⟩ e3⟩
theorem each_back {γ : Type} (S : SortKind γ) {K : PySem.W.Frag} {F : Hp} : ∀ {bs : List (V × γ)} {us : List Value}, EachIs (fun u b => RelV b.1 u ∧ Rp K F (S.eD b.2) b.1) us bs →
    Vals (bs.map (·.1)) us ∧ RpL K F ((bs.map (·.2)).map S.eD) (bs.map (·.1))
  | [], _, r => by cases r; exact ⟨.nil, .nil⟩
  | b :: bs, _, r => by
    cases r with
    | cons a t =>
      obtain ⟨h1, h2⟩ := each_back S t
      exact ⟨.cons a.1 h1, .cons a.2 h2⟩
theorem sorted_of {γ : Type} (S : SortKind γ) {pins : List (Addr × Obj)} {σ : L2.St} {H F : Hp} {s1 : Shared} {a : Addr} {xs : List V} {gs ys : List γ} {T : String} {o : Obj} {n : Nat} {us : List Value} {Q : V → Hp → Prop}
    (hu : X.A.units + 65 < cLine) (I : Inv X pins σ H s1) (sf : Same F H) (hT : T = "list" ∨ T = "tuple") (ho : s1.heap.get? a = some o) (hc : o.cls = .type T) (hd : o.data = .seq us.toArray n) (hv : Vals xs us)
    (rp : RpL X.K F (gs.map S.eD) xs) (hl : xs.length ≤ sizeLine) (al : AllAlike (gs.map S.eP)) (so : Sortable (gs.map S.eP)) (hp : ys.Perm gs) (hs : ys.Pairwise fun x y => S.le x y = true)
    (k : ∀ (l : Addr) (zs : List V), H l = none → RpL X.K F (ys.map S.eD) zs → Q (.ref l) (upd H l (.lst zs))) : wpAny (model X.prog X.w) X.A (call (.builtin "sorted") [.ref a]) (EP X pins σ Q) X.xe s1 := by
  obtain ⟨bs, e1, e2, ev⟩ := vals_each S sf rp hv
  have em : bs.map (fun b => S.eP b.2) = gs.map S.eP := by rw [← e1, List.map_map]; rfl
  have hlen : bs.length = xs.length := by rw [← e2, List.length_map]
  refine sorted_seqD (enc := fun b => S.eP b.2) (R := fun u b => RelV b.1 u ∧ Rp X.K F (S.eD b.2) b.1) hT ho hc hd ev (ev.mono fun u b r => ?one) (by rw [em]; exact al) (by rw [em]; exact so) (by omega) (fun b _ => by have := S.dep b.2; omega)
    fun h' g l out e hk1 hk2 hz hget hol hout => ?two
  case one =>
    obtain ⟨r1, r2⟩ := r
    have dp := dp_of sf r2
    rw [S.py] at dp
    obtain ⟨as, hr⟩ := Dp.reads I _ _ _ dp r1
    have : as = [] := S.rd _ _ _ _ hr
    subst this
    exact hr
  case two =>
    rw [S.dl] at hout
    obtain ⟨hv2, hr2⟩ := each_back S hout
    have pw := List.pairwise_mergeSort (le := fun p q : V × γ => S.le p.2 q.2) (fun a b c => S.trans _ _ _) (fun a b => S.total _ _) bs
    have pm := List.mergeSort_perm bs (fun p q : V × γ => S.le p.2 q.2)
    have ey : (bs.mergeSort fun p q : V × γ => S.le p.2 q.2).map (·.2) = ys := by
      refine perm_uniq (le := fun x y => S.le x y = true) S.anti (List.pairwise_map.mpr pw) hs ?_
      exact (pm.map _).trans (by rw [e1]; exact hp.symm)
    rw [ey] at hr2
    generalize (bs.mergeSort fun p q : V × γ => S.le p.2 q.2).map (·.1) = zs at hv2 hr2
    have I2 : Inv X pins σ H { s1 with heap := h' } := I.kept (t' := s1.toks) hk1
    have hn : H l = none := I2.hok.fresh hz
    have hzl : zs.length ≤ sizeLine := by
      have h1 := hr2.len
      have h2 := hp.length_eq
      have h3 : gs.length = bs.length := by rw [← e1, List.length_map]
      rw [List.length_map] at h1
      omega
    exact ⟨.ref l, _, I2.laid (t' := s1.toks) (o := .lst zs) hk2 hz ⟨hzl, out, e, hv2, hget⟩, rfl, k l zs hn hr2⟩
/-- sorted(x) -/
theorem qf_sortX {e : Expr} {te : Ex} {p pos : Pos} (hu : X.A.units + 65 < cLine) (hm : X.mg "sorted" = none) (ha : QE X e te) (hg : Gl X "sorted" := by rfl) (na : starEach [e] X.env = (false, eval e X.env) :: starEach [] X.env := by rfl) :
    QF X (.Call (.Name "sorted" p) [e] [] pos) (eCall pSortX (aCons te aNil)) := by
  refine ⟨fun pins s σ H Q I h => ?_⟩
  obtain ⟨F0, B, F, δ, Qd, S, h, k⟩ := h
  refine Call_ (ld_blt I hg hm (by decide +kernel : bootBuiltins "sorted" = some (.builtin "sorted")) ?_)
  refine callWith_builtin1 (args_cons (thn (ha.run pins s σ H (fun v H1 => ∃ F1 d, Ext F H F1 H1 ∧ Rp X.K F1 d v ∧ pSortX [d] Qd) I ⟨F0, B, F, δ, _, S, h, fun v F1 H1 d x1 r1 q1 => ⟨F1, d, x1, r1, q1⟩⟩) fun v s1 ⟨x, H1, I1, r1, q1⟩ => args_nil ?_) na) na rfl
  obtain ⟨F1, d, x1, rd, q1⟩ := q1
  have body : ∀ (a : Addr) (xs : List D) (vs : List V) (T : String) (o : Obj) (n : Nat) (us : List Value), (T = "list" ∨ T = "tuple") → s1.heap.get? a = some o → o.cls = .type T → o.data = .seq us.toArray n → Vals vs us → RpL X.K F1 xs vs → vs.length ≤ sizeLine →
      ((∃ ns ms : List Int, xs = ns.map D.int ∧ ms.Perm ns ∧ ms.Pairwise (· ≤ ·) ∧ Qd (.lst (ms.map D.int))) ∨ (∃ (ns ms : List (List Int)) (k : Nat), xs = ns.map encR ∧ (∀ r ∈ ns, r.length = k + 1) ∧ ms.Perm ns ∧ ms.Pairwise (· ≤ ·) ∧ Qd (.lst (ms.map encR)))) →
      wpAny (model X.prog X.w) X.A (call (.builtin "sorted") [.ref a]) (EP X pins σ Q) X.xe s1 := by
    intro a xs vs T o n us hT ho hc hd hv hr hl q
    rcases q with ⟨ns, ms, rfl, hp, hs, q2⟩ | ⟨ns, ms, kk, rfl, hk, hp, hs, q2⟩
    · refine sorted_of kInt hu I1 x1.s hT ho hc hd hv hr hl ?_ (.inr ?_) hp (hs.imp fun h => decide_eq_true h) fun l zs hn hr2 => ?_
      · intro d hd d' hd'
        obtain ⟨i, _, rfl⟩ := List.mem_map.mp hd
        obtain ⟨j, _, rfl⟩ := List.mem_map.mp hd'
        simp [kInt, alike]
      · intro d hd
        obtain ⟨i, _, rfl⟩ := List.mem_map.mp hd
        exact ⟨fun z => (nomatch z), fun xs z => (nomatch z)⟩
      · have sH : Same H1 (upd H1 l (.lst zs)) := upd_same_of hn
        exact k l zs (ms.map D.int) F1 _ ⟨x1.f, x1.h.thenS sH, x1.s.trans sH, x1.n⟩ (x1.h.free hn) (x1.s.free hn) upd_same hr2 q2
    · refine sorted_of kRow hu I1 x1.s hT ho hc hd hv hr hl ?_ (.inl ?_) hp (hs.imp fun h => decide_eq_true h) fun l zs hn hr2 => ?_
      · intro d hd d' hd'
        obtain ⟨i, hi, rfl⟩ := List.mem_map.mp hd
        obtain ⟨j, hj, rfl⟩ := List.mem_map.mp hd'
        simp only [kRow, alike]
        exact alikeInts (by rw [hk i hi, hk j hj])
      · intro d hd
        obtain ⟨i, hi, rfl⟩ := List.mem_map.mp hd
        have := hk i hi
        cases i with
        | nil => simp at this
        | cons x i => exact ⟨_, _, rfl⟩
      · have sH : Same H1 (upd H1 l (.lst zs)) := upd_same_of hn
        exact k l zs (ms.map encR) F1 _ ⟨x1.f, x1.h.thenS sH, x1.s.trans sH, x1.n⟩ (x1.h.free hn) (x1.s.free hn) upd_same hr2 q2
  cases d with
  | lst xs =>
    obtain ⟨a, vs, rfl, g1, g2⟩ := rd.lstI
    cases r1
    obtain ⟨us, hv, pl, hz⟩ := I1.list (x1.s.seq g1)
    obtain ⟨o, ho, hc, n, hd⟩ := pl.isList
    exact body a xs vs "list" o n us (.inl rfl) ho hc hd hv g2 hz q1
  | tup xs =>
    obtain ⟨a, vs, rfl, g1, g2⟩ := rd.tupI
    cases r1
    obtain ⟨us, hv, pl, hz⟩ := I1.tuple (sameT x1.s g1)
    obtain ⟨o, ho, hc, n, hd⟩ := pl
    exact body a xs vs "tuple" o n us (.inr rfl) ho hc hd hv g2 hz q1
  | _ => exact q1.elim
/-! ### is, is not -/
theorem k_isB : OpR X (compareOp .Is) rIsB ∧ V2 X.K rIsB oIsB := ⟨op_isBl, fun F H x y v u Qd Q s rx ry h k => by
  cases x <;> cases y <;> first | exact h.elim | skip
  exact ⟨_, _, rx.blI, ry.blI, k _ F H _ (.refl s) (.bl _) h⟩⟩
theorem k_notB : OpR X (compareOp .IsNot) rNotB ∧ V2 X.K rNotB oNotB := ⟨op_notBl, fun F H x y v u Qd Q s rx ry h k => by
  cases x <;> cases y <;> first | exact h.elim | skip
  exact ⟨_, _, rx.blI, ry.blI, k _ F H _ (.refl s) (.bl _) h⟩⟩
end
section
variable {X : Cx}
theorem toPyL_map : ∀ xs : List D, toPyL xs = xs.map toPy
  | [] => rfl
  | x :: xs => by
    show toPy x :: toPyL xs = _
    rw [toPyL_map xs]; rfl
/-- l.index(x), x is in l -/
theorem q_index {o e : Expr} {to te : Ex} {apos pos : Pos} (hu : X.A.units + 65 < cLine) (ho : QE X o to) (he : QE X e te) (na : starEach [e] X.env = (false, eval e X.env) :: starEach [] X.env := by rfl)
    (h1 : attributeBase o (Str.ofString "index") X.env (eval o X.env) = eval o X.env := by rfl)
    (h2 : ((((backTo pos (starEach [e] X.env)).all fun x => !x.1) && (backToKw pos (keywordEach [] X.env)).all fun x => x.1.isSome) && decide (([e].length + ([] : List Keyword).length + if ([] : List Keyword).isEmpty = true then 0 else 1) < 30)) = true := by rfl)
    (h3 : (apos.endLine == pos.line) = true := by rfl) (h4 : ((backTo pos (starEach [] X.env)).any fun x => x.1) = false := by rfl) : QE X (.Call (.Attribute o (Str.ofString "index") apos) [e] [] pos) (eIdx to te) :=
  imp_PE (pe_bm PySem.F.plainAttrs_list PySem.F.slot_list_index PySem.F.type_list_index (mt_indexD hu) ho (pa_cons he pa_nil na) h1 h2 h3 na h4) fun σ H Q h => by
    obtain ⟨F0, B, F, δ, Qd, S, h, k⟩ := h
    refine ⟨F0, B, F, δ, _, S, h, fun v F1 H1 x x1 r1 q1 => ?_⟩
    cases x with
    | lst xs =>
      obtain ⟨a, vs, rfl, g1, g2⟩ := r1.lstI
      refine ⟨.inl ⟨rfl, _, x1.s.seq g1⟩, ?_⟩
      refine ⟨F0, B, F1, δ, _, S.mono x1, q1, fun u F2 H2 y x2 r2 q2 => ?_⟩
      obtain ⟨⟨s1, s2⟩, j, ⟨z, hz, he⟩, hn, q⟩ := q2
      have dl := dp_of x2.s (r1.mono x2.f)
      have sl := shp_shaped s2
      simp only [toPy] at dl sl
      refine ⟨a, u, toPy y, toPyL xs, j, toPy z, rfl, rfl, dl, dp_of x2.s r2, sl, shp_shaped s1, by rw [toPyL_map, List.getElem?_map, hz]; rfl, by rw [eqv_py]; exact he, fun m z' hm hz' => ?_, k _ F2 H2 _ (x1.trans x2) (.int _) q⟩
      rw [toPyL_map, List.getElem?_map] at hz'
      obtain ⟨y', e1, rfl⟩ := Option.map_eq_some_iff.mp hz'
      rw [eqv_py]
      exact hn m y' hm e1
    | _ => exact q1.elim
end
section
variable {X : Cx}
theorem lft_in {K : PySem.W.Frag} {s : Nat} {ta : Ex} {σ : L2.St} {H : Hp} {Q : V → Hp → Prop} (h : lft K (eInS false s ta) σ H Q) : (lft K ta) σ H fun x H1 => tVar s σ H1 fun y H2 => rInD K x y H2 Q := by
  obtain ⟨F0, B, F, δ, Qd, S, h, k⟩ := h
  refine ⟨F0, B, F, δ, _, S, h, fun v F1 H1 x x1 r1 q1 => ?_⟩
  unfold asOwn at q1
  split at q1
  · rename_i p xs e
    have S1 := S.mono x1
    obtain ⟨h1, _, _, vs, h4, h5⟩ := S1.own s p xs e
    refine ⟨.ref p, h1, ?_⟩
    obtain ⟨⟨s1, s2⟩, q⟩ := q1
    rw [Bool.false_xor] at q
    have dl := dp_of (Same.refl H1) (d := .lst xs) (Rp.lst (SqL.of h4) (h5.mono x1.s))
    have sl := shp_shaped s2
    simp only [toPy] at dl sl
    exact ⟨toPy x, toPyL xs, dp_of x1.s r1, dl, shp_shaped s1, sl, by rw [py_any]; exact k _ F1 H1 _ x1 (.bl _) q⟩
  · exact q1.elim
theorem q_inS (s : Nat) {a : Expr} {ta : Ex} {x : Str} {px pos : Pos} (hu : X.A.units + 65 < cLine) (ha : QE X a ta) (hN : X.N[s]? = some x := by rfl) (hv : Vis X.env.scope x := by first | exact Or.inl rfl | exact Or.inr (Or.inl rfl) | exact Or.inr (Or.inr rfl)) (hd : (x == ("__debug__" : Str)) = false := by decide)
    (hcd : (x == ("__classdict__" : Str)) = false := by decide) (hm : behindInMarks .In (.Name x px) = false := by with_unfolding_all rfl) : QE X (.Compare a [.In] [.Name x px] pos) (eInS false s ta) :=
  imp_PE (pe_cmpR (op_inD hu) ha (pv s hN hv hd hcd) hm) fun σ H Q h => lft_in h
theorem q_inST (s : Nat) {a : Expr} {ta : Ex} {x : Str} {px pos : Pos} (hu : X.A.units + 65 < cLine) (ha : QE X a ta) (hN : X.N[s]? = some x := by rfl) (hv : Vis X.env.scope x := by first | exact Or.inl rfl | exact Or.inr (Or.inl rfl) | exact Or.inr (Or.inr rfl)) (hd : (x == ("__debug__" : Str)) = false := by decide)
    (hcd : (x == ("__classdict__" : Str)) = false := by decide) (hm : behindInMarks .In (.Name x px) = false := by with_unfolding_all rfl) : QT X (.Compare a [.In] [.Name x px] pos) (tB (eInS false s ta)) :=
  imp_PT (pt_cmpR (op_inD hu) ha (pv s hN hv hd hcd) hm) fun _ _ _ h => tTest_imp (fun _ _ _ => lft_in) (lftB h)
theorem lft_nin {K : PySem.W.Frag} {s : Nat} {ta : Ex} {σ : L2.St} {H : Hp} {Q : V → Hp → Prop} (h : lft K (eInS true s ta) σ H Q) : (lft K ta) σ H fun x H1 => tVar s σ H1 fun y H2 => rNotInD K x y H2 Q := by
  obtain ⟨F0, B, F, δ, Qd, S, h, k⟩ := h
  refine ⟨F0, B, F, δ, _, S, h, fun v F1 H1 x x1 r1 q1 => ?_⟩
  unfold asOwn at q1
  split at q1
  · rename_i p xs e
    have S1 := S.mono x1
    obtain ⟨h1, _, _, vs, h4, h5⟩ := S1.own s p xs e
    refine ⟨.ref p, h1, ?_⟩
    obtain ⟨⟨s1, s2⟩, q⟩ := q1
    rw [Bool.true_xor] at q
    have dl := dp_of (Same.refl H1) (d := .lst xs) (Rp.lst (SqL.of h4) (h5.mono x1.s))
    have sl := shp_shaped s2
    simp only [toPy] at dl sl
    exact ⟨toPy x, toPyL xs, dp_of x1.s r1, dl, shp_shaped s1, sl, by rw [py_any]; exact k _ F1 H1 _ x1 (.bl _) q⟩
  · exact q1.elim
theorem q_ninS (s : Nat) {a : Expr} {ta : Ex} {x : Str} {px pos : Pos} (hu : X.A.units + 65 < cLine) (ha : QE X a ta) (hN : X.N[s]? = some x := by rfl) (hv : Vis X.env.scope x := by first | exact Or.inl rfl | exact Or.inr (Or.inl rfl) | exact Or.inr (Or.inr rfl)) (hd : (x == ("__debug__" : Str)) = false := by decide)
    (hcd : (x == ("__classdict__" : Str)) = false := by decide) (hm : behindInMarks .NotIn (.Name x px) = false := by with_unfolding_all rfl) : QE X (.Compare a [.NotIn] [.Name x px] pos) (eInS true s ta) :=
  imp_PE (pe_cmpR (op_notInD hu) ha (pv s hN hv hd hcd) hm) fun σ H Q h => lft_nin h
theorem q_ninST (s : Nat) {a : Expr} {ta : Ex} {x : Str} {px pos : Pos} (hu : X.A.units + 65 < cLine) (ha : QE X a ta) (hN : X.N[s]? = some x := by rfl) (hv : Vis X.env.scope x := by first | exact Or.inl rfl | exact Or.inr (Or.inl rfl) | exact Or.inr (Or.inr rfl)) (hd : (x == ("__debug__" : Str)) = false := by decide)
    (hcd : (x == ("__classdict__" : Str)) = false := by decide) (hm : behindInMarks .NotIn (.Name x px) = false := by with_unfolding_all rfl) : QT X (.Compare a [.NotIn] [.Name x px] pos) (tB (eInS true s ta)) :=
  imp_PT (pt_cmpR (op_notInD hu) ha (pv s hN hv hd hcd) hm) fun _ _ _ h => tTest_imp (fun _ _ _ => lft_nin) (lftB h)
end
end PL

set_option Elab.async false
set_option linter.all false
set_option maxRecDepth 100000
/-! PLS12: enumerate over lists and tuples. -/
namespace PL
variable [Tabs]
open PySem PySem.Spec PySem.W PyProof.Rows L2
section
variable {P : Program} {w : World} {A : Around} {E : Value → Shared → Prop} {s : Shared}
abbrev tIt (t : Addr) : Obj := { cls := .type "tuple_iterator", data := .fields #[.ref t, .int 0 0] }
abbrev eObj (it : Addr) : Obj := { cls := .type "enumerate", data := .fields #[.none, .bool false, .ref it, rawInt 0, .none, .none] }
theorem pure_all {M : Model} {b : Bool} {Q : Bool → Shared → Prop} (h : ∀ b, Q b s) : wpAny M A (pure b) Q E s := wpAny_pure (h b)
set_option maxHeartbeats 4000000 in
theorem meets_enum_newT (t : Addr) (its : Array Value) : Meets (Builtin.«enumerate.__new__» { pos := [.type "enumerate", .ref t] }) fun A R s =>
    s.heap.IsTuple t its ∧ R (.ok (.ret (.ref (s.heap.push (tIt t)).objs.size))) { s with heap := (s.heap.push (tIt t)).push (eObj s.heap.objs.size) } := by
  intro prog w A R s ⟨ht, hR⟩
  have m2 := F.called_enumerate.sub
  unfold Builtin.«enumerate.__new__»
  wp_walk
  refine wpAny_stack_any fun st => ?_
  refine pure_all fun b => ?_
  cases b with
  | true =>
    show wpAny _ _ (pure ((Value.ref t : Value), (Option.none : Option Value)) >>= _) _ _ _
    refine wpAny_bind (wpAny_pure ?_)
    refine wpAny_bind (wpAny_pyIter_tuple ht ?_)
    exact wpAny_bind (m := Builtin.SmallTypes.newRecord _ _) (wpAny_newObj_type (data := .fields #[.none, .bool false, .ref s.heap.objs.size, rawInt 0, .none, .none]) (wpAny_pure hR))
  | false =>
    show wpAny _ _ (pure ((Value.ref t : Value), (Option.none : Option Value)) >>= _) _ _ _
    refine wpAny_bind (wpAny_pure ?_)
    refine wpAny_bind (wpAny_pyIter_tuple ht ?_)
    exact wpAny_bind (m := Builtin.SmallTypes.newRecord _ _) (wpAny_newObj_type (data := .fields #[.none, .bool false, .ref s.heap.objs.size, rawInt 0, .none, .none]) (wpAny_pure hR))
theorem call_enum_tup {t : Addr} {its : Array Value} {Q : Value → Shared → Prop} (hl : s.heap.IsTuple t its)
    (h : Q (.ref (s.heap.push (tIt t)).objs.size) { s with heap := (s.heap.push (tIt t)).push (eObj s.heap.objs.size) }) :
    wpAny (model P w) A (call (.type "enumerate") [.ref t]) Q E s := by
  refine callType_meets (Q₁ := fun v u => v = .ref (s.heap.push (tIt t)).objs.size ∧ u = { s with heap := (s.heap.push (tIt t)).push (eObj s.heap.objs.size) }) F.called_enumerate (F.typeCall_enumerate_1 _) (F.newCall_enumerate_1 _) F.entry_enumerate_new F.entry_object_init (meets_enum_newT t its) ⟨hl, rfl, rfl⟩ ?_
  rintro obj s1 ⟨rfl, rfl⟩
  have eT : Shared.TypeIs { s with heap := (s.heap.push (tIt t)).push (eObj s.heap.objs.size) } (.ref (s.heap.push (tIt t)).objs.size) "enumerate" := ⟨_, Heap.get?_push_size _ rfl, rfl⟩
  exact ⟨eT, F.args_object_init_2 _ _, _, object_init_meets F.called_enumerate.init.lookup F.called_enumerate.made (by decide), eT, rfl, h⟩
end
def IteT (K : PySem.W.Frag) (a : Addr) : It :=
  { go := fun i H => ∃ xs x, SqT K H a xs ∧ xs[i]? = some x,
    yld := fun i H v H' => ∃ T x, v = .ref T ∧ H T = none ∧ H' = upd H T (.tup [.int (i : Nat), x]) ∧ ∀ xs, SqT K H a xs → xs[i]? = some x,
    stop := fun i H => ∃ xs, SqT K H a xs ∧ xs.length = i }
theorem vals_get : ∀ {xs : List V} {us : List Value} {i : Nat} {x : V}, Vals xs us → xs[i]? = some x → ∃ u, us[i]? = some u ∧ RelV x u
  | [], _, _, _, _, e => by simp at e
  | x :: xs, _, 0, _, .cons a b, e => by
    simp at e; subst e
    exact ⟨_, rfl, a⟩
  | x :: xs, _, i + 1, _, .cons a b, e => by
    obtain ⟨u, h1, h2⟩ := vals_get (i := i) b (by simpa using e)
    exact ⟨u, by simpa using h1, h2⟩
theorem vals_len : ∀ {xs : List V} {us : List Value}, Vals xs us → us.length = xs.length
  | [], _, .nil => rfl
  | _ :: _, _, .cons a b => by simp [vals_len b]
theorem turn_enumT {P : Program} {w : World} {K : PySem.W.Frag} {elts : List PySem.Expr} {kk : Nat} {tpos : Pos} (a e it : Addr) :
    Turn P w K (.Tuple elts kk tpos) (IteT K a) [e, it] e fun i h => (∃ old, IsEnum h e it (i : Nat) old) ∧ h.IsTupleIter it a i ∧ e ≠ it := by
  refine ⟨List.mem_cons_self, ?_, ?_, ?_, ?_, ?_⟩
  · rintro i h ⟨⟨old, he⟩, ⟨o, ho, hc, hd⟩, ne⟩ b hb
    rcases List.mem_cons.mp hb with rfl | hb
    · exact ⟨_, he, fun v z => by simp at z⟩
    · have := List.mem_singleton.mp hb
      subst this
      exact ⟨o, ho, fun v z => by rw [hd] at z; simp at z⟩
  · rintro i h h' ⟨⟨old, he⟩, ⟨o, ho, hc, hd⟩, ne⟩ hk
    exact ⟨⟨old, hk e List.mem_cons_self _ he⟩, ⟨o, hk it (by simp) _ ho, hc, hd⟩, ne⟩
  · intro X hP hw hK hcalm i pins s σ H E I hfp ⟨⟨old, he⟩, hi, ne⟩ ⟨xs, x, hx, hxi⟩
    subst hP hw hK
    obtain ⟨its, hv, ht, hz⟩ := I.tuple hx
    obtain ⟨u, hu, hru⟩ := vals_get hv hxi
    have hane : a ≠ it := by
      rintro rfl
      obtain ⟨o, ho, hc, _⟩ := ht
      obtain ⟨o', ho', hc', _⟩ := hi
      rw [ho] at ho'; cases ho'
      rw [hc] at hc'
      exact absurd hc' (by decide)
    have hane2 : e ≠ a := by
      rintro rfl
      obtain ⟨o, ho, hc, _⟩ := ht
      unfold IsEnum at he
      rw [ho] at he; cases he
      exact absurd (show Value.type "enumerate" = Value.type "tuple" from hc) (by decide)
    have hlt : i < its.toArray.size := by
      have := (List.getElem?_eq_some_iff.mp hu).1
      simpa using this
    refine wpAny_pyNext_enum_itemD (Draws.tuple (A := X.A.in1) (I.ok.hd hcalm) it a hane its.toArray) he ⟨hi, ht⟩ hlt ne (by simp [ne, hane2]) fun y h' tk hy hEO hSt hget hsize hkeep => ⟨_, rfl, ?_⟩
    have ey : y = u := by
      have : its.toArray[i]? = some u := by simpa using hu
      rw [this] at hy; exact (Option.some.inj hy).symm
    subst ey
    refine wpAny_letOwnedTupleGo_enum hEO fun h'' hE'' hsame => ?_
    have hT : s.heap.objs.size ≠ e := by
      intro z
      have := Heap.lt_size he
      rw [z] at this
      exact Nat.lt_irrefl _ this
    have hT2 : h''.get? s.heap.objs.size = some { cls := .type "tuple", data := .seq #[.int (i : Nat) tk, y] } := by
      rw [hsame.2 _ hT]; exact hget
    have hn : H s.heap.objs.size = none := I.fresh
    refine ⟨.ref s.heap.objs.size, upd H s.heap.objs.size (.tup [.int (i : Nat), x]), I.turnedNew (ch := [e, it]) (fun b o nb hb => ?_) hfp (Nat.le_refl _) ⟨?_, [.int (i : Nat) tk, y], ?_, ⟨_, hT2, rfl, _, rfl⟩⟩, rfl, ⟨_, x, rfl, hn, rfl, fun ys hys => ?_⟩, ⟨⟨_, hE''⟩, ?_, ne⟩, fun b hb => ?_⟩
    · have b1 : b ≠ e := fun z => nb (by simp [z])
      have b2 : b ≠ it := fun z => nb (by simp [z])
      rw [hsame.2 b b1]
      exact hkeep b o b1 b2 hb
    · rw [sizeLine_eq]; show 2 ≤ 16777216; omega
    · exact .cons ⟨tk, rfl⟩ (.cons hru .nil)
    · rw [I.tuple_inj hys hx]; exact hxi
    · obtain ⟨o, ho, hc, hd⟩ := hSt.1
      exact ⟨o, by rw [hsame.2 it (fun z => ne z.symm)]; exact ho, hc, hd⟩
    · have h1 := (hfp b hb).1
      rw [upd_ne]
      · exact h1
      · rintro rfl
        have hb' : ∃ o, s.heap.get? s.heap.objs.size = some o := by
          rcases List.mem_cons.mp hb with z | z
          · rw [z]; exact ⟨_, he⟩
          · obtain ⟨o, ho, _⟩ := hi
            exact ⟨o, by rw [List.mem_singleton.mp z]; exact ho⟩
        obtain ⟨o, ho⟩ := hb'
        exact Nat.lt_irrefl _ (Heap.lt_size ho)
  · intro X hP hw hK hcalm i pins s σ H E I hfp ⟨⟨old, he⟩, hi, ne⟩ ⟨xs, hx, hxi⟩
    subst hP hw hK
    obtain ⟨its, hv, ht, hz⟩ := I.tuple hx
    have hane : a ≠ it := by
      rintro rfl
      obtain ⟨o, ho, hc, _⟩ := ht
      obtain ⟨o', ho', hc', _⟩ := hi
      rw [ho] at ho'; cases ho'
      rw [hc] at hc'
      exact absurd hc' (by decide)
    have hane2 : e ≠ a := by
      rintro rfl
      obtain ⟨o, ho, hc, _⟩ := ht
      unfold IsEnum at he
      rw [ho] at he; cases he
      exact absurd (show Value.type "enumerate" = Value.type "tuple" from hc) (by decide)
    have hn : its.toArray.size = i := by rw [← hxi]; simpa using vals_len hv
    have W := WalksT.enumFrom (A := X.A) (prog := X.prog) (w := X.w) 0 (Draws.tuple (A := X.A.in1) (I.ok.hd hcalm) it a hane its.toArray) e ne (by simp [ne, hane2]) (by simp)
    refine W.done s _ E ⟨⟨old, by rw [Int.zero_add, hn]; exact he⟩, by rw [hn]; exact hi, ht⟩ fun h' tk hk => ⟨rfl, I.turnedL (ch := [e, it]) (fun b o nb hb => hk b o nb hb) hfp⟩
  · intro A i s Q E ⟨⟨old, he⟩, hi, ne⟩ hq
    exact wpAny_pyIter_enum he hq
section
variable {K : PySem.W.Frag} {F : Hp}
theorem enumD_get {ds : List D} {i : Nat} {d : D} (h : ds[i]? = some d) : (enumD ds)[i]? = some (.tup [.int i, d]) := by
  have hi := (List.getElem?_eq_some_iff.mp h).1
  unfold enumD
  rw [List.getElem?_zipWith, List.getElem?_range hi, h]
theorem enumD_len (ds : List D) : (enumD ds).length = ds.length := by
  unfold enumD; simp
theorem enum_pair {F1 H1 : Hp} {T : Addr} {i : Nat} {x : V} {d : D} (s2 : Same F1 H1) (hT : H1 T = none) (r : Rp K F1 d x) :
    ∃ F2 e, Ext F1 H1 F2 (upd H1 T (.tup [.int (i : Nat), x])) ∧ e = D.tup [.int i, d] ∧ Rp K F2 e (.ref T) := by
  have x1 := Ext.new s2 (o := .tup [.int (i : Nat), x]) hT
  exact ⟨_, _, x1, rfl, .tup upd_same (.cons (.int _) (.cons (r.mono x1.f) .nil))⟩
theorem itd_enumL {a : Addr} {xs : List V} {ds : List D} (h : SqL K F a xs) (r : RpL K F ds xs) : ItD K F (Ite K a) (enumD ds) := by
  refine ⟨fun i F1 H1 s1 s2 hi => ?_, fun i F1 H1 x H2 s1 s2 hi hy => ?_, fun F1 H1 s1 s2 => ⟨xs, s2.seq (s1.seq h), by rw [r.len, enumD_len]; exact Nat.le_refl _⟩⟩
  · rw [enumD_len] at hi
    obtain ⟨v, e, _⟩ := r.get (List.getElem?_eq_getElem hi)
    exact ⟨xs, v, s2.seq (s1.seq h), e⟩
  · rw [enumD_len] at hi
    obtain ⟨v, e, rv⟩ := r.get (List.getElem?_eq_getElem hi)
    obtain ⟨T, y, rfl, hT, rfl, hy⟩ := hy
    have := hy xs (s2.seq (s1.seq h))
    rw [e] at this; cases this
    obtain ⟨F2, d, x2, rfl, rr⟩ := enum_pair (i := i) s2 hT (rv.mono s1)
    exact ⟨F2, _, x2, enumD_get (List.getElem?_eq_getElem hi), rr⟩
theorem itd_enumT {a : Addr} {xs : List V} {ds : List D} (h : SqT K F a xs) (r : RpL K F ds xs) : ItD K F (IteT K a) (enumD ds) := by
  refine ⟨fun i F1 H1 s1 s2 hi => ?_, fun i F1 H1 x H2 s1 s2 hi hy => ?_, fun F1 H1 s1 s2 => ⟨xs, sameT s2 (sameT s1 h), by rw [r.len, enumD_len]⟩⟩
  · rw [enumD_len] at hi
    obtain ⟨v, e, _⟩ := r.get (List.getElem?_eq_getElem hi)
    exact ⟨xs, v, sameT s2 (sameT s1 h), e⟩
  · rw [enumD_len] at hi
    obtain ⟨v, e, rv⟩ := r.get (List.getElem?_eq_getElem hi)
    obtain ⟨T, y, rfl, hT, rfl, hy⟩ := hy
    have := hy xs (sameT s2 (sameT s1 h))
    rw [e] at this; cases this
    obtain ⟨F2, d, x2, rfl, rr⟩ := enum_pair (i := i) s2 hT (rv.mono s1)
    exact ⟨F2, _, x2, enumD_get (List.getElem?_eq_getElem hi), rr⟩
end
section
variable {X : Cx}
/-- enumerate(x), x a list or a tuple; the target is a tuple -/
theorem qi_enum {e : PySem.Expr} {te : Ex} {p pos tpos : Pos} {elts : List PySem.Expr} {kk : Nat} (hm : X.mg "enumerate" = none) (ha : QE X e te) (hg : Gl X "enumerate" := by rfl) (na : starEach [e] X.env = (false, eval e X.env) :: starEach [] X.env := by rfl) :
    QI X (.Tuple elts kk tpos) (.Call (.Name "enumerate" p) [e] [] pos) (iEnum te) := by
  refine ⟨fun pins s σ H R I h => ?_⟩
  obtain ⟨F0, B, F, δ, Qd, S, h, k⟩ := h
  have he' : PE X e (fun σ' H' Q' => σ' = σ ∧ H' = H ∧ ∀ v F1 H1 d, Ext F H F1 H1 → Rp X.K F1 d v → asSeq d (fun xs => Qd (enumD xs)) → Q' v H1) :=
    imp_PE ha fun σ' H' Q' hh => by
      obtain ⟨rfl, rfl, kk⟩ := hh
      exact ⟨F0, B, F, δ, _, S, h, kk⟩
  refine Call_ (ld_blt I hg hm (by decide +kernel : bootBuiltins "enumerate" = some (.type "enumerate")) ?_)
  refine callWith_type1 (args_cons (thn (he'.run pins s σ H _ I ⟨rfl, rfl, fun v F1 H1 d x1 r1 q1 => (show (∃ F1 d, Ext F H F1 H1 ∧ Rp X.K F1 d v ∧ asSeq d (fun xs => Qd (enumD xs))) from ⟨F1, d, x1, r1, q1⟩)⟩) fun u s1 hq => args_nil ?_) na) na rfl
  obtain ⟨v, H1, I1, rv, F1, d, x1, r1, q1⟩ := hq
  cases d with
  | tup xs =>
    obtain ⟨a, us, rfl, h1, h2⟩ := r1.tupI
    cases rv
    obtain ⟨its, rw', p', hz⟩ := I1.tuple (sameT x1.s h1)
    refine call_enum_tup (show s1.heap.IsTuple a its.toArray from p') ?_
    have hk : ∀ b o, s1.heap.get? b = some o → ((s1.heap.push (tIt a)).push (eObj s1.heap.objs.size)).get? b = some o := fun b o e => Heap.get?_push_of_some _ (Heap.get?_push_of_some _ e)
    have hE : IsEnum ((s1.heap.push (tIt a)).push (eObj s1.heap.objs.size)) (s1.heap.push (tIt a)).objs.size s1.heap.objs.size ((0 : Nat) : Int) .none := Heap.get?_push_size _ rfl
    have sz : (s1.heap.push (tIt a)).objs.size = s1.heap.objs.size + 1 := Heap.size_push ..
    have I2 : Inv X pins σ H1 { s1 with heap := (s1.heap.push (tIt a)).push (eObj s1.heap.objs.size) } := I1.kept (t' := s1.toks) hk
    refine wpAny_pyIter_enum hE ?_
    refine ⟨_, [(s1.heap.push (tIt a)).objs.size, s1.heap.objs.size], _, _, H1, rfl, I2, turn_enumT a _ s1.heap.objs.size, ⟨⟨_, hE⟩, ⟨_, Heap.get?_push_of_some _ (Heap.get?_push_size _ rfl), rfl, rfl⟩, by rw [sz]; exact Nat.succ_ne_self _⟩, fun b hb => ?_, k _ _ F1 H1 x1 (itd_enumT h1 h2) q1⟩
    have hb2 : s1.heap.objs.size ≤ b := by
      rcases List.mem_cons.mp hb with z | z
      · rw [z, sz]; exact Nat.le_succ _
      · rw [List.mem_singleton.mp z]; exact Nat.le_refl _
    exact I1.fpOk hb2 (I1.hok.fresh hb2)
  | lst xs =>
    obtain ⟨a, us, rfl, h1, h2⟩ := r1.lstI
    cases rv
    obtain ⟨its, rw', p', hz⟩ := I1.list (x1.s.seq h1)
    refine call_enumerate_list p'.isList fun h' hE hI hsz hk => ?_
    have I2 : Inv X pins σ H1 { s1 with heap := h' } := I1.kept (t' := s1.toks) hk
    refine wpAny_pyIter_enum hE ?_
    refine ⟨_, [s1.heap.objs.size + 1, s1.heap.objs.size], _, _, H1, rfl, I2, turn_enum a _ s1.heap.objs.size, ⟨⟨_, hE⟩, hI, Nat.succ_ne_self _⟩, fun b hb => ?_, k _ _ F1 H1 x1 (itd_enumL h1 h2) q1⟩
    have hb2 : s1.heap.objs.size ≤ b := by
      rcases List.mem_cons.mp hb with z | z
      · rw [z]; exact Nat.le_succ _
      · rw [List.mem_singleton.mp z]; exact Nat.le_refl _
    exact I1.fpOk hb2 (I1.hok.fresh hb2)
  | _ => exact q1.elim
end
end PL

set_option Elab.async false
set_option linter.all false
set_option maxRecDepth 100000
/-! PLS13: a tuple times an int. -/
namespace PL
variable [Tabs]
open PySem PySem.Spec PySem.W PyProof.Rows L2
section
variable {prog : Program} {w : World} {A : Around} {E : Value → Shared → Prop} {s : Shared}
theorem tuple_mul0 {l : Addr} {items : Array Value} {n : Nat} {dd : Option Addr} {sl : Array (Option Value)} {u : Tok} {Q : Value → Shared → Prop} (hne : items.isEmpty = false)
    (ho : s.heap.get? l = some { cls := Value.type "tuple", dict := dd, data := Data.seq items n, slots := sl }) (hQ : Q (.ref s.heap.objs.size) { s with heap := s.heap.push { cls := Value.type "tuple", data := Data.seq #[] } }) :
    wpAny (model prog w) A (Builtin.«tuple.__mul__» { pos := [Value.ref l, Value.int 0 u] }) (fun fin s' => ∃ v, fin = Fin.done (Flow.ret v) ∧ Q v s') E s := by
  have ht : IsTup s.heap l items := ⟨_, ho, rfl, n, rfl⟩
  unfold Builtin.«tuple.__mul__»
  wp_walk
  exact ⟨_, rfl, hQ⟩
theorem tuple_mul1 {l : Addr} {items : Array Value} {n : Nat} {dd : Option Addr} {sl : Array (Option Value)} {u : Tok} {Q : Value → Shared → Prop} (hne : items.isEmpty = false)
    (ho : s.heap.get? l = some { cls := Value.type "tuple", dict := dd, data := Data.seq items n, slots := sl }) (hQ : Q (.ref l) s) :
    wpAny (model prog w) A (Builtin.«tuple.__mul__» { pos := [Value.ref l, Value.int 1 u] }) (fun fin s' => ∃ v, fin = Fin.done (Flow.ret v) ∧ Q v s') E s := by
  have ht : IsTup s.heap l items := ⟨_, ho, rfl, n, rfl⟩
  unfold Builtin.«tuple.__mul__»
  wp_walk
  exact ⟨_, rfl, hQ⟩
theorem rmul_tup {l : Addr} {items : Array Value} {n : Nat} {dd : Option Addr} {sl : Array (Option Value)} {k : Int} {u : Tok} {Q : Value → Shared → Prop}
    (ho : s.heap.get? l = some { cls := Value.type "tuple", dict := dd, data := Data.seq items n, slots := sl }) (hQ : Q .notImplemented s) :
    wpAny (model prog w) A (Builtin.«int.__rmul__» { pos := [Value.int k u, Value.ref l] }) (fun fin s' => ∃ v, fin = Fin.done (Flow.ret v) ∧ Q v s') E s := by
  have ht : s.TypeIs (.ref l) "tuple" := ⟨_, ho, rfl⟩
  unfold Builtin.«int.__rmul__»
  wp_walk
  exact ⟨_, rfl, hQ⟩
end
section
variable {X : Cx}
def rRep01 (K : PySem.W.Frag) : R2 := fun x y H Q => ∃ (l : Addr) (xs : List V) (k : Int), x = .ref l ∧ y = .int k ∧ SqT K H l xs ∧ xs ≠ [] ∧ ((k = 0 ∧ ∀ p, H p = none → Q (.ref p) (upd H p (.tup []))) ∨ (k = 1 ∧ Q (.ref l) H))
theorem op_rep01 : OpR X (binaryOp .Mult) (rRep01 X.K) := by
  intro pins s σ H x y v u Q I rx ry h
  obtain ⟨l, xs, k, rfl, rfl, hx, hne, hk⟩ := h
  cases rx
  obtain ⟨t, rfl⟩ := ry
  obtain ⟨its, hv, ⟨⟨cls, dd, data, sl⟩, ho, hc, n, hd⟩, hz⟩ := I.tuple hx
  simp only at hc hd
  subst hc hd
  have hemp : its.toArray.isEmpty = false := by
    cases hv with
    | nil => exact absurd rfl hne
    | cons a b => rfl
  have tT : s.TypeIs (.ref l) "tuple" := ⟨_, ho, rfl⟩
  refine wpAny_binaryOp_repeat_ref (T := "tuple") (U := "int") (by decide) tT (fun s' => rfl) noFill_tuple_mul PySem.F.fills_int_mul F.slot_int_rmul repeat_tuple F.slot_int_index.lookup ?_
  refine wpAny_call_entry F.slot_int_rmul (show s.TypeIs (.int k t) "int" from rfl) F.entry_int_rmul (rmul_tup ho ⟨rfl, tT, ?_⟩) (F.args_int_rmul_2 _ _)
  rcases hk with ⟨rfl, hq⟩ | ⟨rfl, hq⟩
  · refine wpAny_call_entry F.slot_tuple_mul tT F.entry_tuple_mul (tuple_mul0 hemp ho ?_) (F.args_tuple_mul_2 _ _)
    have hn : H s.heap.objs.size = none := I.fresh
    exact ⟨.ref s.heap.objs.size, _, I.laid (t' := s.toks) (o := .tup []) (fun b ob q => Heap.get?_push_of_some _ q) (Nat.le_refl _) ⟨Nat.zero_le _, [], .nil, IsTup.new _ _⟩, rfl, hq _ hn⟩
  · refine wpAny_call_entry F.slot_tuple_mul tT F.entry_tuple_mul (tuple_mul1 hemp ho ?_) (F.args_tuple_mul_2 _ _)
    exact ⟨.ref l, H, I, rfl, hq⟩
/-- a tuple (not empty) times an int -/
theorem k_rep : OpR X (binaryOp .Mult) (fun x y H Q => rRepT X.K x y H Q ∨ rRep01 X.K x y H Q) ∧ V2 X.K (fun x y H Q => rRepT X.K x y H Q ∨ rRep01 X.K x y H Q) oRepT := ⟨op_repT.or op_rep01, fun F H x y v u Qd Q s rx ry h k => by
  cases x <;> cases y <;> first | exact h.elim | skip
  rename_i xs n
  obtain ⟨⟨h1, h2, h3, h4⟩, q⟩ := h
  obtain ⟨l, vs, rfl, g1, g2⟩ := rx.tupI
  have e := ry.intI
  subst e
  have hl := g2.len
  have hne : vs ≠ [] := by
    rintro rfl
    apply h1
    exact List.length_eq_zero_iff.mp hl.symm
  have hT := sameT s g1
  by_cases c : 2 ≤ n
  · refine .inl ⟨l, n, vs, rfl, rfl, hT, hne, c, h3, by omega, fun p hp => ?_⟩
    exact k _ _ _ _ (Ext.new s hp) (.tup upd_same ((g2.rep n.toNat).mono (upd_same_of (by
      cases eF : F p with
      | none => rfl
      | some o => rw [s p o eF] at hp; cases hp)))) q
  · have hc : n = 0 ∨ n = 1 := by omega
    rcases hc with rfl | rfl
    · refine .inr ⟨l, vs, 0, rfl, rfl, hT, hne, .inl ⟨rfl, fun p hp => ?_⟩⟩
      exact k _ _ _ _ (Ext.new s hp) (.tup upd_same .nil) q
    · refine .inr ⟨l, vs, 1, rfl, rfl, hT, hne, .inr ⟨rfl, ?_⟩⟩
      have e1 : (List.replicate (1 : Int).toNat xs).flatten = xs := by simp
      rw [e1] at q
      exact k _ F H _ (.refl s) rx q⟩
end
end PL

set_option Elab.async false
set_option linter.all false
set_option maxRecDepth 100000
set_option maxHeartbeats 2000000
/-! PLG1: all and any of a generator expression of one clause, over anything that PI serves; the element may call. -/
namespace PLG
open PySem PySem.Spec PyProof.Rows L2 GenW GxR

/-- while the generator sleeps, its consumer changes nothing but the table of generators and the count of tokens -/
def Rsm (s s' : Shared) : Prop := ∃ (g : Array GenState) (t : Nat), AllBare g ∧ s' = { s with gens := g, toks := t }
theorem inv_rsm {X : Cx} {pins : List (Addr × Obj)} {σ : L2.St} {H : Hp} {s s' : Shared} (I : Inv X pins σ H s) (r : Rsm s s') : Inv X pins σ H s' := by
  obtain ⟨g, t, hg, rfl⟩ := r
  exact ⟨I.ok, I.os, hg, I.base, I.loc, I.cell, I.free, I.freeC, I.pin, I.hok, I.len⟩
theorem AllBare.set {a : Array GenState} {i : Nat} {x : GenState} (h : AllBare a) (hx : x.bare = true) : AllBare (a.setIfInBounds i x) := fun y hy => by
  rcases Array.mem_or_eq_of_mem_setIfInBounds hy with h1 | h1
  · exact h y h1
  · rw [h1]; exact hx

/-- what is wanted of an element y: C; Nx: the turns that may follow -/
abbrev Cns := V → Hp → Prop → Prop
def gxY (X : Cx) (σ : L2.St) (a : Addr) (g : Nat) (C : Cns) : Protocol := fun n s₀ v s kap =>
  ∃ (y : V) (H : Hp) (Nx : Prop), RelV y v ∧ Inv X [] σ H s ∧ s.heap.IsGen a g ∧ C y H Nx ∧ (Nx → ∀ s'', Rsm s s'' → kap (.send .none) s'')
def gxP (X : Cx) (σ : L2.St) (Dn : Hp → Prop) : Nat → Shared → Shared → Prop := fun _ _ s => ∃ H, Inv X [] σ H s ∧ Dn H
def gxR (X : Cx) (σ : L2.St) (Dn : Hp → Prop) : GenEnd := fun n s₀ r s => r = .ok .next ∧ gxP X σ Dn n s₀ s
/-- the turns; W by the turn and a measure -/
def GxW (J : It) (g : TG) (tt : TT) (te : TE) (σ : L2.St) (vs : List Nat) (W : Nat → Nat → Hp → Prop) (C : Cns) (Dn : Hp → Prop) : Prop :=
  ∀ i m H, W i m H → (J.stop i H ∧ Dn H) ∨ (J.go i H ∧ ∀ x H', J.yld i H x H' → g x (wipe σ vs) H' fun σ2 H2 => wipe σ2 vs = wipe σ vs ∧ tt σ2 H2 fun b H3 =>
    if b = true then te σ2 H3 fun y H4 => C y H4 (∃ m', m' < m ∧ W (i + 1) m' H4) else ∃ m', m' < m ∧ W (i + 1) m' H3)

section
variable {X : Cx} {A : Around} {elt tg iter : Expr} {ifs : List Expr} {scope : Scope} {pos : Pos} {it a : Addr} {gi : Nat} {fp : List Addr} {tn : Nat → Heap → Prop} {J : It} {g : TG} {tt : TT} {te : TE} {σ : L2.St} {vs : List Nat} {W : Nat → Nat → Hp → Prop} {C : Cns} {Dn : Hp → Prop}

theorem gen_obj {h : Heap} (G : h.IsGen a gi) : ∃ o, h.get? a = some o ∧ ∀ v, o.data ≠ .cell v := by
  obtain ⟨o, nm, qn, ho, _, hd, _⟩ := G
  exact ⟨o, ho, fun v z => by rw [hd] at z; cases z⟩
theorem seg_gx (hc : X.calm = true) (hA : A.over (.compLoop (.GeneratorExp elt [⟨tg, iter, ifs, 0⟩] scope pos) 0 (.ref it) .none X.env) [] = X.A) (hco : X.env.scope.isCoroutine = false)
    (T : Turn X.prog X.w X.K tg J fp it tn) (pg : PG X tg g) (pt : PTs X ifs tt) (pe : PE X elt te) (hx : X.xe = fun _ _ => False)
    (haf : a ∉ fp) (hst : ∀ b ∈ a :: fp, ∀ H, H b = none → FpOk X [] H b) (turn : GxW J g tt te σ vs W C Dn) :
    ∀ (m n i : Nat) (s₀ s : Shared) (H : Hp), m < n → W i m H → Inv X [] (wipe σ vs) H s → tn i s.heap → (∀ b ∈ a :: fp, H b = none) → s.heap.IsGen a gi →
      Seg (model X.prog X.w) A (gxR X (wipe σ vs) Dn) (gxY X (wipe σ vs) a gi C) n s₀
        (.compLoop (.GeneratorExp elt [⟨tg, iter, ifs, 0⟩] scope pos) 0 (.ref it) .none X.env)
        ((model X.prog X.w).den (.compLoop (.GeneratorExp elt [⟨tg, iter, ifs, 0⟩] scope pos) 0 (.ref it) .none X.env)) [] s := by
  intro m
  induction m using Nat.strongRecOn with
  | ind m ih =>
    intro n i s₀ s H hmn w I st nf hG
    have no : ∀ {α : Type} {t : Sem α} {Q : α → Shared → Prop} {E : Value → Shared → Prop} {s : Shared}, wpAny (model X.prog X.w) X.A t Q X.xe s → wpAny (model X.prog X.w) X.A t Q E s := fun h => by
      rw [hx] at h; exact wpAny_mono h (fun _ _ z => z) fun _ _ z => z.elim
    show Seg _ A _ _ _ s₀ _ ((compTurn (.GeneratorExp elt [⟨tg, iter, ifs, 0⟩] scope pos) 0 (.ref it) .none X.env).onRaise (leaving X.env)) [] s
    rw [compTurn_gen, Sem.onRaise_eq_wrap]
    refine seg_bind_wrap (wpAny_standAt ?_)
    have fpo : ∀ {H : Hp}, (∀ b ∈ a :: fp, H b = none) → ∀ b ∈ a :: fp, FpOk X [] H b := fun hn b hb => hst b hb _ (hn b hb)
    rcases turn i m H w with ⟨stop, dn⟩ | ⟨go, step⟩
    · refine seg_bind_wrap ?_
      rw [hA]
      refine thnF (T.done X rfl rfl rfl hc i [] s _ H (fun _ _ => False) I (fun b hb => fpo nf b (List.mem_cons_of_mem _ hb)) st stop) fun r s1 ⟨hr, I1⟩ => ?_
      subst hr
      exact seg_end (.ok .next) ⟨rfl, H, I1, dn⟩
    · -- the generator's own object is pinned through the turn
      have Ia := I.pinned (fp := [a]) (fun b hb => fpo nf b (by rw [List.mem_singleton.mp hb]; exact List.mem_cons_self)) (fun b hb => by rw [List.mem_singleton.mp hb]; exact gen_obj hG)
      obtain ⟨oa, hoa, hca⟩ := gen_obj hG
      have pa : (a, oa) ∈ [] ++ pinsAt [a] s.heap := List.mem_append_right _ (mem_pinsAt (List.mem_singleton.mpr rfl) hoa)
      have fpa : ∀ {H : Hp}, (∀ b ∈ fp, H b = none) → ∀ b ∈ fp, FpOk X ([] ++ pinsAt [a] s.heap) H b := fun {H} hn b hb => by
        obtain ⟨f0, f1, f2, f3, f4, f5⟩ := hst b (List.mem_cons_of_mem _ hb) H (hn b hb)
        refine ⟨f0, f1, f2, f3, f4, fun p hp => ?_⟩
        rcases List.mem_append.mp hp with hp | hp
        · exact f5 p (List.mem_append_left _ hp)
        · have hp' : p ∈ pinsAt [a] s.heap := by simpa using hp
          obtain ⟨h1, _⟩ := of_pinsAt hp'
          rw [List.mem_singleton.mp h1]
          intro z
          exact haf (z ▸ hb)
      refine seg_bind_wrap ?_
      rw [hA]
      refine thnF (T.item X rfl rfl rfl hc i _ s _ H (fun _ _ => False) Ia (fpa fun b hb => nf b (List.mem_cons_of_mem _ hb)) st go) fun r s1 ⟨u, hr, h1⟩ => ?_
      subst hr
      refine seg_bind_wrap ?_
      rw [hA]
      refine thnF h1 fun _ s2 ⟨x, H2, I2, r2, y2, st2, n2⟩ => ?_
      have I2' := I2.pinned (fpa n2) (T.obj _ _ st2)
      refine seg_bind_wrap ?_
      rw [hA]
      refine no (thn (pg.run _ s2 _ H2 x u _ I2' r2 (step x H2 y2)) fun _ s3 ⟨σ3, H3, I3, hw3, q3⟩ => ?_)
      refine seg_bind_wrap ?_
      rw [hA]
      refine no (thn (pt.run _ s3 σ3 H3 _ I3 q3) fun b s4 ⟨H4, I4, q4⟩ => ?_)
      -- the turn's end
      have fin : ∀ {s' : Shared} {H' : Hp}, Inv X (([] ++ pinsAt [a] s.heap) ++ pinsAt fp s2.heap) σ3 H' s' → Inv X [] (wipe σ vs) H' s' ∧ tn (i + 1) s'.heap ∧ (∀ b ∈ a :: fp, H' b = none) ∧ s'.heap.IsGen a gi := fun {s' H'} I' => by
        have pin' : ∀ b ∈ fp, ∀ o, s2.heap.get? b = some o → s'.heap.get? b = some o ∧ H' b = none := fun b hb o e =>
          let z := I'.pin (b, o) (List.mem_append_right _ (List.mem_append_right _ (mem_pinsAt hb e)))
          ⟨z.1, z.2.1⟩
        have za := I'.pin (a, oa) (List.mem_append_right _ (List.mem_append_left _ pa))
        have hl : (wipe σ vs).length = σ3.length := by rw [← hw3, wipe_length]
        refine ⟨(I'.unpinned.unpinned (pins := [])).weak hl (fun j v e => ?_), T.keep _ _ _ st2 fun b hb o e => (pin' b hb o e).1, fun b hb => ?_, ?_⟩
        · rw [← hw3] at e
          exact (wipe_some e).1
        · rcases List.mem_cons.mp hb with hb | hb
          · rw [hb]; exact za.2.1
          · obtain ⟨o, e, _⟩ := T.obj _ _ st2 b hb
            exact (pin' b hb o e).2
        · obtain ⟨o, nm, qn, ho, r⟩ := hG
          rw [hoa] at ho
          cases ho
          exact ⟨oa, nm, qn, za.1, r⟩
      cases b with
      | false =>
        simp only [Bool.false_eq_true, if_false] at q4 ⊢
        obtain ⟨m', hm', w'⟩ := q4
        obtain ⟨J1, J2, J3, J4⟩ := fin I4
        exact seg_again rfl (ih m' hm' n (i + 1) s₀ s4 H4 (by omega) w' J1 J2 J3 J4)
      | true =>
        simp only [if_true] at q4 ⊢
        have hy : ∀ v, yieldOut X.env v = yieldValue v := fun v => by simp only [yieldOut, hco, Bool.false_eq_true, if_false]
        simp only [hy]
        rw [Sem.bind_eq_wrap', Sem.bind_eq_wrap', Sem.wrap_wrap, Sem.wrap_wrap]
        refine seg_wrap ?_
        rw [hA]
        refine no (thn (pe.run _ s4 σ3 H4 _ I4 q4) fun z s5 ⟨yv, H5, I5, r5, q5⟩ => ?_)
        obtain ⟨J1, J2, J3, J4⟩ := fin I5
        obtain ⟨n, rfl⟩ : ∃ k, n = k + 1 := ⟨n - 1, by omega⟩
        refine seg_at (seg_yield rfl rfl rfl ⟨yv, H5, _, r5, J1, J4, q5, fun ⟨m', hm', w'⟩ s'' hal => ?_⟩)
        refine seg_again rfl (ih m' hm' n (i + 1) s'' s'' H5 (by omega) w' (inv_rsm J1 hal) ?_ J3 ?_)
        · obtain ⟨g', t', _, rfl⟩ := hal
          exact J2
        · obtain ⟨g', t', _, rfl⟩ := hal
          exact J4

/-- the generator stands ahead of a turn: at most n more elements -/
def GxAt (X : Cx) (σ : L2.St) (a : Addr) (gi : Nat) (A : Around) (C : Cns) (Dn : Hp → Prop) (n : Nat) (s : Shared) : Prop :=
  s.heap.NoLimit ∧ AllBare s.gens ∧ s.heap.IsGen a gi ∧ ∃ gs, s.gens[gi]? = some gs ∧ gs.Goes (model X.prog X.w) A (gxR X σ Dn) (gxY X σ a gi C) n (.send .none) (s.setGen gi .running)
theorem next_gx {A1 : Around} {n : Nat} {s : Shared} {E : Value → Shared → Prop} (hh : A1.handled = none) (hroom : A1.depth < recursionLimit) (G : GxAt X σ a gi A1.in1 C Dn n s) :
    wpAny (model X.prog X.w) A1 (pyNext (.ref a)) (fun r s' => (r = none ∧ ∃ H, Inv X [] σ H s' ∧ Dn H) ∨
      (∃ v y H Nx, r = some v ∧ RelV y v ∧ Inv X [] σ H s' ∧ C y H Nx ∧ (Nx → ∃ n', n' < n ∧ GxAt X σ a gi A1.in1 C Dn n' s'))) E s := by
  obtain ⟨hl, hb, hg, gs, hgs, hgo⟩ := G
  have hlt : gi < s.gens.size := by
    rcases Nat.lt_or_ge gi s.gens.size with h | h
    · exact h
    · rw [Array.getElem?_eq_none h] at hgs; cases hgs
  refine wpAny_gsz (n := gi + 1) hlt ?_
  refine wpAny_pyNext_genexpQ (P := gxP X σ Dn) hh hl hroom hg hgs hgo (fun v s₁ gs' hbs hv => ?_) fun s₁ hp h' hk => ?_
  · obtain ⟨y, H, Nx, r, I, hG, hC, hk⟩ := hv
    intro hsz
    have hsz : gi < s₁.gens.size := Nat.lt_of_succ_le (by simpa [Shared.setGen] using hsz)
    have I' : Inv X [] σ H (s₁.setGen gi gs') := inv_rsm I ⟨_, s₁.toks, AllBare.set I.bare hbs, rfl⟩
    refine .inr ⟨v, y, H, Nx, rfl, r, I', hC, fun nx => ?_⟩
    cases n with
    | zero => exact (hk nx s₁ ⟨s₁.gens, s₁.toks, I.bare, rfl⟩).elim
    | succ m =>
      refine ⟨m, Nat.lt_succ_self m, I.nolimit, I'.bare, hG, gs', ?_, ?_⟩
      · show (s₁.gens.setIfInBounds gi gs')[gi]? = some gs'
        simp [hsz]
      · exact hk nx _ ⟨_, s₁.toks, AllBare.set (AllBare.set I.bare hbs) rfl, rfl⟩
  · obtain ⟨H, I, dn⟩ := hp
    intro _
    have I' : Inv X [] σ H (s₁.setGen gi .finished) := inv_rsm I ⟨_, s₁.toks, AllBare.set I.bare rfl, rfl⟩
    exact .inl ⟨rfl, H, I'.kept (t' := s₁.toks) hk, dn⟩

/-- the truth of an element -/
def tv : V → Option Bool
  | .bl b => some b
  | .int i => some (i != 0)
  | .non => some false
  | _ => none
theorem truthy_tv {M : Program} {w : World} {A : Around} {y : V} {v : Value} {c : Bool} {Q : Bool → Shared → Prop} {E : Value → Shared → Prop} {s : Shared} (h : tv y = some c) (r : RelV y v) (q : Q c s) : wpAny (model M w) A (truthy v) Q E s := by
  cases y <;> simp only [tv, Option.some.injEq, reduceCtorEq] at h
  · subst h
    obtain rfl : v = Value.none := r
    exact fun _ _ _ => q
  · subst h
    obtain rfl : v = Value.bool _ := r
    exact wpAny_truthy_bool q
  · subst h
    obtain ⟨t, rfl⟩ := r
    exact truthy_int q
def cAll (Qf : Hp → Prop) : Cns := fun y H Nx => ∃ c, tv y = some c ∧ if c = true then Nx else Qf H
def cAny (Qt : Hp → Prop) : Cns := fun y H Nx => ∃ c, tv y = some c ∧ if c = true then Qt H else Nx
theorem all_loop_gx {A1 : Around} {R : Result → Shared → Prop} {Q : Bool → Hp → Prop} (hh : A1.handled = none) (hroom : A1.depth < recursionLimit) (hR : ∀ b H s', Inv X [] σ H s' → Q b H → R (.ok (.ret (.bool b))) s') :
    ∀ (n : Nat) (s : Shared), GxAt X σ a gi A1.in1.in1 (cAll (Q false)) (Q true) n s → codeAny (model X.prog X.w) A1 (.builtin "all.loop" ⟨[.ref a], []⟩) R s := by
  intro n
  induction n using Nat.strongRecOn with
  | ind n ih =>
    intro s G
    refine codeAny_builtin F.entry_all_loop ?_
    rw [Around.under_plainId F.plain_all_loop _]
    show wpAny _ A1.in1 (pyNext (.ref a) >>= _) _ _ s
    refine wpAny_bind (wpAny_mono (next_gx (A1 := A1.in1) (E := fun _ _ => False) hh hroom G) (fun r s' h => ?_) fun _ _ z => z.elim)
    rcases h with ⟨rfl, H, I, q⟩ | ⟨v, y, H, Nx, rfl, rv, I, ⟨c, hc, q⟩, nx⟩
    · exact wpAny_bind (wpAny_rule (wpAny_pure (hR true H s' I q)))
    · refine wpAny_bind (wpAny_holding (truthy_tv hc rv ?_))
      refine wpAny_bind (wpAny_letGo ?_)
      cases c with
      | true =>
        simp only [if_true] at q ⊢
        obtain ⟨n', hn, G'⟩ := nx q
        exact wpAny_pure ⟨plainId_quiet F.plain_all_loop _, ih n' hn s' G'⟩
      | false =>
        simp only [Bool.false_eq_true, if_false] at q ⊢
        exact wpAny_bind (wpAny_rule (wpAny_pure (hR false H s' I q)))
theorem any_loop_gx {A1 : Around} {R : Result → Shared → Prop} {Q : Bool → Hp → Prop} (hh : A1.handled = none) (hroom : A1.depth < recursionLimit) (hR : ∀ b H s', Inv X [] σ H s' → Q b H → R (.ok (.ret (.bool b))) s') :
    ∀ (n : Nat) (s : Shared), GxAt X σ a gi A1.in1.in1 (cAny (Q true)) (Q false) n s → codeAny (model X.prog X.w) A1 (.builtin "any.loop" ⟨[.ref a], []⟩) R s := by
  intro n
  induction n using Nat.strongRecOn with
  | ind n ih =>
    intro s G
    refine codeAny_builtin F.entry_any_loop ?_
    rw [Around.under_plainId F.plain_any_loop _]
    show wpAny _ A1.in1 (pyNext (.ref a) >>= _) _ _ s
    refine wpAny_bind (wpAny_mono (next_gx (A1 := A1.in1) (E := fun _ _ => False) hh hroom G) (fun r s' h => ?_) fun _ _ z => z.elim)
    rcases h with ⟨rfl, H, I, q⟩ | ⟨v, y, H, Nx, rfl, rv, I, ⟨c, hc, q⟩, nx⟩
    · exact wpAny_bind (wpAny_rule (wpAny_pure (hR false H s' I q)))
    · refine wpAny_bind (wpAny_holding (truthy_tv hc rv ?_))
      refine wpAny_bind (wpAny_letGo ?_)
      cases c with
      | false =>
        simp only [Bool.false_eq_true, if_false] at q ⊢
        obtain ⟨n', hn, G'⟩ := nx q
        exact wpAny_pure ⟨plainId_quiet F.plain_any_loop _, ih n' hn s' G'⟩
      | true =>
        simp only [if_true] at q ⊢
        exact wpAny_bind (wpAny_rule (wpAny_pure (hR true H s' I q)))
end

/-! ### the generator is made -/
/-- the scope of a generator expression: its own names (with their places in N), or captured -/
structure GenOk (N : List Str) (sc scope : Scope) (own : List (Str × Nat)) : Prop where
  kind : scope.kind = .function
  co : scope.isCoroutine = false
  cell : ∀ y ∈ scope.names, y.2 ≠ .cell
  dot : scope.names.lookup (".0" : Str) = some NameKind.local
  uniq : ∀ y ∈ scope.names, scope.names.lookup y.1 = some y.2
  ix : ∀ p ∈ own, N[p.2]? = some p.1
  free : ∀ y ∈ scope.names, y.2 = .free → sc.names.lookup y.1 = some .cell ∨ sc.names.lookup y.1 = some .free
  own : ∀ y ∈ scope.names, y.2 = .local → y.1 ∈ own.map (·.1) ∨ y.1 ∉ N
/-- the context of a generator that starts at s, its iterator's objects at fp -/
abbrev gx (X : Cx) (s : Shared) (H : Hp) (cenv : Env) (fp : List Addr) (A : Around) : Cx :=
  { X with A := A, s_0 := s, H_0 := H, env := cenv, outer := X.stack, stack := cenv :: X.stack, ex := fp, fn := fun _ => false, pn := [], xe := fun _ _ => False }
section
variable {X : Cx} {pins : List (Addr × Obj)} {σ : L2.St} {H : Hp} {s : Shared}
theorem gx_start {scope : Scope} {own : List (Str × Nat)} {fp : List Addr} {code : Value} {A' : Around} {h5 : Heap} {g5 : Array GenState} {t5 : Nat} {m5 : Str → Option Value} (I : Inv X pins σ H s) (ok : GenOk X.N X.env.scope scope own) (hN : X.N.Nodup)
    (hfp : ∀ b ∈ fp, FpOk X pins H b ∧ b < s.heap.objs.size) (hd : A'.handled = none) (hfr : A'.frames = some (genEnv scope (cloFrom X.env.cells scope.names []) s.heap.objs.size code builtinsNs X.env :: X.stack))
    (kp : ∀ b o, s.heap.get? b = some o → h5.get? b = some o) (hn5 : h5.Ns s.heap.objs.size m5) (hg5 : AllBare g5) :
    Inv (gx X s H (genEnv scope (cloFrom X.env.cells scope.names []) s.heap.objs.size code builtinsNs X.env) fp A') [] (wipe σ (own.map (·.2))) H { s with gens := g5, toks := t5, heap := h5 } := by
  have hfree : ∀ y ∈ scope.names, y.2 = .free → ∃ c, X.env.cells.lookup y.1 = some c := fun y hy e => by
    rcases ok.free y hy e with k | k
    · exact I.ok.has _ (.inl k)
    · exact I.ok.has _ (.inr k)
  generalize hcenv : genEnv scope (cloFrom X.env.cells scope.names []) s.heap.objs.size code builtinsNs X.env = cenv at hfr ⊢
  have hL : cenv.locals = s.heap.objs.size := by rw [← hcenv]; rfl
  have hcl : cenv.cells = cloFrom X.env.cells scope.names [] := by rw [← hcenv]; rfl
  have hsc : cenv.scope = scope := by rw [← hcenv]; rfl
  have cm : ∀ {y c}, cenv.cells.lookup y = some c → X.env.cells.lookup y = some c ∧ c < s.heap.objs.size := fun {y c} e => by
    rw [hcl] at e
    rcases cloFrom_mem (PySem.mem_of_lookup e) with hm | ⟨h1, rfl⟩
    · cases hm
    · obtain ⟨c, hc⟩ := hfree _ h1 rfl
      rw [hc]
      obtain ⟨w, z⟩ := I.cell _ _ hc
      exact ⟨rfl, z.lt⟩
  have look : ∀ {y}, scope.names.lookup y = some .free → ∃ c, cenv.cells.lookup y = some c ∧ X.env.cells.lookup y = some c := fun {y} hl => by
    have hy : (y, NameKind.free) ∈ scope.names := PySem.mem_of_lookup hl
    obtain ⟨c', e'⟩ := mem_lookup (cloFrom_has (cells := X.env.cells) (acc := []) hy)
    rw [← hcl] at e'
    exact ⟨c', e', (cm e').1⟩
  have nocell : ∀ y, scope.names.lookup y ≠ some .cell := fun y e => ok.cell _ (PySem.mem_of_lookup e) rfl
  have okB : (gx X s H cenv fp A').Ok := by
    refine ⟨I.ok.mod, by show cenv.scope.kind = _; rw [hsc]; exact ok.kind, by show cenv.globals = _; rw [← hcenv]; exact I.ok.glob, by show cenv.builtins = _; rw [← hcenv]; rfl, by show s.heap.objs.size ≤ cenv.locals; rw [hL]; exact Nat.le_refl _,
      fun y z c e1 e2 => I.ok.inj y z c (cm e1).1 (cm e2).1, fun y hy => ?_, fun y c z e => (by cases z), fun _ => hd, hfr, .inr ⟨rfl, ?_⟩, fun b hb => ⟨?_, fun y c e z => ?_⟩, I.bs, Nat.le_trans I.ok.bsz I.sz, fun b o e hb => ?_, fun b hb z => ?_, I.stack, I.stkFree⟩
    · show ∃ c, cenv.cells.lookup y = some c
      rcases hy with hy | hy
      · have hy : cenv.scope.names.lookup y = some .cell := hy
        rw [hsc] at hy
        exact absurd hy (nocell y)
      · have hy : cenv.scope.names.lookup y = some .free := hy
        rw [hsc] at hy
        obtain ⟨c, h1, _⟩ := look hy
        exact ⟨c, h1⟩
    · show cenv.frame = some cenv.locals
      rw [← hcenv]; rfl
    · show b ≠ cenv.locals
      rw [hL]; exact Nat.ne_of_lt (hfp b hb).2
    · exact (hfp b hb).1.2.2.2.2.1 y c (cm e).1 z
    · rcases (hfp b hb).1.2.2.2.1 with z | z
      · exact I.ok.noex b o e z
      · exact absurd (Nat.lt_of_lt_of_le (Heap.lt_size e) (Nat.le_trans I.ok.bsz z)) (Nat.lt_irrefl _)
    · rcases List.mem_cons.mp (I.stkSub b z) with z | z
      · exact (hfp b hb).1.2.1 z
      · exact (hfp b hb).1.2.2.1 z
  refine ⟨okB, rfl, hg5, Un.kept kp, ⟨m5, ?_, fun i y av e1 e2 e3 => ?_⟩, fun y c e => ?_, ?_, fun y c e => ?_, fun p hp => ?_, I.hok.kept kp, by rw [wipe_length]; exact I.len⟩
  · show Heap.Ns _ cenv.locals _
    rw [hL]
    exact hn5
  · obtain ⟨e2, hne⟩ := wipe_some e2
    have hfr : scope.names.lookup y = some .free := by
      have e3 : Vis cenv.scope y := e3
      rcases e3 with e3 | e3 | e3
      · rw [hsc] at e3
        rcases ok.own _ (PySem.mem_of_lookup e3) rfl with e' | e'
        · obtain ⟨p, hp, hpy⟩ := List.mem_map.mp e'
          have e3 := ok.ix p hp
          have : p.1 = y := hpy
          rw [this] at e3
          exact absurd (List.mem_map.mpr ⟨p, hp, nodup_ix hN e3 e1⟩) hne
        · exact absurd (List.mem_of_getElem? e1) e'
      · rw [hsc] at e3
        exact absurd e3 (nocell y)
      · rw [hsc] at e3
        exact e3
    obtain ⟨m, hn, hl⟩ := I.loc
    have hvis : Vis X.env.scope y := (ok.free _ (PySem.mem_of_lookup hfr) rfl).elim (fun k => .inr (.inl k)) (fun k => .inr (.inr k))
    obtain ⟨w, r, q⟩ := hl i y av e1 e2 hvis
    refine ⟨w, r, .inr ⟨.inr (by show cenv.scope.names.lookup y = _; rw [hsc]; exact hfr), ?_⟩⟩
    obtain ⟨c, h1, h2⟩ := look hfr
    rcases q with ⟨k, _⟩ | ⟨_, c', e', z⟩
    · have k : X.env.scope.names.lookup y = some .local := k
      rcases ok.free _ (PySem.mem_of_lookup hfr) rfl with k' | k' <;> rw [show X.env.scope.names.lookup y = _ from k'] at k <;> cases k
    · rw [h2] at e'; cases e'
      exact ⟨c, h1, z.keeps kp⟩
  · obtain ⟨w, z⟩ := I.cell y c (cm e).1
    exact ⟨w, z.keeps kp⟩
  · show H cenv.locals = none
    rw [hL]; exact I.hok.fresh (Nat.le_refl _)
  · exact I.freeC y c (cm e).1
  · exact absurd (show p ∈ ([] : List (Addr × Obj)) ++ [] from hp) (by simp)
end

/-- around the generator's code: one frame more, some units more -/
structure InGen (A A' : Around) : Prop where
  hd : A'.handled = none
  dp : A'.depth = A.depth + 1
  un : A'.units ≤ A.units + 12
theorem InGen.room {k : Nat} {A A' : Around} (h : InGen A A') (r : Room (k + 1) A) : Room k A' :=
  ⟨h.hd, by have := r.dp; rw [h.dp]; omega, by have := r.un; have := h.un; omega⟩
section
variable {X : Cx} {pins : List (Addr × Obj)} {σ : L2.St} {H : Hp} {s : Shared}
theorem gx_core {c P : Addr} {elt tg iter : Expr} {ifs : List Expr} {scope : Scope} {own : List (Str × Nat)} {pos : Pos} {wi : TI} {g : TG} {tt : TT} {te : TE} {C : Cns} {Dn : Hp → Prop} {k : Nat} {Q' : Value → Shared → Prop}
    (hc : X.calm = true) (hr : Room k X.A) (hN : X.N.Nodup) (TB : TabB X.base X.mg c P) (hcode : X.env.code = .ref c) (I : Inv X pins σ H s) (hi : PI X tg iter wi) (ok : GenOk X.N X.env.scope scope own)
    (hg : ∀ (s : Shared) (H : Hp) (cl : List (Str × Addr)) (L : Addr) (code : Value) (fp : List Addr) (A' : Around), InGen X.A A' → PG (gx X s H (genEnv scope cl L code builtinsNs X.env) fp A') tg g)
    (ht : ∀ (s : Shared) (H : Hp) (cl : List (Str × Addr)) (L : Addr) (code : Value) (fp : List Addr) (A' : Around), InGen X.A A' → PTs (gx X s H (genEnv scope cl L code builtinsNs X.env) fp A') ifs tt)
    (he : ∀ (s : Shared) (H : Hp) (cl : List (Str × Addr)) (L : Addr) (code : Value) (fp : List Addr) (A' : Around), InGen X.A A' → PE (gx X s H (genEnv scope cl L code builtinsNs X.env) fp A') elt te)
    (hs : ∀ v, genFold iter X.env v = pure v)
    (h : wi σ H fun J H1 => TabG H1 P ∧ ∀ H2, Tabbed P H1 H2 → ∃ W : Nat → Nat → Hp → Prop, (∃ m, W 0 m H2) ∧ GxW J g tt te σ (own.map (·.2)) W C Dn)
    (hQ : ∀ (X' : Cx) (σ' : L2.St) (a : Addr) (gi n : Nat) (s5 : Shared), X'.prog = X.prog → X'.w = X.w → (∀ H s', Inv X' [] σ' H s' → Inv X pins σ H s') → GxAt X' σ' a gi X.A.in1.in1 C Dn n s5 → Q' (.ref a) s5) :
    wpAny (model X.prog X.w) X.A (eval (.GeneratorExp elt [⟨tg, iter, ifs, 0⟩] scope pos) X.env) Q' X.xe s := by
  have hfree : ∀ y ∈ scope.names, y.2 = .free → ∃ c, X.env.cells.lookup y.1 = some c := fun y hy e => by
    rcases ok.free y hy e with k | k
    · exact I.ok.has _ (.inl k)
    · exact I.ok.has _ (.inr k)
  refine wpAny_GeneratorExp_make ok.co (closure_ok hfree) ok.cell ok.dot ok.kind hr.depth ?_ hs
  refine thn (hi.run pins s σ H _ I h) fun xv s1 hx => thn hx fun itv s2 h2 => ?_
  obtain ⟨it, fp, tn, J, H1, rfl, I2, T, st2, f2, ⟨ps, hP, htr⟩, hW⟩ := h2
  have hPs : s2.heap.get? P = some { cls := .none, data := .fields ps } := I2.hok P _ hP
  have hPlt : P < s2.heap.objs.size := Heap.lt_size hPs
  have cd : PySem.W.CodeHd s2.heap c P := TB.code.keeps fun b u e => I2.bk b u e
  have lim2 : s2.heap.NoLimit := I2.nolimit
  refine ⟨lim2, ?_⟩
  have nP : ∀ b, H1 b = none → b ≠ P := fun b e z => by rw [z, hP] at e; cases e
  have cont : ∀ (code : Value) (h3 : Heap) (tk : Nat) (ps' : Array Value), Heap.ExtBut P s2.heap h3 → s2.heap.objs.size ≤ h3.objs.size → h3.get? P = some { cls := .none, data := .fields ps' } → (∃ more, ps' = ps ++ more) → TriplesOk ps'.toList →
      wpAny (model X.prog X.w) X.A (builtinsFor X.env.globals X.env.builtins) (fun bi s₄ =>
        ∀ h', h'.Ns s₄.heap.objs.size (fun y => if y = ".0" then some (.ref it) else none) → Heap.SameBut s₄.heap.objs.size (s₄.heap.push { cls := .type "frame", data := .dict #[] }) h' →
          Q' (.ref h'.objs.size) { s₄ with
            gens := s₄.gens.push (.fresh (.compStart (.GeneratorExp elt [⟨tg, iter, ifs, 0⟩] scope pos) 0 (.ref it) .none (genEnv scope (cloFrom X.env.cells scope.names []) s₄.heap.objs.size code bi X.env))),
            toks := s₄.toks + 1 + 1 + 1,
            heap := h'.push { cls := .type "generator", data := .fields #[.int s₄.gens.size 0, .str "<genexpr>" (s₄.toks + 1), .str (X.env.qual ++ "<genexpr>") (s₄.toks + 1 + 1)] } }) X.xe { s2 with heap := h3, toks := tk } := by
    intro code h3 tk ps' hx hsz hP3 hmore ht3
    obtain ⟨bm, ob, e1, e2, e3, e4, e5, e6, e7, e8⟩ := TB.bm
    have keep3 : ∀ b u, b ≠ P → s2.heap.get? b = some u → h3.get? b = some u := fun b u hb e => hx b u hb e
    refine wpAny_builtinsFor (m := X.mg) (by rw [I2.ok.glob]; exact (I2.mod.glob.keeps I2.bk).extBut hx TB.gP) e1 e2 (keep3 _ _ e4 (I2.bk _ _ e5)) e6 e7 e8 ?_
    intro h' hn' hs'
    obtain ⟨more, rfl⟩ := hmore
    have I3 := inv_tab (more := more) (h' := h3) (g' := s2.gens) (d' := s2.drawn) (t' := tk) I2 hP keep3 hP3 I2.bare
    have I3 : Inv X pins σ (upd H1 P (.tbl (ps ++ more))) { s2 with heap := h3, toks := tk } := I3
    generalize hH2 : upd H1 P (.tbl (ps ++ more)) = H2 at I3
    have hTb : Tabbed P H1 H2 := by
      subst hH2
      exact ⟨⟨ps ++ more, upd_same, ht3⟩, fun b hb => upd_ne hb⟩
    obtain ⟨W, ⟨m0, w0⟩, turn⟩ := hW H2 hTb
    have sz : ∀ b ∈ fp, b < s2.heap.objs.size := fun b hb => by
      obtain ⟨o, e, _⟩ := T.obj _ _ st2 b hb
      exact Heap.lt_size e
    have f3 : ∀ b ∈ fp, FpOk X pins H2 b ∧ b < h3.objs.size := fun b hb =>
      ⟨⟨by rw [hTb.2 b (nP b (f2 b hb).1)]; exact (f2 b hb).1, (f2 b hb).2⟩, Nat.lt_of_lt_of_le (sz b hb) hsz⟩
    have st3 : tn 0 h3 := T.keep _ _ _ st2 fun b hb o e => keep3 b o (nP b (f2 b hb).1) e
    generalize hs3 : ({ s2 with heap := h3, toks := tk } : Shared) = s3 at I3 hn' hs'
    have e3 : s3.heap = h3 := by rw [← hs3]
    have hsz' : h'.objs.size = s3.heap.objs.size + 1 := by rw [hs'.1, Heap.size_push]
    have keep' : ∀ b o, s3.heap.get? b = some o → h'.get? b = some o := fun b o e => hs'.extBut b o (Nat.ne_of_lt (Heap.lt_size e)) (Heap.get?_push_of_some _ e)
    generalize hce : genEnv scope (cloFrom X.env.cells scope.names []) s3.heap.objs.size code builtinsNs X.env = cenv
    have cL : cenv.locals = s3.heap.objs.size := by rw [← hce]; rfl
    generalize hA' : X.A.in1.in1.over (.compLoop (.GeneratorExp elt [⟨tg, iter, ifs, 0⟩] scope pos) 0 (.ref it) .none cenv) [] = A'
    have inG : InGen X.A A' := by
      rw [← hA']
      refine ⟨hr.hd, ?_, ?_⟩
      · first
          | rfl
          | (simp [Around.over, Code.weight, Code.isCreation, Code.isGuard, Code.isCaller, Code.frames, Code.isFrame, frameCount])
      · first
          | (show X.A.units + 1 + 1 + 0 + 3 ≤ X.A.units + 12; omega)
          | (simp [Around.over, unitsOf, Code.cUnits, Code.frames, Code.isFrame]; omega)
    have hfr : A'.frames = some (cenv :: X.stack) := by
      rw [← hA']
      have e : X.A.in1.in1.frames = some X.stack := I3.ok.frames
      unfold Around.over
      dsimp only
      rw [e]
      rfl
    generalize hh5 : h'.push { cls := .type "generator", data := .fields #[.int s3.gens.size 0, .str "<genexpr>" (s3.toks + 1), .str (X.env.qual ++ "<genexpr>") (s3.toks + 1 + 1)] } = h5
    have kp5 : ∀ b o, s3.heap.get? b = some o → h5.get? b = some o := fun b o e => by rw [← hh5]; exact Heap.get?_push_of_some _ (keep' b o e)
    have hn5 : h5.Ns s3.heap.objs.size (fun y => if y = ".0" then some (.ref it) else none) := by rw [← hh5]; exact hn'.push _
    have f3' : ∀ b ∈ fp, FpOk X pins H2 b ∧ b < s3.heap.objs.size := fun b hb => by rw [e3]; exact f3 b hb
    have hb3 : AllBare s3.gens := I3.bare
    have start : ∀ (g5 : Array GenState) (t5 : Nat), AllBare g5 → Inv (gx X s3 H2 cenv fp A') [] (wipe σ (own.map (·.2))) H2 { s3 with gens := g5, toks := t5, heap := h5 } := fun g5 t5 hg5 => by
      rw [← hce]
      exact gx_start I3 ok hN f3' inG.hd (by rw [hce]; exact hfr) kp5 hn5 hg5
    have ha2 : h'.objs.size = s3.heap.objs.size + 1 := hsz'
    generalize haa : h'.objs.size = a at ha2 ⊢
    have hGen : h5.IsGen a s3.gens.size := by
      rw [← hh5, ← haa]
      exact ⟨_, _, _, Heap.get?_push_size _ rfl, rfl, rfl, rfl⟩
    have haS : (s3.heap.objs.size : Nat) < a := by rw [ha2]; exact Nat.lt_succ_self _
    have haf : a ∉ fp := fun z => Nat.lt_irrefl _ (Nat.lt_trans (f3' a z).2 haS)
    have hst : ∀ b ∈ a :: fp, ∀ H, H b = none → FpOk (gx X s3 H2 cenv fp A') [] H b := fun b hb H hn => by
      have okB := (start s3.gens 0 hb3).ok
      rcases List.mem_cons.mp hb with hb | hb
      · subst hb
        refine ⟨hn, ?_, fun z => ?_, .inr ?_, fun x c e z => ?_, fun p hp => absurd (show p ∈ ([] : List (Addr × Obj)) ++ [] from hp) (by simp)⟩
        · show b ≠ cenv.locals
          rw [cL]; exact Nat.ne_of_gt haS
        · rcases List.mem_cons.mp (I3.stkSub b z) with z | z
          · have h9 := I3.lt
            rw [← z] at h9
            exact Nat.lt_irrefl _ (Nat.lt_trans h9 haS)
          · exact I3.nofs (Nat.le_of_lt haS) z
        · show s3.heap.objs.size ≤ b
          exact Nat.le_of_lt haS
        · have e : cenv.cells.lookup x = some c := e
          rw [← hce] at e
          rcases cloFrom_mem (PySem.mem_of_lookup e) with hm | ⟨h1, h2⟩
          · cases hm
          · obtain ⟨c', hc'⟩ := hfree _ h1 rfl
            rw [hc'] at h2
            have h2 : c = c' := h2
            obtain ⟨v, zc⟩ := I3.cell _ _ hc'
            have h9 := zc.lt
            rw [← h2, z] at h9
            exact Nat.lt_irrefl _ (Nat.lt_trans h9 haS)
      · exact ⟨hn, (okB.exf b hb).1, okB.exfs b hb, .inl hb, fun x c e => (okB.exf b hb).2 x c e, fun p hp => absurd (show p ∈ ([] : List (Addr × Obj)) ++ [] from hp) (by simp)⟩
    have hn0 : ∀ b ∈ a :: fp, H2 b = none := fun b hb => by
      rcases List.mem_cons.mp hb with hb | hb
      · rw [hb]; exact I3.hok.fresh (Nat.le_of_lt haS)
      · exact (f3' b hb).1.1
    have T' : Turn (gx X s3 H2 cenv fp A').prog (gx X s3 H2 cenv fp A').w (gx X s3 H2 cenv fp A').K tg J fp it tn := T
    have pg := hg s3 H2 (cloFrom X.env.cells scope.names []) s3.heap.objs.size code fp A' inG
    have pt := ht s3 H2 (cloFrom X.env.cells scope.names []) s3.heap.objs.size code fp A' inG
    have pe := he s3 H2 (cloFrom X.env.cells scope.names []) s3.heap.objs.size code fp A' inG
    rw [hce] at pg pt pe
    refine hQ (gx X s3 H2 cenv fp A') (wipe σ (own.map (·.2))) a s3.gens.size (m0 + 1) _ rfl rfl (fun H s' J' => ?_) ⟨?_, ?_, hGen, _, Array.getElem?_push_size .., rfl, ?_⟩
    · exact I3.call' (ch := fp) J'.os J'.base J'.hok J'.bare fun b hb => ⟨(f3' b hb).1.2.2.2.1, (f3' b hb).1.2.1, (f3' b hb).1.2.2.2.2.1, (f3' b hb).1.2.2.2.2.2⟩
    · exact I3.nolimit.keeps kp5
    · exact hb3.push rfl
    · have loop := seg_gx (X := gx X s3 H2 cenv fp A') (A := X.A.in1.in1) (elt := elt) (tg := tg) (iter := iter) (ifs := ifs) (scope := scope) (pos := pos) (a := a) (gi := s3.gens.size) (C := C) (Dn := Dn) hc hA' (by show cenv.scope.isCoroutine = false; rw [← hce]; exact ok.co) T' pg pt pe rfl haf hst turn
        m0 (m0 + 1) 0
      generalize hs5 : (({ s3 with gens := s3.gens.push (.fresh (.compStart (.GeneratorExp elt [⟨tg, iter, ifs, 0⟩] scope pos) 0 (.ref it) .none cenv)), toks := s3.toks + 1 + 1 + 1, heap := h5 } : Shared).setGen s3.gens.size .running) = s5
      have I5 : Inv (gx X s3 H2 cenv fp A') [] (wipe σ (own.map (·.2))) H2 s5 := by
        rw [← hs5]
        exact start _ _ (AllBare.set (hb3.push rfl) rfl)
      have e5 : s5.heap = h5 := by rw [← hs5]; rfl
      have st5 : tn 0 s5.heap := T.keep _ _ _ st3 fun b hb o e => by rw [e5]; exact kp5 b o (by rw [e3]; exact e)
      have loop := loop s5 s5 H2 (Nat.lt_succ_self _) w0 I5 st5 hn0 (by rw [e5]; exact hGen)
      show Seg _ X.A.in1.in1 _ _ _ s5 _ ((compStart (.GeneratorExp elt [⟨tg, iter, ifs, 0⟩] scope pos) 0 (.ref it) .none cenv).onRaise (leaving cenv)) [] s5
      unfold compStart
      rw [Sem.onRaise_eq_wrap]
      show Seg _ X.A.in1.in1 _ _ _ s5 _ ((ask >>= _).wrap _ _ _ _) [] s5
      refine seg_bind_wrap (wpAny_askSetting ?_)
      split
      · exact seg_again rfl loop
      · first
          | exact seg_bind_wrap (wpAny_rule (seg_bind_wrap (wpAny_standAt (seg_bind_wrap (T.self _ 0 s5 _ _ st5 (seg_again rfl loop))))))
          | (refine seg_bind_wrap (wpAny_rule ?_); show Seg _ X.A.in1.in1 _ _ _ s5 _ ((standAt iter.pos >>= _).wrap _ _ _ _) [] s5; exact seg_bind_wrap (wpAny_standAt (seg_bind_wrap (T.self _ 0 s5 _ _ st5 (seg_again rfl loop)))))
  cases hf : codeAmong pos ps.toList with
  | none =>
    refine wpAny_genexprCodeX hcode (cd.code hPs htr) (cd.tab hPs) hf fun c' h' tk hx hge hlt hco' _ htab' _ => ?_
    obtain ⟨o1, vs, f1, tf, fl, tg, inF, tx, tt, op, _, _, _, _, _, _, _, _, _, htr', _⟩ := hco'
    exact cont _ h' tk _ hx (Nat.le_trans hge (Nat.le_of_lt hlt)) htab'.2 ⟨_, rfl⟩ htr'
  | some cv =>
    refine wpAny_genexprCode_hit hcode (cd.code hPs htr) hf ?_
    exact cont cv s2.heap s2.toks ps (Heap.ExtBut.refl _ _) (Nat.le_refl _) hPs ⟨#[], by simp⟩ htr
end

/-! ### all, any -/
def tAllG (P : Addr) (wi : TI) (g : TG) (tt : TT) (te : TE) (vs : List Nat) : TE := fun σ H Q => wi σ H fun J H1 => TabG H1 P ∧ ∀ H2, Tabbed P H1 H2 → ∃ W : Nat → Nat → Hp → Prop, (∃ m, W 0 m H2) ∧ GxW J g tt te σ vs W (cAll fun H => Q (.bl false) H) (Q (.bl true))
def tAnyG (P : Addr) (wi : TI) (g : TG) (tt : TT) (te : TE) (vs : List Nat) : TE := fun σ H Q => wi σ H fun J H1 => TabG H1 P ∧ ∀ H2, Tabbed P H1 H2 → ∃ W : Nat → Nat → Hp → Prop, (∃ m, W 0 m H2) ∧ GxW J g tt te σ vs W (cAny fun H => Q (.bl true) H) (Q (.bl false))
section
variable {X : Cx} {c P : Addr} {elt tg iter : Expr} {ifs : List Expr} {scope : Scope} {own : List (Str × Nat)} {p pos gpos : Pos} {wi : TI} {g : TG} {tt : TT} {te : TE} {k : Nat}
theorem pe_allG (hc : X.calm = true) (hr : Room k X.A) (hN : X.N.Nodup) (hgl : Gl X "all") (hm : X.mg "all" = none) (hb : bootBuiltins "all" = some (.builtin "all")) (TB : TabB X.base X.mg c P) (hcode : X.env.code = .ref c) (hi : PI X tg iter wi) (ok : GenOk X.N X.env.scope scope own)
    (hg : ∀ (s : Shared) (H : Hp) (cl : List (Str × Addr)) (L : Addr) (code : Value) (fp : List Addr) (A' : Around), InGen X.A A' → PG (gx X s H (genEnv scope cl L code builtinsNs X.env) fp A') tg g)
    (ht : ∀ (s : Shared) (H : Hp) (cl : List (Str × Addr)) (L : Addr) (code : Value) (fp : List Addr) (A' : Around), InGen X.A A' → PTs (gx X s H (genEnv scope cl L code builtinsNs X.env) fp A') ifs tt)
    (he : ∀ (s : Shared) (H : Hp) (cl : List (Str × Addr)) (L : Addr) (code : Value) (fp : List Addr) (A' : Around), InGen X.A A' → PE (gx X s H (genEnv scope cl L code builtinsNs X.env) fp A') elt te)
    (hs : ∀ v, genFold iter X.env v = pure v)
    (hst : starEach [.GeneratorExp elt [⟨tg, iter, ifs, 0⟩] scope gpos] X.env = (false, eval (.GeneratorExp elt [⟨tg, iter, ifs, 0⟩] scope gpos) X.env) :: starEach [] X.env := by rfl) :
    PE X (.Call (.Name "all" p) [.GeneratorExp elt [⟨tg, iter, ifs, 0⟩] scope gpos] [] pos) (tAllG P wi g tt te (own.map (·.2))) := by
  refine ⟨fun pins s σ H Q I h => ?_⟩
  refine wpAny_Call_Name_kw (ld_blt I hgl hm hb ?_)
  refine PyProof.Rows.callWith_builtin1 ?_ hst (by rfl)
  rw [hst]
  show wpAny _ _ (spliced ((false, eval (.GeneratorExp elt [⟨tg, iter, ifs, 0⟩] scope gpos) X.env) :: backTo pos (starEach [] X.env))) _ _ s
  refine Calls.spliced_cons (gx_core hc hr hN TB hcode I hi ok hg ht he hs h fun X' σ' a gi n s5 e1 e2 back G => ?_)
  refine Calls.spliced_nil ?_
  refine call_function_tree F.kind_all F.plain_all F.entry_all (F.args_all1 _) ?_
  unfold Builtin.«all»
  refine wpAny_bind (m := oneArg "all" _) (wpAny_pure ?_)
  refine wpAny_bind (wpAny_pyIter_gen G.2.2.1 ?_)
  rw [← e1, ← e2]
  exact wpAny_pure ⟨plainId_quiet F.plain_all_loop _, all_loop_gx (Q := fun b H => Q (.bl b) H) hr.hd hr.depth (fun b H s' J q => ⟨.bl b, H, back H s' J, rfl, q⟩) n s5 G⟩
theorem pe_anyG (hc : X.calm = true) (hr : Room k X.A) (hN : X.N.Nodup) (hgl : Gl X "any") (hm : X.mg "any" = none) (TB : TabB X.base X.mg c P) (hcode : X.env.code = .ref c) (hi : PI X tg iter wi) (ok : GenOk X.N X.env.scope scope own)
    (hg : ∀ (s : Shared) (H : Hp) (cl : List (Str × Addr)) (L : Addr) (code : Value) (fp : List Addr) (A' : Around), InGen X.A A' → PG (gx X s H (genEnv scope cl L code builtinsNs X.env) fp A') tg g)
    (ht : ∀ (s : Shared) (H : Hp) (cl : List (Str × Addr)) (L : Addr) (code : Value) (fp : List Addr) (A' : Around), InGen X.A A' → PTs (gx X s H (genEnv scope cl L code builtinsNs X.env) fp A') ifs tt)
    (he : ∀ (s : Shared) (H : Hp) (cl : List (Str × Addr)) (L : Addr) (code : Value) (fp : List Addr) (A' : Around), InGen X.A A' → PE (gx X s H (genEnv scope cl L code builtinsNs X.env) fp A') elt te)
    (hs : ∀ v, genFold iter X.env v = pure v)
    (hst : starEach [.GeneratorExp elt [⟨tg, iter, ifs, 0⟩] scope gpos] X.env = (false, eval (.GeneratorExp elt [⟨tg, iter, ifs, 0⟩] scope gpos) X.env) :: starEach [] X.env := by rfl) :
    PE X (.Call (.Name "any" p) [.GeneratorExp elt [⟨tg, iter, ifs, 0⟩] scope gpos] [] pos) (tAnyG P wi g tt te (own.map (·.2))) := by
  refine ⟨fun pins s σ H Q I h => ?_⟩
  refine wpAny_Call_Name_kw (ld_blt I hgl hm boot_any ?_)
  refine PyProof.Rows.callWith_builtin1 ?_ hst (by rfl)
  rw [hst]
  show wpAny _ _ (spliced ((false, eval (.GeneratorExp elt [⟨tg, iter, ifs, 0⟩] scope gpos) X.env) :: backTo pos (starEach [] X.env))) _ _ s
  refine Calls.spliced_cons (gx_core hc hr hN TB hcode I hi ok hg ht he hs h fun X' σ' a gi n s5 e1 e2 back G => ?_)
  refine Calls.spliced_nil ?_
  refine call_function_tree F.kind_any F.plain_any F.entry_any (F.args_any1 _) ?_
  unfold Builtin.«any»
  refine wpAny_bind (m := oneArg "any" _) (wpAny_pure ?_)
  refine wpAny_bind (wpAny_pyIter_gen G.2.2.1 ?_)
  rw [← e1, ← e2]
  exact wpAny_pure ⟨plainId_quiet F.plain_any_loop _, any_loop_gx (Q := fun b H => Q (.bl b) H) hr.hd hr.depth (fun b H s' J q => ⟨.bl b, H, back H s' J, rfl, q⟩) n s5 G⟩
end
end PLG

set_option Elab.async false
set_option linter.all false
set_option maxRecDepth 100000
namespace PL
variable [Tabs]
open PySem PySem.Spec PyProof.Rows L2 PLG GxR
/-! PLS14: all, any of a generator expression; defs with tables; the law's end. -/
theorem tv_of {K : PySem.W.Frag} {F : Hp} {d : D} {v : V} {c : Bool} (r : Rp K F d v) (h : tvD d = some c) : tv v = some c := by
  cases d with
  | non => cases r.nonI; exact h
  | bl b => cases r.blI; exact h
  | int i => cases r.intI; exact h
  | _ => cases h
section
variable {K : PySem.W.Frag} {P : Addr} {ti : Ar} {g : Tgt} {t : Ts} {e : Ex} {vs : List Nat}
/-- the turns, in the heap -/
theorem lft_gen {stop : Bool} {F0 B F H : Hp} {σ : L2.St} {δ : PSt} {Qd : D → Prop} {ds : List D} {J : It} {Qs Qe : Hp → Prop} (hv : g.inn vs = true) (S : SR K F0 B F H σ δ) (it : ItD K F J ds) (q : genD stop ds g t e (wp δ vs) Qd)
    (ks : ∀ F' H', Ext F H F' H' → Qd (.bl stop) → Qs H') (ke : ∀ F' H', Ext F H F' H' → Qd (.bl (!stop)) → Qe H') :
    ∃ W : Nat → Nat → Hp → Prop, (∃ m, W 0 m H) ∧ GxW J (lftG K g) (lftT K t) (lft K e) σ vs W (fun y H Nx => ∃ c, tv y = some c ∧ if c = stop then Qs H else Nx) Qe := by
  obtain ⟨I, h0, step, done⟩ := q
  refine ⟨fun i m H' => i + m = ds.length ∧ ∃ F', Ext F H F' H' ∧ I i, ⟨ds.length, Nat.zero_add _, F, .refl S.ext.s, h0⟩, ?_⟩
  rintro i m H' ⟨hm, F', x2, hI⟩
  cases m with
  | zero =>
    have e : i = ds.length := by omega
    subst e
    exact .inl ⟨it.stop F' H' x2.f x2.s, ke F' H' x2 (done hI)⟩
  | succ m =>
    have hi : i < ds.length := by omega
    refine .inr ⟨it.go i F' H' x2.f x2.s hi, fun x H2 hy => ?_⟩
    obtain ⟨F2, d, x3, ed, rd⟩ := it.yld i F' H' x H2 x2.f x2.s hi hy
    have x23 := x2.trans x3
    have S2 : SR K F0 B F2 H2 (L2.wipe σ vs) (wp δ vs) := (S.mono x23).wipe vs
    refine ⟨F0, B, F2, wp δ vs, d, _, S2, rd, step i d ed hI, fun σ3 δ3 S3 w3 h3 => ⟨?_, ?_⟩⟩
    · have := w3 vs hv
      rw [this]
      exact wipe_idem (fun u hu x z => absurd hu (wipe_some z).2) vs fun _ h => h
    · refine ⟨F0, B, F2, δ3, _, S3, h3, fun c F3 H3 x4 q3 => ?_⟩
      have x234 := x23.trans x4
      cases c with
      | true =>
        rw [if_pos rfl] at q3
        refine iteT ⟨F0, B, F3, δ3, _, S3.mono x4, q3, fun y F4 H4 z x5 rz q5 => ?_⟩
        obtain ⟨c, hc, q5⟩ := q5
        refine ⟨c, tv_of rz hc, ?_⟩
        by_cases hs : c = stop
        · rw [if_pos hs] at q5 ⊢
          exact ks F4 H4 (x234.trans x5) q5
        · rw [if_neg hs] at q5 ⊢
          exact ⟨m, Nat.lt_succ_self _, by omega, F4, x234.trans x5, q5⟩
      | false =>
        rw [if_neg Bool.false_ne_true] at q3
        exact iteF ⟨m, Nat.lt_succ_self _, by omega, F3, x234, q3⟩
omit [Tabs] in
theorem cAll_eq (Qf : Hp → Prop) : cAll Qf = fun y H Nx => ∃ c, tv y = some c ∧ if c = false then Qf H else Nx := by
  funext y H Nx
  refine propext ⟨fun ⟨c, h, q⟩ => ⟨c, h, ?_⟩, fun ⟨c, h, q⟩ => ⟨c, h, ?_⟩⟩
  · cases c <;> simpa using q
  · cases c <;> simpa using q
theorem lft_allG (hP : P ∈ Tabs.T) (hv : g.inn vs = true) {σ : L2.St} {H : Hp} {Q : VK} (h : lft K (eAllG ti vs g t e) σ H Q) : tAllG P (lftI K ti) (lftG K g) (lftT K t) (lft K e) vs σ H Q := by
  obtain ⟨F0, B, F, δ, Qd, S, h, k⟩ := h
  refine ⟨F0, B, F, δ, _, S, h, fun ds J F1 H1 x1 it q1 => ?_⟩
  obtain ⟨tg1, nF⟩ := ((S.tb.mono S.ext).mono x1) P hP
  refine ⟨tg1, fun H2 hT => ?_⟩
  have x2 := x1.trans (Ext.tab x1.s tg1 nF hT)
  rw [cAll_eq]
  exact lft_gen (Qs := fun H => Q (.bl false) H) (Qe := Q (.bl true)) hv (S.mono x2) it q1 (fun F' H' x q => k _ F' H' _ (x2.trans x) (.bl _) q) (fun F' H' x q => k _ F' H' _ (x2.trans x) (.bl _) q)
theorem lft_anyG (hP : P ∈ Tabs.T) (hv : g.inn vs = true) {σ : L2.St} {H : Hp} {Q : VK} (h : lft K (eAnyG ti vs g t e) σ H Q) : tAnyG P (lftI K ti) (lftG K g) (lftT K t) (lft K e) vs σ H Q := by
  obtain ⟨F0, B, F, δ, Qd, S, h, k⟩ := h
  refine ⟨F0, B, F, δ, _, S, h, fun ds J F1 H1 x1 it q1 => ?_⟩
  obtain ⟨tg1, nF⟩ := ((S.tb.mono S.ext).mono x1) P hP
  refine ⟨tg1, fun H2 hT => ?_⟩
  have x2 := x1.trans (Ext.tab x1.s tg1 nF hT)
  exact lft_gen (Qs := fun H => Q (.bl true) H) (Qe := Q (.bl false)) hv (S.mono x2) it q1 (fun F' H' x q => k _ F' H' _ (x2.trans x) (.bl _) q) (fun F' H' x q => k _ F' H' _ (x2.trans x) (.bl _) q)
end
/-- GenOk, by a check -/
def genC (N : List Str) (sc scope : Scope) (own : List (Str × Nat)) : Bool :=
  (match scope.kind with | .function => true | _ => false) && !scope.isCoroutine && (scope.names.all fun y => decide (y.2 ≠ .cell)) && decide (scope.names.lookup (".0" : Str) = some NameKind.local) &&
  (scope.names.all fun y => decide (scope.names.lookup y.1 = some y.2)) && (own.all fun p => decide (N[p.2]? = some p.1)) && (scope.names.all fun y => match y.2 with
    | .free => decide (sc.names.lookup y.1 = some .cell ∨ sc.names.lookup y.1 = some .free)
    | .local => decide (y.1 ∈ own.map (·.1)) || decide (y.1 ∉ N)
    | _ => true)
omit [Tabs] in
theorem genOk_by {N : List Str} {sc scope : Scope} {own : List (Str × Nat)} (h : genC N sc scope own = true) : GenOk N sc scope own := by
  unfold genC at h
  simp only [Bool.and_eq_true, List.all_eq_true, decide_eq_true_eq, Bool.not_eq_true'] at h
  obtain ⟨⟨⟨⟨⟨⟨h1, h2⟩, h3⟩, h4⟩, h5⟩, h6⟩, h7⟩ := h
  refine ⟨?_, h2, h3, h4, h5, h6, fun y hy e => ?_, fun y hy e => ?_⟩
  · split at h1
    · assumption
    · cases h1
  · have q := h7 y hy
    simp only [e, decide_eq_true_eq] at q
    exact q
  · have q := h7 y hy
    simp only [e, Bool.or_eq_true, decide_eq_true_eq] at q
    exact q
section
variable {X : Cx} {c P : Addr} {elt tgt iter : Expr} {ifs : List Expr} {scope : Scope} {own : List (Str × Nat)} {p pos gpos : Pos} {ti : Ar} {g : Tgt} {t : Ts} {e : Ex} {k : Nat}
/-- the tables of a def's code object -/
structure TbAt (base : Heap) (mg : Str → Option Value) (cdv : Value) (c P : Addr) : Prop where
  tb : TabB base mg c P
  mem : P ∈ Tabs.T
  code : cdv = .ref c
theorem q_allG (hc : X.calm = true) (hr : Room k X.A) (hN : X.N.Nodup) (hm : X.mg "all" = none) (TB : TbAt X.base X.mg X.env.code c P) (hi : QI X tgt iter ti) (ok : GenOk X.N X.env.scope scope own) (hv : g.inn (own.map (·.2)) = true)
    (hg : ∀ (s : Shared) (H : Hp) (cl : List (Str × Addr)) (L : Addr) (code : Value) (fp : List Addr) (A' : Around), InGen X.A A' → QG (gx X s H (genEnv scope cl L code builtinsNs X.env) fp A') tgt g)
    (ht : ∀ (s : Shared) (H : Hp) (cl : List (Str × Addr)) (L : Addr) (code : Value) (fp : List Addr) (A' : Around), InGen X.A A' → PTs (gx X s H (genEnv scope cl L code builtinsNs X.env) fp A') ifs (lftT X.K t))
    (he : ∀ (s : Shared) (H : Hp) (cl : List (Str × Addr)) (L : Addr) (code : Value) (fp : List Addr) (A' : Around), InGen X.A A' → QE (gx X s H (genEnv scope cl L code builtinsNs X.env) fp A') elt e)
    (hgl : Gl X "all" := by rfl) (hs : ∀ v, genFold iter X.env v = pure v := by intro _; rfl)
    (hst : starEach [.GeneratorExp elt [⟨tgt, iter, ifs, 0⟩] scope gpos] X.env = (false, eval (.GeneratorExp elt [⟨tgt, iter, ifs, 0⟩] scope gpos) X.env) :: starEach [] X.env := by rfl) :
    QE X (.Call (.Name "all" p) [.GeneratorExp elt [⟨tgt, iter, ifs, 0⟩] scope gpos] [] pos) (eAllG ti (own.map (·.2)) g t e) :=
  imp_PE (pe_allG hc hr hN hgl hm (by decide +kernel) TB.tb TB.code hi ok hg ht he hs hst) fun _ _ _ => lft_allG TB.mem hv
theorem q_anyG (hc : X.calm = true) (hr : Room k X.A) (hN : X.N.Nodup) (hm : X.mg "any" = none) (TB : TbAt X.base X.mg X.env.code c P) (hi : QI X tgt iter ti) (ok : GenOk X.N X.env.scope scope own) (hv : g.inn (own.map (·.2)) = true)
    (hg : ∀ (s : Shared) (H : Hp) (cl : List (Str × Addr)) (L : Addr) (code : Value) (fp : List Addr) (A' : Around), InGen X.A A' → QG (gx X s H (genEnv scope cl L code builtinsNs X.env) fp A') tgt g)
    (ht : ∀ (s : Shared) (H : Hp) (cl : List (Str × Addr)) (L : Addr) (code : Value) (fp : List Addr) (A' : Around), InGen X.A A' → PTs (gx X s H (genEnv scope cl L code builtinsNs X.env) fp A') ifs (lftT X.K t))
    (he : ∀ (s : Shared) (H : Hp) (cl : List (Str × Addr)) (L : Addr) (code : Value) (fp : List Addr) (A' : Around), InGen X.A A' → QE (gx X s H (genEnv scope cl L code builtinsNs X.env) fp A') elt e)
    (hgl : Gl X "any" := by rfl) (hs : ∀ v, genFold iter X.env v = pure v := by intro _; rfl)
    (hst : starEach [.GeneratorExp elt [⟨tgt, iter, ifs, 0⟩] scope gpos] X.env = (false, eval (.GeneratorExp elt [⟨tgt, iter, ifs, 0⟩] scope gpos) X.env) :: starEach [] X.env := by rfl) :
    QE X (.Call (.Name "any" p) [.GeneratorExp elt [⟨tgt, iter, ifs, 0⟩] scope gpos] [] pos) (eAnyG ti (own.map (·.2)) g t e) :=
  imp_PE (pe_anyG hc hr hN hgl hm TB.tb TB.code hi ok hg ht he hs hst) fun _ _ _ => lft_anyG TB.mem hv
end
/-- THE RULE for a def, its code object known -/
theorem q_defC {P : Program} {w : World} {K : PySem.W.Frag} {mg : Str → Option Value} {base : Heap} {x qual : Str} {st : Stmt} {f : Addr} {fd : FuncData} {N ps : List Str} {k : Nat} {pm : Pm} {b : Sm} (F : Fun K x qual st f fd) (S : FnScope N ps (defScope st)) (n : Nat) (hn : N.length = n)
    (len : ∀ ds Q, pm ds Q → ds.length = ps.length)
    (walk : ∀ (cdv : Value) (A : Around) (outer : List Env) (s : Shared) (H : Hp) (E : XK), fd.code = cdv → Room k (A.deeper (envOfC qual (defScope st) s.heap.objs.size f cdv)) → QSs (cxOf CX0 P w K mg base N qual (defScope st) f cdv A outer s H E).nox (defBody st) b)
    (pure_ : ∀ ds Q, pm ds Q → b (endsOf Q) (startP n ds)) : FnOk P w K mg base CX0 (k + 1) f fd ps (lsp K pm) := by
  have F' := F
  obtain ⟨⟨oc, od, kV, doc, pm', an, cdv, ct, osl, rfl, lk, hcd⟩, kp⟩ := F
  subst hn
  refine fn_of lk hcd S (fun vs H Q E h => ?_) fun A outer s H vs Q E hr h => ?_
  · obtain ⟨F, ds, Qd, _, r, h, _⟩ := h
    rw [r.len]; exact len ds Qd h
  · obtain ⟨F1, ds, Qd, sF, r, h, kk⟩ := h
    have hpl : ps.length ≤ N.length := by have := congrArg List.length S.pre; rw [List.length_take] at this; omega
    have wk := walk cdv A outer s H E rfl hr
    exact ⟨_, wk.nox, F1, H, F1, startP N.length ds, endsOf Qd, SR.start sF r (by rw [r.len, len ds Qd h]; exact hpl), pure_ ds Qd h, fun F' H' σ' δ' s1 S1 h1 => kk _ _ _ _ S1.ext .non h1, fun F' H' σ' δ' s1 S1 h1 => h1.elim, fun F' H' σ' δ' s1 S1 h1 => h1.elim, fun F' H' v d s1 e1 r1 h1 => kk v F' H' d e1 r1 h1, fun F' H' p xs ds s1 e1 b1 f1 h1 r1 q1 => let ⟨x2, s2⟩ := Ext.frzNew (K := K) e1 b1 f1 h1; kk (.ref p) _ H' _ x2 (.lst (.of upd_same) (r1.mono s2)) q1⟩
end PL

set_option Elab.async false
set_option linter.all false
set_option maxRecDepth 100000
namespace PL
open PySem PySem.Spec PyProof.Rows L2 PLG GxR
/-! PLS15: the law's end, with tables of code objects. -/
/-- how a def's code object and its table are found in the written part -/
theorem tabIn_of {K : PySem.W.Frag} {x : Str} {f c P : Addr} {oc oc' : Value} {od od' : Option Addr} {fd : FuncData} {sl sl' : Array (Option Value)} {vs : Array Value} (a : PySem.W.nsIn K mainGlobals x = some (some (.ref f))) (l : K.lookup f = some ⟨oc, od, .func fd, sl⟩) (hc : fd.code = .ref c)
    (lc : K.lookup c = some ⟨oc', od', .fields vs, sl'⟩) (hv : vs[11]? = some (.ref P)) : PySem.W.tabIn K x = some (c, P) := by
  unfold PySem.W.tabIn
  rw [a]
  simp only
  rw [l]
  simp only
  rw [hc]
  simp only
  rw [lc]
  simp only
  rw [hv]
/-- what the opening tells of the tables -/
def TabFacts (q : Program) (K : PySem.W.Frag) (h : Heap) : Prop :=
  ∀ (y : Str) (c P : Addr) (dd : DefRec), (recsOf q).find? (fun e => e.name == y) = some dd → PySem.W.tabIn K y = some (c, P) → PySem.W.CodeHd h c P ∧ h.get? P = some { cls := .none, data := .fields #[] }
theorem walk_ofT {l : PySem.W.OpenLaw} {n k : Nat} {q : Program} {loose : List Str} {XP : (Str → Option Value) → Heap → Prop} {YP : World → Heap → Prop} {d : DefRec} {K : Params → PySem.W.Frag} {CX : World → CXT} {x : Str}
    (hn : l.most = some n) (hn2 : n ≤ sizeLine) (hdf : d.params.defaults = []) (hr : Room k callerA) (hY : ∀ (w : World) (h : Heap), YP w h → (K w.params).In h)
    (F : ∀ (w : World) (mg : Str → Option Value) (fa : Addr) (h : Heap), YP w h → (K w.params).In h → h.Ns mainGlobals mg → mg d.name = some (.ref fa) → TabFacts q (K w.params) h → LamX.LawAtS l w (K w.params) (CX w) k n x mg fa h)
    (hCX : ∀ (w : World) (H : Hp) (s : Shared) (e : Value) (s' : Shared), CX w [] H s (fun _ _ _ => False) e s' → False) :
    PySem.W.WalkO q loose XP YP l.row.toRowW d [] (fun f vs => PySem.call f vs) := by
  refine Att.attach_callB hn hdf fun w s₀ s₁ mg mb fa o pm cd doc a vs ns G Y ho hd hcd hmg hobj hints hlen hbits hg => ?_
  have KX := hY w _ Y
  obtain ⟨fd, cs, sp, hT, nT, C, hb, hsp, hF⟩ := F w mg fa _ Y KX G.T.g hmg fun y c P dd h1 h2 => PySem.W.tab_of G.T KX h1 h2
  exact LamX.law_callTs KX G.T.g G.T.b G.T.builtins G.T.nolimit hg hT nT C G.T.bmain hobj hints (Nat.le_trans hlen hn2) hr hF hb (fun H hH hS => hsp H a ns hlen hbits hH hS) fun H e s' => hCX w H s₁ e s'
/-- the law at the end: cs, the code objects and their tables -/
theorem law_at {l : PySem.W.OpenLaw} {w : World} {K : PySem.W.Frag} {k : Nat} {mg : Str → Option Value} {fa : Addr} {h : Heap} {fd : FuncData} (cs : List (Addr × Addr)) (hcs : ∀ p ∈ cs, PySem.W.CodeHd h p.1 p.2 ∧ h.get? p.2 = some { cls := .none, data := .fields #[] }) (nT : ∀ p ∈ cs, K.lookup p.2 = none)
    (hb : ∀ (s : Shared) (v : Value), BindsTo s fd ⟨[v], []⟩ [("script", v)])
    (F : ∀ base : Heap, K.In base → base.Ns mainGlobals mg → (∀ p ∈ cs, GxR.TabB base mg p.1 p.2) → FnOk l.prog w K mg base CX0 k fa fd ["script"] (@lsp ⟨cs.map (·.2)⟩ K pLaw)) : LamX.LawAtS l w K CX0 k 63 "script" mg fa h := by
  refine ⟨fd, cs, _, fun p hp => (hcs p hp).2, nT, fun p hp => (hcs p hp).1, hb, fun H a ns hl _ hT hS => ?_, fun base b1 b2 b3 => F base b1 b2 fun p hp => ⟨(b3 p hp).code, (b3 p hp).bm, (b3 p hp).gP⟩⟩
  exact @law_start ⟨cs.map (·.2)⟩ K a ns H _ 63 hl rfl (fun P hP => by
    obtain ⟨p, hp, e⟩ := List.mem_map.mp hP
    rw [← e]; exact hT p hp) hS
end PL

set_option Elab.async false
set_option linter.all false
set_option maxRecDepth 100000
namespace PL
variable [Tabs]
open PySem PySem.Spec PyProof.Rows L2
section
variable {X : Cx} {K : PySem.W.Frag} {e a b : Expr} {te ta tb : Ex} {pos : Pos}
theorem log2_9000 {j : Int} {a : Nat} (h : j.natAbs < 2 ^ a) (ha : a ≤ 8999) : j.natAbs.log2 < 9000 := by
  rcases log2_lt_pow h with e | e <;> omega
theorem k_fdivX : OpR X (binaryOp .FloorDiv) (rI CDivW fun i j => .int (i / j)) ∧ V2 K (rI CDivW fun i j => .int (i / j)) oFdivX := ⟨op_fdivW, v2I fun x y Q h => by
  cases x <;> cases y <;> first | exact h.elim | skip
  rename_i i j
  obtain ⟨⟨h0, a, h1, h2⟩, q⟩ := h
  exact ⟨i, j, rfl, rfl, ⟨h0, log2_9000 h1 h2⟩, q⟩⟩
theorem ki_fdivX : OpR X (inplaceOp .FloorDiv) (rI CDivW fun i j => .int (i / j)) ∧ V2 K (rI CDivW fun i j => .int (i / j)) oFdivX := ⟨iop_fdivW, v2I fun x y Q h => by
  cases x <;> cases y <;> first | exact h.elim | skip
  rename_i i j
  obtain ⟨⟨h0, a, h1, h2⟩, q⟩ := h
  exact ⟨i, j, rfl, rfl, ⟨h0, log2_9000 h1 h2⟩, q⟩⟩
theorem ki_mulX : OpR X (inplaceOp .Mult) (rI CMulW fun i j => .int (i * j)) ∧ V2 K (rI CMulW fun i j => .int (i * j)) oMulX := ⟨(opI fun _ _ _ _ _ _ _ hc q => imul_int q (CMulW.ok hc)), v2I fun x y Q h => by
  cases x <;> cases y <;> first | exact h.elim | skip
  rename_i i j
  obtain ⟨⟨a, b, h1, h2, h3⟩, q⟩ := h
  refine ⟨i, j, rfl, rfl, ?_, q⟩
  show i.natAbs.log2 + j.natAbs.log2 < 1000000
  rcases log2_lt_pow h1 with e1 | e1 <;> rcases log2_lt_pow h2 with e2 | e2 <;> omega⟩
theorem qs_par3 (i j l : Nat) {x y z : Str} {a b c : Expr} {ta tb tc : Ex} {px py pz pt : Pos} {kt k2 pt2} (hc : X.calm = true) (hN : X.N.Nodup) (ha : QE X a ta) (hb : QE X b tb) (hcc : QE X c tc) (hi : X.N[i]? = some x := by rfl) (hj : X.N[j]? = some y := by rfl) (hl : X.N[l]? = some z := by rfl) (hij : i ≠ j := by decide) (hil : i ≠ l := by decide) (hjl : j ≠ l := by decide)
    (hx : X.env.scope.names.lookup x = some .local := by rfl) (hy : X.env.scope.names.lookup y = some .local := by rfl) (hz : X.env.scope.names.lookup z = some .local := by rfl)
    (hse : starEach [a, b, c] X.env = (false, eval a X.env) :: starEach [b, c] X.env := by rfl) (hse2 : starEach [b, c] X.env = (false, eval b X.env) :: starEach [c] X.env := by rfl) (hse3 : starEach [c] X.env = (false, eval c X.env) :: starEach [] X.env := by rfl)
    (hw : swappedStores [.Tuple [.Name x px, .Name y py, .Name z pz] kt pt] (.Tuple [a, b, c] k2 pt2) X.env = pure (some [x, y, z]) := by rfl)
    (hs : swapsWithSole [.Tuple [.Name x px, .Name y py, .Name z pz] kt pt] (.Tuple [a, b, c] k2 pt2) pos.line X.env = pure false := by rfl) :
    QS X (.Assign [.Tuple [.Name x px, .Name y py, .Name z pz] kt pt] (.Tuple [a, b, c] k2 pt2) pos) (sPar3 i j l ta tb tc) :=
  imp_PS (ps_par3 hc hN hi hj hl hij hil hjl hx hy hz (pa_cons ha (pa_cons hb (pa_cons hcc pa_nil hse3) hse2) hse) hw hs) fun D σ H h => by
    obtain ⟨F0, B, F, δ, E, S, h, k⟩ := h
    refine ⟨F0, B, F, δ, _, S, h, fun v F1 H1 d x1 r1 q1 => ⟨F0, B, F1, δ, _, S.mono x1, q1, fun u F2 H2 d2 x2 r2 q2 => ⟨F0, B, F2, δ, _, (S.mono x1).mono x2, q2, fun w F3 H3 d3 x3 r3 q3 => ⟨v, u, w, rfl, ?_⟩⟩⟩⟩
    exact k.nx F3 H3 _ _ ((x1.f.trans x2.f).trans x3.f) (((((((S.mono x1).mono x2).mono x3).setVal ((r1.mono x2.f).mono x3.f)).setVal (r2.mono x3.f))).setVal r3) q3
/-! tuples of ints compared -/
theorem lexAt_drop (e r : Nat → Bool) (z : Bool) (g : List Int → List Int → Bool) (ns ms : List Int)
    (h1 : ∀ i, i < ns.length → i < ms.length → g (ns.drop i) (ms.drop i) = if e i = true then g (ns.drop (i + 1)) (ms.drop (i + 1)) else r i)
    (h2 : g (ns.drop (min ns.length ms.length)) (ms.drop (min ns.length ms.length)) = z) : ∀ k i, i + k = min ns.length ms.length → Ob.lexAt e r z i k = g (ns.drop i) (ms.drop i)
  | 0, i, h => by rw [Ob.lexAt_zero, ← h2, ← h]; rfl
  | k + 1, i, h => by
    rw [Ob.lexAt_succ, h1 i (by omega) (by omega), lexAt_drop e r z g ns ms h1 h2 k (i + 1) (by omega)]
theorem drop_one {ns : List Int} {i : Nat} (h : i < ns.length) : ns.drop i = ns.getD i 0 :: ns.drop (i + 1) := by
  rw [List.drop_eq_getElem_cons h, List.getD_eq_getElem?_getD, List.getElem?_eq_getElem h]; rfl
theorem lexGt_at (ns ms : List Int) : Ob.lexAt (fun j => decide (ns.getD j 0 = ms.getD j 0)) (fun j => decide (ms.getD j 0 < ns.getD j 0)) (decide (ns.length > ms.length)) 0 (min ns.length ms.length) = lexGt ns ms := by
  refine (lexAt_drop _ _ _ lexGt ns ms (fun i h1 h2 => ?_) ?_ _ 0 (by omega)).trans (by simp)
  · rw [drop_one h1, drop_one h2, lexGt]
    simp only [decide_eq_true_eq]
  · rcases Nat.lt_or_ge ms.length ns.length with c | c
    · rw [Nat.min_eq_right (by omega), List.drop_length, drop_one c, decide_eq_true c]; rfl
    · rw [Nat.min_eq_left c, List.drop_length, decide_eq_false (by omega)]; rfl
theorem lexGe_at (ns ms : List Int) : Ob.lexAt (fun j => decide (ns.getD j 0 = ms.getD j 0)) (fun j => decide (ms.getD j 0 ≤ ns.getD j 0)) (decide (ns.length ≥ ms.length)) 0 (min ns.length ms.length) = lexGe ns ms := by
  refine (lexAt_drop _ _ _ lexGe ns ms (fun i h1 h2 => ?_) ?_ _ 0 (by omega)).trans (by simp)
  · rw [drop_one h1, drop_one h2, lexGe]
    simp only [decide_eq_true_eq]
  · rcases Nat.lt_or_ge ms.length ns.length with c | c
    · rw [Nat.min_eq_right (by omega), List.drop_length, drop_one c, decide_eq_true (by omega)]; rfl
    · rw [Nat.min_eq_left c, List.drop_length]
      rcases Nat.lt_or_ge ns.length ms.length with d | d
      · rw [drop_one d, decide_eq_false (by omega)]; rfl
      · rw [show ns.length = ms.length by omega, List.drop_length, decide_eq_true (by omega)]; rfl
def rTT (K : PySem.W.Frag) (g : List Int → List Int → Bool) : R2 := fun x y H Q => ∃ (a b : Addr) (ns ms : List Int), x = .ref a ∧ y = .ref b ∧ SqT K H a (ns.map V.int) ∧ SqT K H b (ms.map V.int) ∧ Q (.bl (g ns ms)) H
theorem op_TT {op : CmpOp} {g : List Int → List Int → Bool} {rel : Int → Int → Bool} {len : Nat → Nat → Bool}
    (hT : ∀ {A : Around} {s : Shared} {l b : Addr} {items items2 : Array Value} {e r : Nat → Bool}, s.heap.IsTuple l items → s.heap.IsTuple b items2 → A.units < cLine →
      (∀ j (h1 : j < items.size) (h2 : j < items2.size), SeqAt.EqAt A.in1 s items[j] items2[j] (e j)) → (∀ j (h1 : j < items.size) (h2 : j < items2.size), e j = false → Ob.RcOp op A.in1 s items[j] items2[j] (r j)) →
      Ob.RcOp op A s (.ref l) (.ref b) (Ob.lexAt e r (len items.size items2.size) 0 (min items.size items2.size)))
    (hI : ∀ {A : Around} {s : Shared} (a b : Int) (t u : Tok), Ob.RcOp op A s (.int a t) (.int b u) (rel a b))
    (hg : ∀ ns ms : List Int, Ob.lexAt (fun j => decide (ns.getD j 0 = ms.getD j 0)) (fun j => rel (ns.getD j 0) (ms.getD j 0)) (len ns.length ms.length) 0 (min ns.length ms.length) = g ns ms)
    (hc : ∀ (a b : Value) (pr : Program) (w : World) (A : Around) (E Q : Value → Shared → Prop) (s : Shared), wpAny (model pr w) A (richCompare op a b) Q E s → wpAny (model pr w) A (compareOp op a b) Q E s) (hu : X.A.units < cLine) : OpR X (compareOp op) (rTT X.K g) := by
  intro pins s σ H x y v u Q I rx ry h
  obtain ⟨a, b, ns, ms, rfl, rfl, ha, hb, q⟩ := h
  cases rx
  cases ry
  obtain ⟨its, r1, p1, _⟩ := I.tuple ha
  obtain ⟨its2, r2, p2, _⟩ := I.tuple hb
  have i1 : IntsAre its ns := Vals.ints r1
  have i2 : IntsAre its2 ms := Vals.ints r2
  have e1 : its.toArray.size = ns.length := by rw [List.size_toArray]; exact i1.length
  have e2 : its2.toArray.size = ms.length := by rw [List.size_toArray]; exact i2.length
  have at1 : ∀ j (h1 : j < its.toArray.size), ∃ t, its.toArray[j] = .int (ns.getD j 0) t := fun j h1 => PyProof.Rows.IntsAre.int_at i1 _ _ (by simp at h1; simp [h1])
  have at2 : ∀ j (h1 : j < its2.toArray.size), ∃ t, its2.toArray[j] = .int (ms.getD j 0) t := fun j h1 => PyProof.Rows.IntsAre.int_at i2 _ _ (by simp at h1; simp [h1])
  have R := hT (A := X.A) (s := s) (e := fun j => decide (ns.getD j 0 = ms.getD j 0)) (r := fun j => rel (ns.getD j 0) (ms.getD j 0)) p1 p2 hu (fun j h1 h2 => by
    obtain ⟨t, et⟩ := at1 j h1
    obtain ⟨t', et'⟩ := at2 j h2
    rw [et, et']
    have z : (ns.getD j 0 == ms.getD j 0) = decide (ns.getD j 0 = ms.getD j 0) := by
      by_cases q : ns.getD j 0 = ms.getD j 0
      · rw [decide_eq_true q]; exact beq_iff_eq.mpr q
      · rw [decide_eq_false q]; exact beq_eq_false_iff_ne.mpr q
    rw [← z]
    exact SeqAt.EqAt.int_int _ _ _ _) (fun j h1 h2 _ => by
    obtain ⟨t, et⟩ := at1 j h1
    obtain ⟨t', et'⟩ := at2 j h2
    rw [et, et']
    exact hI _ _ _ _)
  rw [e1, e2, hg] at R
  exact hc _ _ _ _ _ _ _ _ (R X.prog X.w X.xe (EP X pins σ Q) ⟨.bl _, H, I, rfl, q⟩)
theorem RpL.intsI {F : Hp} : ∀ {ns : List Int} {vs : List V}, RpL K F (ns.map .int) vs → vs = ns.map V.int
  | [], _, h => by simpa only [List.map_nil, RpL] using h
  | n :: ns, _, h => by
    obtain ⟨v, r, rfl, h2, h3⟩ := h.inv
    rw [h2.intI, RpL.intsI h3]; rfl
theorem v2_TT (g : List Int → List Int → Bool) : V2 K (rTT K g) (oTT g) := by
  intro F H x y v u Qd Q s rx ry h k
  cases x <;> cases y <;> first | exact h.elim | skip
  obtain ⟨ns, ms, rfl, rfl, q⟩ := h
  obtain ⟨a, vs, rfl, h1, h2⟩ := rx.tupI
  obtain ⟨b, us, rfl, g1, g2⟩ := ry.tupI
  rw [RpL.intsI h2] at h1
  rw [RpL.intsI g2] at g1
  exact ⟨a, b, ns, ms, rfl, rfl, sameT s h1, sameT s g1, k _ F H _ (.refl s) (.bl _) q⟩
theorem k_gtT (hu : X.A.units + 64 < cLine) : OpR X (compareOp .Gt) (rTT X.K lexGt) ∧ V2 X.K (rTT X.K lexGt) oGtT :=
  ⟨op_TT (rel := fun a b => decide (b < a)) (len := fun a b => decide (a > b)) (fun p1 p2 hu he hr => Ob.RcOp.tuples_gt p1 p2 hu he hr) (fun _ _ _ _ => Ob.RcOp.gt_int _ _ _ _) lexGt_at (fun _ _ _ _ _ _ _ _ h => h) (by omega), v2_TT _⟩
theorem k_geT (hu : X.A.units + 64 < cLine) : OpR X (compareOp .GtE) (rTT X.K lexGe) ∧ V2 X.K (rTT X.K lexGe) oGeT :=
  ⟨op_TT (rel := fun a b => decide (b ≤ a)) (len := fun a b => decide (a ≥ b)) (fun p1 p2 hu he hr => Ob.RcOp.tuples_ge p1 p2 hu he hr) (fun _ _ _ _ => Ob.RcOp.ge_int _ _ _ _) lexGe_at (fun _ _ _ _ _ _ _ _ h => h) (by omega), v2_TT _⟩
theorem lexLt_at (ns ms : List Int) : Ob.lexAt (fun j => decide (ns.getD j 0 = ms.getD j 0)) (fun j => decide (ns.getD j 0 < ms.getD j 0)) (decide (ns.length < ms.length)) 0 (min ns.length ms.length) = lexGt ms ns := by
  have := lexGt_at ms ns
  rw [Nat.min_comm] at this
  rw [← this]
  congr 1
  funext j
  exact decide_eq_decide.mpr eq_comm
theorem lexLe_at (ns ms : List Int) : Ob.lexAt (fun j => decide (ns.getD j 0 = ms.getD j 0)) (fun j => decide (ns.getD j 0 ≤ ms.getD j 0)) (decide (ns.length ≤ ms.length)) 0 (min ns.length ms.length) = lexGe ms ns := by
  have := lexGe_at ms ns
  rw [Nat.min_comm] at this
  rw [← this]
  congr 1
  funext j
  exact decide_eq_decide.mpr eq_comm
theorem k_ltT (hu : X.A.units + 64 < cLine) : OpR X (compareOp .Lt) (rTT X.K fun a b => lexGt b a) ∧ V2 X.K (rTT X.K fun a b => lexGt b a) oLtT :=
  ⟨op_TT (rel := fun a b => decide (a < b)) (len := fun a b => decide (a < b)) (fun p1 p2 hu he hr => Ob.RcOp.tuples_lt p1 p2 hu he hr) (fun _ _ _ _ => Ob.RcOp.lt_int _ _ _ _) lexLt_at (fun _ _ _ _ _ _ _ _ h => h) (by omega), v2_TT _⟩
theorem k_leT (hu : X.A.units + 64 < cLine) : OpR X (compareOp .LtE) (rTT X.K fun a b => lexGe b a) ∧ V2 X.K (rTT X.K fun a b => lexGe b a) oLeT :=
  ⟨op_TT (rel := fun a b => decide (a ≤ b)) (len := fun a b => decide (a ≤ b)) (fun p1 p2 hu he hr => Ob.RcOp.tuples_le p1 p2 hu he hr) (fun _ _ _ _ => Ob.RcOp.le_int _ _ _ _) lexLe_at (fun _ _ _ _ _ _ _ _ h => h) (by omega), v2_TT _⟩
end
end PL

set_option Elab.async false
set_option linter.all false
set_option maxRecDepth 100000
namespace PL
variable [Tabs]
open PySem PySem.Spec PyProof.Rows L2
/-! PLS17: list(range(..)), tuple(range(..)); an owned list lent to an expression. -/
section
variable {X : Cx} {K : PySem.W.Frag} {e a b : Expr} {te ta tb : Ex} {pos p p2 : Pos}
/-- a range made -/
def lftR (K : PySem.W.Frag) (t : Ar) : L2.St → Hp → (Int → Int → Hp → Prop) → Prop := fun σ H Q => ∃ F0 B F δ Qd, SR K F0 B F H σ δ ∧ t δ Qd ∧
  ∀ (a b : Int) F' H', Ext F H F' H' → (-(2 ^ 62) ≤ a ∧ a < 2 ^ 62 ∧ -(2 ^ 62) ≤ b ∧ b < 2 ^ 62) → Qd (rng a (b - a).toNat) → Q a b H'
theorem prgR_1 (hm : X.mg "range" = none) (ha : QE X a ta) (hg : Gl X "range" := by rfl) (na : starEach [a] X.env = (false, eval a X.env) :: starEach [] X.env := by rfl) : PRg X (.Call (.Name "range" p) [a] [] pos) (lftR X.K (iRng1 ta)) := by
  intro pins s σ H Q I h
  refine prg_1 hg hm ha na pins s σ H Q I ?_
  obtain ⟨F0, B, F, δ, Qd, S, h, k⟩ := h
  refine ⟨F0, B, F, δ, _, S, h, fun v F1 H1 d x1 r1 q1 => ?_⟩
  cases d with
  | int n => exact ⟨n, r1.intI, k 0 n F1 H1 x1 ⟨by decide, by decide, q1.1.1, q1.1.2⟩ (by rw [Int.sub_zero]; exact q1.2)⟩
  | _ => exact q1.elim
theorem prgR_2 (hm : X.mg "range" = none) (ha : QE X a ta) (hb : QE X b tb) (hg : Gl X "range" := by rfl) (na : starEach [a, b] X.env = (false, eval a X.env) :: starEach [b] X.env := by rfl) (nb : starEach [b] X.env = (false, eval b X.env) :: starEach [] X.env := by rfl)
    (hp : (backTo pos (starEach [b] X.env)).any (·.1) = false := by rfl) : PRg X (.Call (.Name "range" p) [a, b] [] pos) (lftR X.K (iRng2 ta tb)) := by
  intro pins s σ H Q I h
  refine prg_2 hg hm ha hb na nb hp pins s σ H Q I ?_
  obtain ⟨F0, B, F, δ, Qd, S, h, k⟩ := h
  refine ⟨F0, B, F, δ, _, S, h, fun v F1 H1 d x1 r1 q1 => ⟨F0, B, F1, δ, _, S.mono x1, q1, fun u F2 H2 d2 x2 r2 q2 => ?_⟩⟩
  cases d with
  | int m =>
    cases d2 with
    | int n => exact ⟨m, n, r1.intI, r2.intI, k m n F2 H2 (x1.trans x2) q2.1 q2.2⟩
    | _ => exact q2.elim
  | _ => cases d2 <;> exact q2.elim
theorem rgV_rpl {F : Hp} (a b : Int) : RpL K F (rng a (b - a).toNat) (rgV a b) := by
  unfold rng rgV
  have : ∀ l : List Nat, RpL K F (l.map fun (k : Nat) => D.int (a + k)) (l.map fun (i : Nat) => V.int (a + i)) := by
    intro l
    induction l with
    | nil => exact .nil
    | cons x l ih => exact .cons (.int _) ih
  exact this _
theorem qf_listRg {t : Ar} (hc : X.calm = true) (hm : X.mg "list" = none) (he : PRg X e (lftR X.K t)) (hg : Gl X "list" := by rfl) (na : starEach [e] X.env = (false, eval e X.env) :: starEach [] X.env := by rfl) : QF X (.Call (.Name "list" p) [e] [] pos) (eLstRg t) :=
  imp_PE (pe_listRg hc hg hm he na) fun σ H Q h => by
    obtain ⟨F0, B, F, δ, Qd, S, h, k⟩ := h
    refine ⟨F0, B, F, δ, _, S, h, fun a b F1 H1 x1 ok q1 => ⟨⟨ok.1, ok.2.1, ok.2.2.1, ok.2.2.2, ?_⟩, fun l hl => ?_⟩⟩
    · have := q1.1
      rw [rng_lenP] at this
      exact this
    · have sH : Same H1 (upd H1 l (.lst (rgV a b))) := upd_same_of hl
      exact k l (rgV a b) _ F1 _ ⟨x1.f, x1.h.thenS sH, x1.s.trans sH, x1.n⟩ (x1.h.free hl) (x1.s.free hl) upd_same (rgV_rpl a b) q1.2
theorem q_tupRg {t : Ar} (hc : X.calm = true) (hm : X.mg "tuple" = none) (he : PRg X e (lftR X.K t)) (hg : Gl X "tuple" := by rfl) (na : starEach [e] X.env = (false, eval e X.env) :: starEach [] X.env := by rfl) : QE X (.Call (.Name "tuple" p) [e] [] pos) (eTupRg t) :=
  imp_PE (pe_tupRg hc hg hm he na) fun σ H Q h => by
    obtain ⟨F0, B, F, δ, Qd, S, h, k⟩ := h
    refine ⟨F0, B, F, δ, _, S, h, fun a b F1 H1 x1 ok q1 => ⟨⟨ok.1, ok.2.1, ok.2.2.1, ok.2.2.2, ?_⟩, fun l hl => ?_⟩⟩
    · have := q1.1
      rw [rng_lenP] at this
      exact this
    · have x2 : Ext F1 H1 (upd F1 l (.tup (rgV a b))) (upd H1 l (.tup (rgV a b))) := Ext.new x1.s hl
      exact k _ _ _ _ (x1.trans x2) (.tup upd_same (rgV_rpl a b)) q1.2
/-! lent lists -/
/-- the heap without what stands at a -/
def less (F : Hp) (a : Addr) : Hp := fun b => if b = a then none else F b
theorem less_ne {F : Hp} {a b : Addr} (h : b ≠ a) : less F a b = F b := if_neg h
mutual
theorem Rp.less {F : Hp} {a : Addr} {xs : List V} (ha : F a = some (.lst xs)) : ∀ {d : D} {v : V}, noL d = true → Rp K F d v → Rp K (less F a) d v
  | .non, _, _, h => by simp only [Rp] at h ⊢; exact h
  | .bl _, _, _, h => by simp only [Rp] at h ⊢; exact h
  | .int _, _, _, h => by simp only [Rp] at h ⊢; exact h
  | .str _, _, _, h => by simp only [Rp] at h ⊢; exact h
  | .tup ds, _, n, h => by
    obtain ⟨b, ys, rfl, h2, h3⟩ := h.tupH
    refine .tup ?_ (RpL.less ha (by simpa only [noL] using n) h3)
    have : b ≠ a := fun z => by rw [z, ha] at h2; cases h2
    rw [less_ne this]; exact h2
  | .lst _, _, n, _ => by simp [noL] at n
theorem RpL.less {F : Hp} {a : Addr} {xs : List V} (ha : F a = some (.lst xs)) : ∀ {ds : List D} {vs : List V}, noLL ds = true → RpL K F ds vs → RpL K (less F a) ds vs
  | [], _, _, h => by simp only [RpL] at h ⊢; exact h
  | d :: ds, _, n, h => by
    obtain ⟨v, r, rfl, h2, h3⟩ := h.inv
    simp only [noLL, Bool.and_eq_true] at n
    exact .cons (Rp.less ha n.1 h2) (RpL.less ha n.2 h3)
end
theorem Ext.less {F H F' F1 H1 : Hp} {a : Addr} {xs : List V} (hF : F a = none) (sF : Same F F') (hn : ∀ b, b ≠ a → F b = none → H b ≠ none → F' b = none) (x : Ext F' H F1 H1) : Ext F H (less F1 a) H1 :=
  ⟨fun b o e => by
    have : b ≠ a := fun z => by rw [z, hF] at e; cases e
    rw [less_ne this]; exact x.f b o (sF b o e), x.h, fun b o e => by
    by_cases c : b = a
    · unfold PL.less at e; rw [if_pos c] at e; cases e
    · rw [less_ne c] at e; exact x.s b o e, fun b h1 h2 => by
    by_cases c : b = a
    · unfold PL.less; rw [if_pos c]
    · rw [less_ne c]; exact x.n b h1 (hn b c h2 h1)⟩
theorem SR.lend {F0 B F H : Hp} {σ : L2.St} {δ : PSt} (S : SR K F0 B F H σ δ) (i : Nat) : (∃ F', SR K F0 B F' H σ (frz1 δ i) ∧ ∃ a xs, F a = none ∧ F' a = some (.lst xs) ∧ Same F F' ∧ ∀ b, b ≠ a → F b = none → F' b = none) ∨ frz1 δ i = δ := by
  by_cases hs : ∃ a ds, gt δ i = .own a ds
  · left
    obtain ⟨a, ds, h⟩ := hs
    obtain ⟨h1, h2, h3, xs, h4, h5⟩ := S.own i a ds h
    obtain ⟨X, sF, S'⟩ := S.frzI h h4 h5
    refine ⟨upd F a (.lst xs), ?_, a, xs, h3, upd_same, sF, fun b hb hF => by rw [upd_ne hb]; exact hF⟩
    unfold frz1
    rw [show frzS (gt δ i) = .val (.lst ds) by rw [h]; rfl]
    exact S'
  · right
    have e : frzS (gt δ i) = gt δ i := by
      cases q : gt δ i with
      | own a ds => exact absurd ⟨a, ds, q⟩ hs
      | _ => rfl
    unfold frz1
    rw [e, st_gt]
/-- an expression that reads the owned list i whole: what it gives holds no list -/
theorem q_lend (i : Nat) (h : QE X e te) : QE X e (eLend i te) := imp_PE h fun σ H Q hq => by
  obtain ⟨F0, B, F, δ, Qd, S, hq, k⟩ := hq
  rcases S.lend i with ⟨F', S', a, xs, h1, h2, h3, h4⟩ | eq
  · refine ⟨F0, B, F', _, _, S', hq, fun v F1 H1 d x1 r1 q1 => ?_⟩
    have ha : F1 a = some (.lst xs) := x1.f a _ h2
    exact k v (less F1 a) H1 d (Ext.less (xs := xs) h1 h3 (fun b c e _ => h4 b c e) x1) (Rp.less ha q1.1 r1) q1.2
  · refine ⟨F0, B, F, δ, fun d => noL d = true ∧ Qd d, S, by unfold eLend at hq; rw [eq] at hq; exact hq, fun v F1 H1 d x1 r1 q1 => k v F1 H1 d x1 r1 q1.2⟩
/-- the same for a test -/
theorem qt_lend {t : Ts} (i : Nat) (h : QT X e t) : QT X e (tLend i t) := imp_PT h fun σ H Q hq => by
  obtain ⟨F0, B, F, δ, Qd, S, hq, k⟩ := hq
  rcases S.lend i with ⟨F', S', a, xs, h1, h2, h3, h4⟩ | eq
  · refine ⟨F0, B, F', _, _, S', hq, fun v F1 H1 x1 q1 => ?_⟩
    exact k v (less F1 a) H1 (Ext.less (xs := xs) h1 h3 (fun b c e _ => h4 b c e) x1) q1
  · refine ⟨F0, B, F, δ, _, S, by unfold tLend at hq; rw [eq] at hq; exact hq, fun v F1 H1 x1 q1 => k v F1 H1 x1 q1⟩
/-- a fresh list of items that hold no list -/
theorem qf_lend (i : Nat) (h : QF X e te) : QF X e (eLendF i te) := imp_PE h fun σ H Q hq => by
  obtain ⟨F0, B, F, δ, Qd, S, hq, k⟩ := hq
  rcases S.lend i with ⟨F', S', a, xs, h1, h2, h3, h4⟩ | eq
  · refine ⟨F0, B, F', _, _, S', hq, fun p ys ds F1 H1 x1 e1 e2 e3 r1 q1 => ?_⟩
    have ha : F1 a = some (.lst xs) := x1.f a _ h2
    have hp : less F1 a p = none := by
      by_cases c : p = a
      · unfold less; rw [if_pos c]
      · rw [less_ne c]; exact e2
    obtain ⟨ds', e, n, q1⟩ := q1
    cases e
    exact k p ys ds (less F1 a) H1 (Ext.less (xs := xs) h1 h3 (fun b c e _ => h4 b c e) x1) e1 hp e3 (RpL.less ha n r1) q1
  · refine ⟨F0, B, F, δ, fun d => ∃ ds, d = .lst ds ∧ noLL ds = true ∧ Qd d, S, by unfold eLendF at hq; rw [eq] at hq; exact hq, fun p ys ds F1 H1 x1 e1 e2 e3 r1 q1 => ?_⟩
    obtain ⟨ds', e, n, q1⟩ := q1
    cases e
    exact k p ys ds F1 H1 x1 e1 e2 e3 r1 q1
end
end PL

set_option Elab.async false
set_option linter.all false
set_option maxRecDepth 100000
/-! PLS18: chains of three as tests; zip of two lists or two tuples; reversed. -/
namespace PL
variable [Tabs]
open PySem PySem.Spec PyProof.Rows L2 RZ RT
section
variable {X : Cx} {a b c d : Expr} {ta tb tc td : Ex} {pos : Pos}
theorem q_chn3T {op op' op'' : CmpOp} {r r' r'' : R2} {p q t : Op2} (ho : OpR X (compareOp op) r ∧ V2 X.K r p) (ho' : OpR X (compareOp op') r' ∧ V2 X.K r' q) (ho'' : OpR X (compareOp op'') r'' ∧ V2 X.K r'' t) (ha : QE X a ta) (hb : QE X b tb) (hc : QE X c tc) (hd : QE X d td)
    (hm : lastMarks [op, op', op''] [b, c, d] = false := by with_unfolding_all rfl) : QT X (.Compare a [op, op', op''] [b, c, d] pos) (tB (eChn3 p q t ta tb tc td)) := by
  refine ⟨fun pins s σ H Q I h => ?_⟩
  obtain ⟨F0, B, F, δ, Qb, S, h, k⟩ := h
  let Qd : D → Prop := fun x => asB x Qb
  have h : eChn3 p q t ta tb tc td δ Qd := h
  refine isTrue_chain (thn (ha.run pins s σ H (fun v H1 => ∃ F1 x, Ext F H F1 H1 ∧ Rp X.K F1 x v ∧ (tb δ fun y => p x y fun z => asB z fun k => if k = true then tc δ fun w => q y w fun z => asB z fun k => if k = true then td δ fun v => t w v Qd else Qd (.bl false) else Qd (.bl false))) I
    ⟨F0, B, F, δ, _, S, h, fun v F1 H1 d x1 r1 q1 => ⟨F1, d, x1, r1, q1⟩⟩) fun v s1 ⟨vx, H1, I1, rv, F1, x, x1, rx, h1⟩ => ?_) hm
  refine test_link (thn (hb.run pins s1 σ H1 (fun v H2 => ∃ F2 y, Ext F1 H1 F2 H2 ∧ Rp X.K F2 y v ∧ (p x y fun z => asB z fun k => if k = true then tc δ fun w => q y w fun z => asB z fun k => if k = true then td δ fun v => t w v Qd else Qd (.bl false) else Qd (.bl false))) I1
    ⟨F0, B, F1, δ, _, S.mono x1, h1, fun v F2 H2 d x2 r2 q2 => ⟨F2, d, x2, r2, q2⟩⟩) fun u s2 ⟨vy, H2, I2, ru, F2, y, x2, ry, h2⟩ => ?_)
  refine thn (ho.1 pins s2 σ H2 vx vy v u (fun w H3 => ∃ F3 k, Ext F2 H2 F3 H3 ∧ w = .bl k ∧ (if k = true then tc δ fun w => q y w fun z => asB z fun k => if k = true then td δ fun v => t w v Qd else Qd (.bl false) else Qd (.bl false))) I2 rv ru
    (ho.2 F2 H2 x y vx vy _ _ x2.s (rx.mono x2.f) ry h2 fun w F3 H3 d x3 r3 q3 => ?_)) fun dv s3 ⟨z, H3, I3, r3, F3, kk, x3, e, h3⟩ => ?_
  · cases d with
    | bl c => exact ⟨F3, c, x3, r3.blI, q3⟩
    | _ => exact q3.elim
  subst e
  cases r3
  refine wpAny_truthy_bool ?_
  have x13 := (x1.trans x2).trans x3
  cases kk with
  | false => rw [if_neg Bool.false_ne_true]; exact ⟨H3, I3, k false F3 H3 x13 h3⟩
  | true =>
    rw [if_pos rfl]; refine (test_link (thn (hc.run pins s3 σ H3 (fun v H4 => ∃ F4 w, Ext F3 H3 F4 H4 ∧ Rp X.K F4 w v ∧ (q y w fun z => asB z fun k => if k = true then td δ fun v => t w v Qd else Qd (.bl false))) I3
      ⟨F0, B, F3, δ, _, S.mono x13, h3, fun v F4 H4 d x4 r4 q4 => ⟨F4, d, x4, r4, q4⟩⟩) fun w' s4 ⟨vw, H4, I4, rw4, F4, w, x4, rw, h4⟩ => ?_))
    refine thn (ho'.1 pins s4 σ H4 vy vw u w' (fun w5 H5 => ∃ F5 k, Ext F4 H4 F5 H5 ∧ w5 = .bl k ∧ (if k = true then td δ fun v => t w v Qd else Qd (.bl false))) I4 ru rw4
      (ho'.2 F4 H4 y w vy vw _ _ x4.s (ry.mono (x3.f.trans x4.f)) rw h4 fun w5 F5 H5 d x5 r5 q5 => ?_)) fun dv s5 ⟨z, H5, I5, r5, F5, kk, x5, e, h5⟩ => ?_
    · cases d with
      | bl c => exact ⟨F5, c, x5, r5.blI, q5⟩
      | _ => exact q5.elim
    subst e
    cases r5
    refine wpAny_truthy_bool ?_
    have x15 := (x13.trans x4).trans x5
    cases kk with
    | false => rw [if_neg Bool.false_ne_true]; exact ⟨H5, I5, k false F5 H5 x15 h5⟩
    | true =>
      rw [if_pos rfl]; refine (test_last (thn (hd.run pins s5 σ H5 (fun v H6 => ∃ F6 z, Ext F5 H5 F6 H6 ∧ Rp X.K F6 z v ∧ t w z Qd) I5
        ⟨F0, B, F5, δ, _, S.mono x15, h5, fun v F6 H6 d x6 r6 q6 => ⟨F6, d, x6, r6, q6⟩⟩) fun v6 s6 ⟨vz, H6, I6, rv6, F6, z, x6, rz, h6⟩ => ?_))
      refine thn (ho''.1 pins s6 σ H6 vw vz w' v6 (fun w7 H7 => ∃ F7 c, Ext F6 H6 F7 H7 ∧ w7 = .bl c ∧ Qb c) I6 rw4 rv6 (ho''.2 F6 H6 w z vw vz Qd _ x6.s (rw.mono (x5.f.trans x6.f)) rz h6 fun w7 F7 H7 d x7 r7 q7 => ?_)) fun dv s7 ⟨z, H7, I7, r7, F7, c, x7, e, h7⟩ => ?_
      · cases d with
        | bl c => exact ⟨F7, c, x7, r7.blI, q7⟩
        | _ => exact q7.elim
      subst e
      cases r7
      exact wpAny_truthy_bool ⟨H7, I7, k c F7 H7 ((x15.trans x6).trans x7) h7⟩
end
section
variable {K : PySem.W.Frag} {F : Hp}
theorem zipD_get {ds es : List D} {i : Nat} {d e : D} (h : ds[i]? = some d) (g : es[i]? = some e) : (zipD ds es)[i]? = some (.tup [d, e]) := by
  unfold zipD
  rw [List.getElem?_zipWith, h, g]
theorem zipD_len (ds es : List D) : (zipD ds es).length = min ds.length es.length := by
  unfold zipD; simp
theorem itd_zipL {a b : Addr} {xs ys : List V} {ds es : List D} (h : SqL K F a xs) (r : RpL K F ds xs) (h' : SqL K F b ys) (r' : RpL K F es ys) : ItD K F (Itz K a b) (zipD ds es) := by
  have hl := r.len
  have hl' := r'.len
  refine ⟨fun i F1 H1 s1 s2 hi => ?_, fun i F1 H1 x H2 s1 s2 hi hy => ?_, fun F1 H1 s1 s2 => ⟨xs, ys, s2.seq (s1.seq h), s2.seq (s1.seq h'), by rw [zipD_len]; omega⟩⟩
  · rw [zipD_len] at hi
    obtain ⟨v, e, _⟩ := r.get (List.getElem?_eq_getElem (show i < ds.length by omega))
    obtain ⟨v', e', _⟩ := r'.get (List.getElem?_eq_getElem (show i < es.length by omega))
    exact ⟨xs, ys, v, v', s2.seq (s1.seq h), s2.seq (s1.seq h'), e, e'⟩
  · rw [zipD_len] at hi
    obtain ⟨v, e, rv⟩ := r.get (List.getElem?_eq_getElem (show i < ds.length by omega))
    obtain ⟨v', e', rv'⟩ := r'.get (List.getElem?_eq_getElem (show i < es.length by omega))
    obtain ⟨T, y, y', rfl, hT, rfl, hy, hy'⟩ := hy
    have := hy xs (s2.seq (s1.seq h))
    rw [e] at this; cases this
    have := hy' ys (s2.seq (s1.seq h'))
    rw [e'] at this; cases this
    have x1 := Ext.new s2 (o := .tup [v, v']) hT
    exact ⟨_, _, x1, zipD_get (List.getElem?_eq_getElem (by omega)) (List.getElem?_eq_getElem (by omega)), .tup upd_same (.cons ((rv.mono s1).mono x1.f) (.cons ((rv'.mono s1).mono x1.f) .nil))⟩
theorem itd_zipT {a b : Addr} {xs ys : List V} {ds es : List D} (h : SqT K F a xs) (r : RpL K F ds xs) (h' : SqT K F b ys) (r' : RpL K F es ys) : ItD K F (ItzT K a b) (zipD ds es) := by
  have hl := r.len
  have hl' := r'.len
  refine ⟨fun i F1 H1 s1 s2 hi => ?_, fun i F1 H1 x H2 s1 s2 hi hy => ?_, fun F1 H1 s1 s2 => ⟨xs, ys, sameT s2 (sameT s1 h), sameT s2 (sameT s1 h'), by rw [zipD_len]; omega⟩⟩
  · rw [zipD_len] at hi
    obtain ⟨v, e, _⟩ := r.get (List.getElem?_eq_getElem (show i < ds.length by omega))
    obtain ⟨v', e', _⟩ := r'.get (List.getElem?_eq_getElem (show i < es.length by omega))
    exact ⟨xs, ys, v, v', sameT s2 (sameT s1 h), sameT s2 (sameT s1 h'), e, e'⟩
  · rw [zipD_len] at hi
    obtain ⟨v, e, rv⟩ := r.get (List.getElem?_eq_getElem (show i < ds.length by omega))
    obtain ⟨v', e', rv'⟩ := r'.get (List.getElem?_eq_getElem (show i < es.length by omega))
    obtain ⟨T, y, y', rfl, hT, rfl, hy, hy'⟩ := hy
    have := hy xs (sameT s2 (sameT s1 h))
    rw [e] at this; cases this
    have := hy' ys (sameT s2 (sameT s1 h'))
    rw [e'] at this; cases this
    have x1 := Ext.new s2 (o := .tup [v, v']) hT
    exact ⟨_, _, x1, zipD_get (List.getElem?_eq_getElem (by omega)) (List.getElem?_eq_getElem (by omega)), .tup upd_same (.cons ((rv.mono s1).mono x1.f) (.cons ((rv'.mono s1).mono x1.f) .nil))⟩
theorem itd_revL {a : Addr} {xs : List V} {ds : List D} (h : SqL K F a xs) (r : RpL K F ds xs) : ItD K F (Itv K a xs.length) ds.reverse := by
  have hl := r.len
  refine ⟨fun i F1 H1 s1 s2 hi => ?_, fun i F1 H1 x H2 s1 s2 hi hy => ?_, fun F1 H1 s1 s2 => by show xs.length ≤ _; rw [List.length_reverse]; omega⟩
  · rw [List.length_reverse] at hi
    obtain ⟨v, e, _⟩ := r.get (List.getElem?_eq_getElem (show xs.length - 1 - i < ds.length by omega))
    exact ⟨by omega, xs, v, s2.seq (s1.seq h), e⟩
  · rw [List.length_reverse] at hi
    obtain ⟨v, e, rv⟩ := r.get (List.getElem?_eq_getElem (show xs.length - 1 - i < ds.length by omega))
    obtain ⟨rfl, hy⟩ := hy
    have := hy xs (s2.seq (s1.seq h))
    rw [e] at this; cases this
    refine ⟨F1, _, .refl s2, ?_, rv.mono s1⟩
    rw [List.getElem?_reverse hi]
    simp only [← hl]
    exact List.getElem?_eq_getElem _
theorem itd_revT {a : Addr} {xs : List V} {ds : List D} (h : SqT K F a xs) (r : RpL K F ds xs) : ItD K F (ItvT K a xs.length) ds.reverse := by
  have hl := r.len
  refine ⟨fun i F1 H1 s1 s2 hi => ?_, fun i F1 H1 x H2 s1 s2 hi hy => ?_, fun F1 H1 s1 s2 => by show xs.length ≤ _; rw [List.length_reverse]; omega⟩
  · rw [List.length_reverse] at hi
    obtain ⟨v, e, _⟩ := r.get (List.getElem?_eq_getElem (show xs.length - 1 - i < ds.length by omega))
    exact ⟨by omega, xs, v, sameT s2 (sameT s1 h), e⟩
  · rw [List.length_reverse] at hi
    obtain ⟨v, e, rv⟩ := r.get (List.getElem?_eq_getElem (show xs.length - 1 - i < ds.length by omega))
    obtain ⟨rfl, hy⟩ := hy
    have := hy xs (sameT s2 (sameT s1 h))
    rw [e] at this; cases this
    refine ⟨F1, _, .refl s2, ?_, rv.mono s1⟩
    rw [List.getElem?_reverse hi]
    simp only [← hl]
    exact List.getElem?_eq_getElem _
end
section
variable {X : Cx} {e e2 : Expr} {te t2 : Ex} {p pos tpos : Pos} {elts : List Expr} {kk : Nat} {tg : Expr}
theorem qi_rev (hm : X.mg "reversed" = none) (ha : QE X e te) (hg : Gl X "reversed" := by rfl) (hse : starEach [e] X.env = (false, eval e X.env) :: starEach [] X.env := by rfl) : QI X tg (.Call (.Name "reversed" p) [e] [] pos) (iRev te) :=
  imp_PI (pi_revA hg hm ha hse) fun σ H R h => by
    obtain ⟨F0, B, F, δ, Qd, S, h, k⟩ := h
    refine ⟨F0, B, F, δ, _, S, h, fun v F1 H1 d x1 r1 q1 => ?_⟩
    cases d with
    | tup xs =>
      obtain ⟨a, vs, rfl, h1, h2⟩ := r1.tupI
      exact ⟨a, vs, rfl, .inr ⟨sameT x1.s h1, k _ _ F1 H1 x1 (itd_revT h1 h2) q1⟩⟩
    | lst xs =>
      obtain ⟨a, vs, rfl, h1, h2⟩ := r1.lstI
      exact ⟨a, vs, rfl, .inl ⟨x1.s.seq h1, k _ _ F1 H1 x1 (itd_revL h1 h2) q1⟩⟩
    | _ => exact q1.elim
end
section
variable {X : Cx} {pos : Pos} {e b : Expr} {te tb : Ex}
theorem set_self {σ : L2.St} {i : Nat} {v : V} (h : σ[i]? = some (some v)) : σ.set i (some v) = σ := by
  apply List.ext_getElem?
  intro j
  by_cases hj : i = j
  · subst hj
    rw [List.getElem?_set_self (List.getElem?_eq_some_iff.mp h).1, h]
  · rw [List.getElem?_set_ne hj]
theorem get_list : PGet X (rIxL X.K) := by
  intro pins s σ H x y v u Q I rx ry h
  obtain ⟨p, xs, i, z, rfl, rfl, hq, he, q⟩ := h
  cases rx
  obtain ⟨t, rfl⟩ := ry
  obtain ⟨its, r, pl, hz⟩ := I.list hq
  obtain ⟨j, h1, h2, h3, h4, h5⟩ := atI_get he
  obtain ⟨w, ew, rw'⟩ := r.get h2
  have hl := r.length
  have hn := line63
  have fin : EP X pins σ Q w s := ⟨z, H, I, rw', q⟩
  by_cases h0 : 0 ≤ i
  · have hj : i.toNat = j := by
      rw [seqIndex_of h0 h5] at h1
      exact Option.some.inj h1
    exact wpAny_getItem_list pl.isList h0 (by omega) (by rw [hj]; simpa using ew) fin
  · have hj : (i + (its.toArray.size : Int)).toNat = j := by
      rw [seqIndex_neg (by omega) h4] at h1
      rw [List.size_toArray, ← hl]
      exact Option.some.inj h1
    exact wpAny_getItem_list_neg pl.isList (by omega) (by rw [List.size_toArray] <;> omega) (by omega) (by rw [hj]; simpa using ew) fin
/-- x[b] op= e, x owned -/
theorem qs_augS (i : Nat) {x : Str} {op : Operator} {r : R2} {p : Op2} {px tpos : Pos} (ho : OpR X (inplaceOp op) r ∧ V2 X.K r p) (hb : QE X b tb) (he : QE X e te) (hi : X.N[i]? = some x := by rfl) (hv : Vis X.env.scope x := by first | exact Or.inl rfl | exact Or.inr (Or.inl rfl) | exact Or.inr (Or.inr rfl)) (hd : (x == ("__debug__" : Str)) = false := by decide)
    (hcd : (x == ("__classdict__" : Str)) = false := by decide)
    (ha : ∀ ov iv new, augStore b ov iv new = (do holding [new, ov, iv] (setItem ov iv new); release [new, ov, iv] []; pure .next) := by intros; rfl) :
    QS X (.AugAssign (.Subscript (.Name x px) b tpos) op e pos) (sAugS i p tb te) :=
  imp_PS (ps_augS (tip := r) (pv i hi hv hd hcd) hb get_list he (fun pins s σ H x y v u Q I rx ry q => ho.1 pins s σ H x y v u Q I rx ry q) set_list ha) fun D σ H h => by
    obtain ⟨F0, B, F, δ, E, S, h, k⟩ := h
    unfold sAugS asOwn at h
    split at h
    · rename_i a ds eg
      obtain ⟨g1, g2, g3, xs, g4, g5⟩ := S.own i a ds eg
      refine ⟨.ref a, g1, F0, B, F, δ, _, S, h, fun w F2 H2 z x2 r2 q2 => ?_⟩
      cases z with
      | int c =>
        obtain ⟨j, d, q2, q3, q4⟩ := q2
        obtain ⟨v, v1, v2⟩ := g5.get q3
        have ea : atI xs c = some v := by
          unfold atI
          rw [g5.len, ixP_eq, q2]; exact v1
        refine ⟨a, xs, c, v, rfl, r2.intI, .of (x2.h.at g4), ea, F0, B, F2, δ, _, S.mono x2, q4, fun u F3 H3 y x3 r3 q5 => ?_⟩
        refine ho.2 F3 H3 d y v u _ _ x3.s ((v2.mono x2.f).mono x3.f) r3 q5 fun nw F4 H4 nd x4 r4 q6 => ?_
        have x23 := (x2.trans x3).trans x4
        have g4' := x23.h.at g4
        have g3' : F4 a = none := x23.n a (by rw [g4]; simp) g3
        refine ⟨a, xs, c, j, rfl, r2.intI, g4', by rw [g5.len]; exact q2, ?_⟩
        have S1 := S.mono x23
        have S2 := S1.setOwn (i := i) (a := a) (ds := ds.set j nd) (xs := xs.set j nw) g2 g3' (fun j hj z => hj (S.nd j i a z (at_own eg))) ((g5.mono x23.f).set j r4) rfl
        refine k.nx F4 _ _ _ x23.f ?_ q6
        rw [set_self g1] at S2
        exact S2
      | _ => exact q2.elim
    · exact h.elim
end
end PL

set_option Elab.async false
set_option linter.all false
set_option maxRecDepth 100000
/-! PLS19: zip of lists and tuples in any mix. -/
namespace PL
variable [Tabs]
open PySem PySem.Spec PySem.W PyProof.Rows L2
section
/-! zip of a list and a tuple, any mix -/
def SqK (K : PySem.W.Frag) (k : Bool) (H : Hp) (a : Addr) (xs : List V) : Prop := match k with | true => SqL K H a xs | false => SqT K H a xs
def IqK (k : Bool) (h : Heap) (it l : Addr) (i : Nat) : Prop := match k with | true => h.IsListIter it l i | false => h.IsTupleIter it l i
def HqK (k : Bool) (h : Heap) (l : Addr) (items : Array Value) : Prop := match k with | true => h.IsList l items | false => h.IsTuple l items
abbrev bObj (k : Bool) (t : Addr) : Obj := match k with | true => { cls := .type "list_iterator", data := .fields #[.ref t, .int 0 0] } | false => { cls := .type "tuple_iterator", data := .fields #[.ref t, .int 0 0] }
theorem drawsK {prog : Program} {w : World} {A : Around} (k : Bool) (hh : A.handled = none) (it l : Addr) (hne : l ≠ it) (items : Array Value) :
    Draws prog w A it [it, l] items.size (fun i v => items[i]? = some v) (fun i h => IqK k h it l i ∧ HqK k h l items) := by
  cases k
  · exact Draws.tuple hh it l hne items
  · exact Draws.list hh it l hne items
theorem beginsK (k : Bool) (l : Addr) (items : Array Value) : Begins (.ref l) (bObj k l) fun h => HqK k h l items := by
  cases k
  · exact begins_tuple l items
  · exact begins_list l items
theorem IqK.init {k : Bool} {h : Heap} {it l : Addr} (e : h.get? it = some (bObj k l)) : IqK k h it l 0 := by
  cases k
  · exact ⟨_, e, rfl, rfl⟩
  · exact ⟨_, e, rfl, rfl⟩
theorem IqK.look {k : Bool} {h : Heap} {it l : Addr} {i : Nat} (e : IqK k h it l i) : ∃ o, h.get? it = some o ∧ (∀ v, o.data ≠ .cell v) ∧ (o.cls = .type "list_iterator" ∨ o.cls = .type "tuple_iterator") ∧ ∀ h' : Heap, h'.get? it = some o → IqK k h' it l i := by
  cases k
  · obtain ⟨o, a, b, c⟩ := e
    exact ⟨o, a, (fun v z => by rw [c] at z; cases z), .inr b, fun h' x => ⟨o, x, b, c⟩⟩
  · obtain ⟨o, a, b, c⟩ := e
    exact ⟨o, a, (fun v z => by rw [c] at z; cases z), .inl b, fun h' x => ⟨o, x, b, c⟩⟩
theorem HqK.ne {k m : Bool} {h : Heap} {a it l : Addr} {i : Nat} {items : Array Value} (e : IqK k h it l i) (g : HqK m h a items) : a ≠ it := by
  rintro rfl
  obtain ⟨o, ho, _, hc, _⟩ := e.look
  cases m
  · obtain ⟨o', ho', hc', _⟩ := g
    rw [ho] at ho'; cases ho'
    rcases hc with hc | hc <;> (rw [hc] at hc'; exact absurd hc' (by decide))
  · obtain ⟨o', ho', hc', _⟩ := g
    rw [ho] at ho'; cases ho'
    rcases hc with hc | hc <;> (rw [hc] at hc'; exact absurd hc' (by decide))
theorem invK {X : Cx} {pins : List (Addr × Obj)} {σ : L2.St} {H : Hp} {s : Shared} {k : Bool} {a : Addr} {xs : List V} (I : Inv X pins σ H s) (h : SqK X.K k H a xs) : ∃ its : List Value, Vals xs its ∧ HqK k s.heap a its.toArray ∧ ∀ ys, SqK X.K k H a ys → ys = xs := by
  cases k
  · obtain ⟨its, rv, p, _⟩ := I.tuple h
    exact ⟨its, rv, p, fun ys q => I.tuple_inj q h⟩
  · obtain ⟨its, rv, p, _⟩ := I.list h
    exact ⟨its, rv, p.isList, fun ys q => I.list_inj q h⟩
end
section
def ItzM (K : PySem.W.Frag) (k m : Bool) (a b : Addr) : It :=
  { go := fun i H => ∃ (xs ys : List V) (x y : V), (SqK K k H a xs ∧ xs[i]? = some x) ∧ SqK K m H b ys ∧ ys[i]? = some y
    yld := fun i H v H' => ∃ T x y, v = .ref T ∧ H T = none ∧ H' = upd H T (.tup [x, y]) ∧ (∀ xs, SqK K k H a xs → xs[i]? = some x) ∧ (∀ ys, SqK K m H b ys → ys[i]? = some y)
    stop := fun i H => ∃ xs ys : List V, SqK K k H a xs ∧ SqK K m H b ys ∧ i = min xs.length ys.length }
abbrev StM (k m : Bool) (a b z TI TO i1 i2 : Addr) : Nat → Heap → Prop := fun i h => (IsZip h z TI TO .none ∧ IsTupOf2 h TI (.ref i1) (.ref i2)) ∧ (∃ x y, IsTupOf2 h TO x y) ∧ IqK k h i1 a i ∧ IqK m h i2 b i
theorem mem5 {c z TI TO i1 i2 : Addr} (h : c ∈ [z, TI, TO, i1, i2]) : c = z ∨ c = TI ∨ c = TO ∨ c = i1 ∨ c = i2 := by simpa using h
theorem not5 {c z TI TO i1 i2 : Addr} (h : c ∉ [z, TI, TO, i1, i2]) : c ≠ z ∧ c ≠ TI ∧ c ≠ TO ∧ c ≠ i1 ∧ c ≠ i2 := by simpa using h
theorem live5 {k m : Bool} {a b z TI TO i1 i2 : Addr} {i : Nat} {h : Heap} (st : StM k m a b z TI TO i1 i2 i h) {c : Addr} (hc : c ∈ [z, TI, TO, i1, i2]) : ∃ o, h.get? c = some o ∧ ∀ v, o.data ≠ .cell v := by
  obtain ⟨⟨hz, hI⟩, ⟨x, y, hO⟩, s1, s2⟩ := st
  rcases mem5 hc with e | e | e | e | e <;> subst e
  · exact ⟨_, hz, fun v q => by cases q⟩
  · exact ⟨_, hI, fun v q => by cases q⟩
  · exact ⟨_, hO, fun v q => by cases q⟩
  · cases k <;> (obtain ⟨o, q1, _, q3⟩ := s1; exact ⟨o, q1, fun v q => by rw [q3] at q; cases q⟩)
  · cases m <;> (obtain ⟨o, q1, _, q3⟩ := s2; exact ⟨o, q1, fun v q => by rw [q3] at q; cases q⟩)
theorem sepOf {k m : Bool} {a b z TI TO i1 i2 : Addr} {i : Nat} {h : Heap} {xs ys : Array Value} (D : ZipSep2 z TI TO i1 i2 [i1] [i2]) (st : StM k m a b z TI TO i1 i2 i h) (ha : HqK k h a xs) (hb : HqK m h b ys) (ea : a ≠ z) (eb : b ≠ z) (ga : a ≠ TO) (gb : b ≠ TO) : ZipSep2 z TI TO i1 i2 [i1, a] [i2, b] := by
  obtain ⟨_, _, s1, s2⟩ := st
  have n12 : a ≠ i2 := HqK.ne s2 ha
  have n21 : b ≠ i1 := HqK.ne s1 hb
  have z1 : z ≠ i1 := by simpa using D.zf1
  have z2 : z ≠ i2 := by simpa using D.zf2
  have t1 : TO ≠ i1 := by simpa using D.Tf1
  have t2 : TO ≠ i2 := by simpa using D.Tf2
  have u1 : i1 ≠ i2 := by simpa using D.sep1_2
  exact { TIz := D.TIz, TOz := D.TOz, TITO := D.TITO, TIi1 := D.TIi1, mem1 := by simp, zf1 := by simp [z1, ea.symm], Tf1 := by simp [t1, ga.symm], TIi2 := D.TIi2, mem2 := by simp, zf2 := by simp [z2, eb.symm], Tf2 := by simp [t2, gb.symm], sep1_2 := by simp [u1, n21.symm], sep2_1 := by simp [u1.symm, n12.symm] }
theorem HqK.lt {k : Bool} {h : Heap} {a : Addr} {xs : Array Value} (e : HqK k h a xs) : a < h.objs.size := by
  cases k <;> (obtain ⟨o, ho, _⟩ := e; exact Heap.lt_size ho)
theorem turn_zipM {P : Program} {w : World} {K : PySem.W.Frag} {elts : List PySem.Expr} {kk : Nat} {tpos : Pos} {k m : Bool} {a b z TI TO i1 i2 : Addr} (D : ZipSep2 z TI TO i1 i2 [i1] [i2]) (ea : a ≠ z) (eb : b ≠ z) (ga : a ≠ TO) (gb : b ≠ TO) :
    Turn P w K (.Tuple elts kk tpos) (ItzM K k m a b) [z, TI, TO, i1, i2] z (StM k m a b z TI TO i1 i2) := by
  refine ⟨List.mem_cons_self, fun i h st c hc => live5 st hc, ?_, ?_, ?_, ?_⟩
  · rintro i h h' ⟨⟨hz, hI⟩, ⟨x, y, hO⟩, s1, s2⟩ hk
    obtain ⟨o1, e1, _, _, f1⟩ := s1.look
    obtain ⟨o2, e2, _, _, f2⟩ := s2.look
    exact ⟨⟨hk z (by simp) _ hz, hk TI (by simp) _ hI⟩, ⟨x, y, hk TO (by simp) _ hO⟩, f1 h' (hk i1 (by simp) _ e1), f2 h' (hk i2 (by simp) _ e2)⟩
  · intro X hP hw hK hcalm i pins s σ H E I hfp st hg
    subst hP hw hK
    obtain ⟨xs, ys, x, y, ⟨hx, gx⟩, hy, gy⟩ := hg
    obtain ⟨us, rus, pu, ju⟩ := invK I hx
    obtain ⟨vs, rvs, pv, jv⟩ := invK I hy
    have S := sepOf D st pu pv ea eb ga gb
    have n1 : a ≠ i1 := HqK.ne st.2.2.1 pu
    have n2 : b ≠ i2 := HqK.ne st.2.2.2 pv
    obtain ⟨u, hu, ru⟩ := rus.get gx
    obtain ⟨v, hv, rv⟩ := rvs.get gy
    obtain ⟨⟨hz, hI⟩, ⟨x0, y0, hO⟩, s1, s2⟩ := id st
    have lu : i < us.toArray.size := by
      have := (List.getElem?_eq_some_iff.mp hu).1
      simpa using this
    have lv : i < vs.toArray.size := by
      have := (List.getElem?_eq_some_iff.mp hv).1
      simpa using this
    refine wpAny_pyNext_zipD2_item S (drawsK (A := X.A.in1) k (I.ok.hd hcalm) i1 a n1 us.toArray) (drawsK (A := X.A.in1) m (I.ok.hd hcalm) i2 b n2 vs.toArray) hz hI hO ⟨s1, pu⟩ ⟨s2, pv⟩ lu lv fun p q h' tk hp hq z' O' t1 t2 T' hsz hk => ⟨_, rfl, ?_⟩
    have ep : p = u := by
      have : us.toArray[i]? = some u := by simpa using hu
      rw [this] at hp; exact (Option.some.inj hp).symm
    have eq' : q = v := by
      have : vs.toArray[i]? = some v := by simpa using hv
      rw [this] at hq; exact (Option.some.inj hq).symm
    subst ep; subst eq'
    refine wpAny_letOwnedTupleGo_zip (s := { s with heap := h', toks := tk }) z' fun h'' z'' sb => ?_
    have lz : z < s.heap.objs.size := Heap.lt_size hz
    have hT : h''.get? s.heap.objs.size = some { cls := .type "tuple", data := .seq #[p, q] } := (sb.2 _ (Nat.ne_of_gt lz)).trans T'
    have okT : ObjOk X.prog X.w (upd H s.heap.objs.size (.tup [x, y])) h'' s.heap.objs.size (.tup [x, y]) :=
      ⟨by show 2 ≤ sizeLine; decide, [p, q], .cons ru (.cons rv .nil), _, hT, rfl, _, rfl⟩
    refine ⟨.ref s.heap.objs.size, _, I.turnedNew (ch := [z, TI, TO, i1, i2]) (fun c o nb hc => ?_) hfp (Nat.le_refl _) okT, rfl, ⟨_, x, y, rfl, I.fresh, rfl, fun zs hzs => by rw [ju zs hzs]; exact gx, fun zs hzs => by rw [jv zs hzs]; exact gy⟩, ?_, fun c hc => ?_⟩
    · obtain ⟨c1, c2, c3, c4, c5⟩ := not5 nb
      exact (sb.2 c c1).trans (hk c o c1 c3 c4 c5 hc)
    · have z1 : i1 ≠ z := fun e => S.zf1 (by simp [e])
      have z2 : i2 ≠ z := fun e => S.zf2 (by simp [e])
      obtain ⟨o1, e1, _, _, f1⟩ := t1.1.look
      obtain ⟨o2, e2, _, _, f2⟩ := t2.1.look
      exact ⟨⟨z'', (sb.2 _ S.TIz).trans (hk _ _ S.TIz S.TITO S.TIi1 S.TIi2 hI)⟩, ⟨p, q, (sb.2 _ S.TOz).trans O'⟩, f1 h'' ((sb.2 _ z1).trans e1), f2 h'' ((sb.2 _ z2).trans e2)⟩
    · obtain ⟨o, ho, _⟩ := live5 st hc
      rw [upd_ne (Nat.ne_of_lt (Heap.lt_size ho))]
      exact (hfp c hc).1
  · intro X hP hw hK hcalm i pins s σ H E I hfp st hg
    subst hP hw hK
    obtain ⟨xs, ys, hx, hy, hi⟩ := hg
    obtain ⟨us, rus, pu, ju⟩ := invK I hx
    obtain ⟨vs, rvs, pv, jv⟩ := invK I hy
    have S := sepOf D st pu pv ea eb ga gb
    have n1 : a ≠ i1 := HqK.ne st.2.2.1 pu
    have n2 : b ≠ i2 := HqK.ne st.2.2.2 pv
    obtain ⟨⟨hz, hI⟩, ⟨x0, y0, hO⟩, s1, s2⟩ := id st
    have l1 := rus.length
    have l2 := rvs.length
    refine wpAny_pyNext_zipD2_end S (drawsK (A := X.A.in1) k (I.ok.hd hcalm) i1 a n1 us.toArray) (drawsK (A := X.A.in1) m (I.ok.hd hcalm) i2 b n2 vs.toArray) hz hI hO ⟨s1, pu⟩ ⟨s2, pv⟩ (by rw [List.size_toArray]; omega) (by rw [List.size_toArray]; omega) (by simp only [List.size_toArray]; omega) fun h' tk hk => ⟨rfl, I.turnedL (ch := [z, TI, TO, i1, i2]) (fun c o nb hc => ?_) hfp⟩
    obtain ⟨c1, c2, c3, c4, c5⟩ := not5 nb
    exact hk c o c1 c3 c4 c5 hc
  · intro A i s Q E st hq
    exact wpAny_pyIter_zip st.1.1 hq
def iZipM (K : PySem.W.Frag) (ta : TA) : TI := fun σ H R => ta σ H fun vs H1 => ∃ k m a b xs ys, vs = [.ref a, .ref b] ∧ SqK K k H1 a xs ∧ SqK K m H1 b ys ∧ R (ItzM K k m a b) H1
theorem pi_zipM {X : Cx} {e e2 : PySem.Expr} {ta : TA} {p pos tpos : Pos} {elts : List PySem.Expr} {kk : Nat} (hg : Gl X "zip") (hm : X.mg "zip" = none) (ha : PA X [e, e2] ta)
    (hs : starEach [e, e2] X.env = (false, eval e X.env) :: starEach [e2] X.env) (hpl : (backTo pos (starEach [e2] X.env)).any (·.1) = false) :
    PI X (.Tuple elts kk tpos) (.Call (.Name "zip" p) [e, e2] [] pos) (iZipM X.K ta) := by
  refine ⟨fun pins s σ H R I h => Call_ (ld_blt I hg hm PyProof.Rows.boot_zip (PyProof.Rows.callWith_type1 (thn (ha.run pos pins s σ H _ I h) fun us s1 hu => ?_) hs hpl))⟩
  obtain ⟨vs, H1, I1, rr, k, m, a, b, xs, ys, ev, hx, hy, q⟩ := hu
  subst ev
  cases rr with
  | cons r1 rr =>
  cases rr with
  | cons r2 rr =>
  cases rr
  cases r1
  cases r2
  obtain ⟨us, rus, pu, ju⟩ := invK I1 hx
  obtain ⟨vs, rvs, pv, jv⟩ := invK I1 hy
  have la := pu.lt
  have lb := pv.lt
  refine zip_begins2 (beginsK k a us.toArray) (beginsK m b vs.toArray) pu pv fun h' hz hI hO h1 h2 hsz hk => ?_
  have g : ∀ j, s1.heap.objs.size + j ∈ [s1.heap.objs.size + 4, s1.heap.objs.size + 2, s1.heap.objs.size + 3, s1.heap.objs.size, s1.heap.objs.size + 1] → FpOk X pins H1 (s1.heap.objs.size + j) := fun j _ => I1.fpOk (Nat.le_add_right _ _) (I1.hok.fresh (Nat.le_add_right _ _))
  refine wpAny_pyIter_zip hz ⟨_, [s1.heap.objs.size + 4, s1.heap.objs.size + 2, s1.heap.objs.size + 3, s1.heap.objs.size, s1.heap.objs.size + 1], _, _, H1, rfl, I1.kept (t' := s1.toks) hk, turn_zipM (zip_sep2 (fp1 := []) (fp2 := []) (by simp) (by simp)) (Nat.ne_of_lt (Nat.lt_of_lt_of_le la (Nat.le_add_right _ _))) (Nat.ne_of_lt (Nat.lt_of_lt_of_le lb (Nat.le_add_right _ _))) (Nat.ne_of_lt (Nat.lt_of_lt_of_le la (Nat.le_add_right _ _))) (Nat.ne_of_lt (Nat.lt_of_lt_of_le lb (Nat.le_add_right _ _))), ⟨⟨hz, hI⟩, ⟨_, _, hO⟩, .init h1, .init h2⟩, fun c hc => ?_, q⟩
  rcases mem5 hc with e | e | e | e | e
  · rw [e]; exact g 4 (by simp)
  · rw [e]; exact g 2 (by simp)
  · rw [e]; exact g 3 (by simp)
  · rw [e]; exact g 0 (by simp)
  · rw [e]; exact g 1 (by simp)
end
section
variable {K : PySem.W.Frag} {F : Hp}
theorem SqK.up {F1 F2 : Hp} {k : Bool} {a : Addr} {xs : List V} (s : Same F1 F2) (h : SqK K k F1 a xs) : SqK K k F2 a xs := by
  cases k
  · exact sameT s h
  · exact s.seq h
theorem itd_zipM {k m : Bool} {a b : Addr} {xs ys : List V} {ds es : List D} (h : SqK K k F a xs) (r : RpL K F ds xs) (h' : SqK K m F b ys) (r' : RpL K F es ys) : ItD K F (ItzM K k m a b) (zipD ds es) := by
  have hl := r.len
  have hl' := r'.len
  refine ⟨fun i F1 H1 s1 s2 hi => ?_, fun i F1 H1 x H2 s1 s2 hi hy => ?_, fun F1 H1 s1 s2 => ⟨xs, ys, (h.up s1).up s2, (h'.up s1).up s2, by rw [zipD_len]; omega⟩⟩
  · rw [zipD_len] at hi
    obtain ⟨v, e, _⟩ := r.get (List.getElem?_eq_getElem (show i < ds.length by omega))
    obtain ⟨v', e', _⟩ := r'.get (List.getElem?_eq_getElem (show i < es.length by omega))
    exact ⟨xs, ys, v, v', ⟨(h.up s1).up s2, e⟩, (h'.up s1).up s2, e'⟩
  · rw [zipD_len] at hi
    obtain ⟨v, e, rv⟩ := r.get (List.getElem?_eq_getElem (show i < ds.length by omega))
    obtain ⟨v', e', rv'⟩ := r'.get (List.getElem?_eq_getElem (show i < es.length by omega))
    obtain ⟨T, y, y', rfl, hT, rfl, hy, hy'⟩ := hy
    have := hy xs ((h.up s1).up s2)
    rw [e] at this; cases this
    have := hy' ys ((h'.up s1).up s2)
    rw [e'] at this; cases this
    have x1 := Ext.new s2 (o := .tup [v, v']) hT
    exact ⟨_, _, x1, zipD_get (List.getElem?_eq_getElem (by omega)) (List.getElem?_eq_getElem (by omega)), .tup upd_same (.cons ((rv.mono s1).mono x1.f) (.cons ((rv'.mono s1).mono x1.f) .nil))⟩
theorem seqK {d : D} {v : V} {Q : List D → Prop} (r : Rp K F d v) (h : asSeq d Q) : ∃ k a xs ds, v = .ref a ∧ SqK K k F a xs ∧ RpL K F ds xs ∧ Q ds := by
  cases d with
  | tup ds =>
    obtain ⟨a, xs, rfl, h1, h2⟩ := r.tupI
    exact ⟨false, a, xs, ds, rfl, h1, h2, h⟩
  | lst ds =>
    obtain ⟨a, xs, rfl, h1, h2⟩ := r.lstI
    exact ⟨true, a, xs, ds, rfl, h1, h2, h⟩
  | _ => exact h.elim
end
section
variable {X : Cx} {e e2 : PySem.Expr} {te t2 : Ex} {p pos tpos : Pos} {elts : List PySem.Expr} {kk : Nat}
theorem qi_zipM (hm : X.mg "zip" = none) (ha : QE X e te) (hb : QE X e2 t2) (hg : Gl X "zip" := by rfl) (hse : starEach [e, e2] X.env = (false, eval e X.env) :: starEach [e2] X.env := by rfl) (hse2 : starEach [e2] X.env = (false, eval e2 X.env) :: starEach [] X.env := by rfl)
    (hpl : (backTo pos (starEach [e2] X.env)).any (·.1) = false := by rfl) : QI X (.Tuple elts kk tpos) (.Call (.Name "zip" p) [e, e2] [] pos) (iZipX te t2) :=
  imp_PI (pi_zipM hg hm (pa_cons ha (pa_cons hb pa_nil hse2) hse) hse hpl) fun σ H R h => by
    obtain ⟨F0, B, F, δ, Qd, S, h, k⟩ := h
    refine ⟨F0, B, F, δ, _, S, h, fun v F1 H1 d x1 r1 q1 => ⟨F0, B, F1, δ, _, S.mono x1, q1, fun u F2 H2 d2 x2 r2 q2 => ?_⟩⟩
    obtain ⟨kk, a, xs, ds, rfl, h1, h2, q3⟩ := seqK (r1.mono x2.f) q2
    obtain ⟨mm, b, ys, es, rfl, g1, g2, q4⟩ := seqK r2 q3
    exact ⟨kk, mm, a, b, xs, ys, rfl, h1.up x2.s, g1.up x2.s, k _ _ F2 H2 (x1.trans x2) (itd_zipM h1 h2 g1 g2) q4⟩
end
/-! ### defs that return new lists alone -/
def NewV (H : Hp) (v : V) : Prop := ∃ p, v = .ref p ∧ H p = none
def lspN (K : PySem.W.Frag) (p : Pm) : Sp := fun vs H Q _ => ∃ F ds Qd, SameT F H ∧ RpL K F ds vs ∧ p ds Qd ∧ ∀ v F' H' ds, Ext F H F' H' → NewV H v → Rp K F' (.lst ds) v → Qd (.lst ds) → Q v H'
theorem q_defN {P : Program} {w : World} {K : PySem.W.Frag} {mg : Str → Option Value} {base : Heap} {x qual : Str} {st : Stmt} {f : Addr} {fd : FuncData} {N ps : List Str} {k : Nat} {pm : Pm} {b : Sm} (F : Fun K x qual st f fd) (S : FnScope N ps (defScope st)) (n : Nat) (hn : N.length = n)
    (len : ∀ ds Q, pm ds Q → ds.length = ps.length)
    (walk : ∀ (cdv : Value) (A : Around) (outer : List Env) (s : Shared) (H : Hp) (E : XK), Room k (A.deeper (envOfC qual (defScope st) s.heap.objs.size f cdv)) → QSs (cxOf CX0 P w K mg base N qual (defScope st) f cdv A outer s H E).nox (defBody st) b)
    (pure_ : ∀ ds Q, pm ds Q → b (endsN Q) (startP n ds)) : FnOk P w K mg base CX0 (k + 1) f fd ps (lspN K pm) := by
  subst hn
  refine F.ok S (fun vs H Q E h => ?_) fun cdv A outer s H vs Q E hr h => ?_
  · obtain ⟨F, ds, Qd, _, r, h, _⟩ := h
    rw [r.len]; exact len ds Qd h
  · obtain ⟨F1, ds, Qd, sF, r, h, kk⟩ := h
    have hpl : ps.length ≤ N.length := by have := congrArg List.length S.pre; rw [List.length_take] at this; omega
    refine ⟨_, walk cdv A outer s H E hr, F1, H, F1, startP N.length ds, endsN Qd, SR.start sF r (by rw [r.len, len ds Qd h]; exact hpl), pure_ ds Qd h, fun F' H' σ' δ' s1 S1 h1 => h1.elim, fun F' H' σ' δ' s1 S1 h1 => h1.elim, fun F' H' σ' δ' s1 S1 h1 => h1.elim, fun F' H' v d s1 e1 r1 h1 => h1.elim, fun F' H' p xs ds s1 e1 b1 f1 h1 r1 q1 => ?_⟩
    obtain ⟨x2, s2⟩ := Ext.frzNew (K := K) e1 b1 f1 h1
    exact kk (.ref p) _ H' ds x2 ⟨p, rfl, b1⟩ (.lst (.of upd_same) (r1.mono s2)) q1
/-- a def that is there, keeps a promise and returns new lists -/
def CalN (P : Program) (w : World) (K : PySem.W.Frag) (mg : Str → Option Value) (base : Heap) (x : Str) (k : Nat) (ps : List Str) (pm : Pm) : Prop :=
  ∃ f fd, FnOk P w K mg base CX0 k f fd ps (lspN K pm) ∧ mg x = some (.ref f) ∧ PySem.W.keepIn K (.ref f) = true ∧ L2.Binds K fd ps [] ∧ FdAt K f fd
theorem CalN.cal {P : Program} {w : World} {K : PySem.W.Frag} {mg : Str → Option Value} {base : Heap} {x : Str} {k : Nat} {ps : List Str} {pm : Pm} (C : CalN P w K mg base x k ps pm) : Cal P w K mg base x k ps pm := by
  obtain ⟨f, fd, F, a, b, c⟩ := C
  refine ⟨f, fd, F.imp fun vs H Q E q => ?_, a, b, c⟩
  obtain ⟨F, ds, Qd, s, r, q, kk⟩ := q
  exact ⟨F, ds, Qd, s, r, q, fun v F' H' ds x _ r q => kk v F' H' _ x r q⟩
def lftN (K : PySem.W.Frag) (t : Ex) : TE := fun σ H Q => ∃ F0 B F δ Qd, SR K F0 B F H σ δ ∧ t δ Qd ∧ ∀ v F' H' ds, Ext F H F' H' → NewV H v → Rp K F' (.lst ds) v → Qd (.lst ds) → Q v H'
abbrev QN (X : Cx) (e : PySem.Expr) (t : Ex) : Prop := PE X e (lftN X.K t)
section
variable {X : Cx} {e : PySem.Expr} {es : List PySem.Expr} {pos p : Pos} {x : Str} {k : Nat} {ps : List Str} {pm : Pm} {t : Ar}
theorem NewV.grow {H H1 : Hp} {v : V} (g : Grow H H1) (n : NewV H1 v) : NewV H v := by
  obtain ⟨p, e, h⟩ := n
  exact ⟨p, e, g.free h⟩
theorem q_callN (C : CalN X.prog X.w X.K X.mg X.base x k ps pm) (hr : Room k X.A) (ha : QA X (e :: es) t) (hg : Gl X x := by rfl)
    (hdb : (x == ("__debug__" : Str)) = false := by decide) (he : starEach (e :: es) X.env = (false, eval e X.env) :: starEach es X.env := by rfl) (hpl : (backTo pos (starEach es X.env)).any (·.1) = false := by rfl) :
    QN X (.Call (.Name x p) (e :: es) [] pos) (eCall pm t) := by
  obtain ⟨f, fd, F, hm, hk, hb, _⟩ := C
  refine imp_PE (pe_call (E := E0) F hr hg hm hk hb .nil pass0 ha hdb he hpl) fun σ H Q h => ?_
  obtain ⟨F0, B, F, δ, Qd, S, h, kk⟩ := h
  refine ⟨F0, B, F, δ, _, S, h, fun vs F1 H1 ds x1 r1 q1 => ?_⟩
  show lspN X.K pm (vs ++ []) H1 Q E0
  rw [List.append_nil]
  exact ⟨F1, ds, Qd, ⟨x1.s, (S.tb.mono S.ext).mono x1⟩, r1, q1, fun v F' H' d x2 n2 r2 q2 => kk v F' H' d (x1.trans x2) (n2.grow x1.h) r2 q2⟩
theorem q_ofN {te : Ex} (h : QN X e te) : QE X e te := imp_PE h fun σ H Q h => by
  obtain ⟨F0, B, F, δ, Qd, S, h, kk⟩ := h
  exact ⟨F0, B, F, δ, Qd, S, h, fun v F' H' d x _ r q => kk v F' H' _ x r q⟩
/-- a list lent to a call that returns a new list -/
theorem q_lendN (i : Nat) {te : Ex} (h : QN X e te) : QE X e (eLendN i te) := imp_PE h fun σ H Q h => by
  obtain ⟨F0, B, F, δ, Qd, S, h, kk⟩ := h
  rcases S.lend i with ⟨F', S', a, xs, hF, hF', sF, hn⟩ | e
  · refine ⟨F0, B, F', _, _, S', h, fun v F1 H1 ds x1 n1 r1 q1 => ?_⟩
    have hb : ∀ b, b ≠ a → F b = none → H b ≠ none → F' b = none := fun b hb h1 _ => hn b hb h1
    refine kk v (less F1 a) H1 _ (Ext.less (xs := xs) hF sF hb x1) ?_ q1.2
    have ha : F1 a = some (.lst xs) := x1.f _ _ hF'
    obtain ⟨p, rfl, hp⟩ := n1
    obtain ⟨p', ys, e, h1, h2⟩ := r1.lstI
    cases e
    have hpa : p ≠ a := fun z => by
      have := S'.ext.s _ _ hF'
      rw [z] at hp
      rw [hp] at this
      cases this
    refine .lst ?_ (RpL.less ha q1.1 h2)
    rcases h1 with (h1 | ⟨o, h1⟩) | h1
    · exact .inl (.inl (by rw [less_ne hpa]; exact h1))
    · exact .inl (.inr ⟨o, by rw [less_ne hpa]; exact h1⟩)
    · exact .inr h1
  · rw [show eLendN i te δ Qd = te (frz1 δ i) (fun d => asLst d fun ds => noLL ds = true ∧ Qd (.lst ds)) from rfl] at h
    rw [e] at h
    exact ⟨F0, B, F, δ, _, S, h, fun v F1 H1 ds x1 n1 r1 q1 => kk v F1 H1 _ x1 r1 q1.2⟩
end
end PL

set_option Elab.async false
set_option linter.all false
set_option maxRecDepth 100000
/-! PLS20: list comprehensions of two clauses. -/
namespace PL
variable [Tabs]
open PySem PySem.Spec PyProof.Rows L2

/-- the heap grows, but for what stands at p -/
structure Ex1 (p : Addr) (F H F' H' : Hp) : Prop where
  f : Same F F'
  of : ∀ b o, b ≠ p → H b = some o → (∀ ps, o ≠ .tbl ps) → H' b = some o
  tb : ∀ P, P ≠ p → GxR.TabG H P → GxR.TabG H' P
  free : ∀ {b}, H' b = none → H b = none
  s : Same F' H'
  n : ∀ a, H a ≠ none → F a = none → F' a = none
theorem Ex1.refl {p : Addr} {F H : Hp} (s : Same F H) : Ex1 p F H F H := ⟨.refl _, fun _ _ _ h _ => h, fun _ _ h => h, fun h => h, s, fun _ _ h => h⟩
theorem Ex1.ext {p : Addr} {F H F1 H1 F2 H2 : Hp} (a : Ex1 p F H F1 H1) (b : Ext F1 H1 F2 H2) : Ex1 p F H F2 H2 :=
  ⟨a.f.trans b.f, fun c o h1 h2 n => b.h.of c o (a.of c o h1 h2 n) n, fun P h1 h2 => b.h.tb P (a.tb P h1 h2), fun e => a.free (b.h.free e), b.s, fun c h1 h2 => b.n c (fun z => h1 (a.free z)) (a.n c h1 h2)⟩
theorem Ex1.put {p : Addr} {F H F1 H1 : Hp} (a : Ex1 p F H F1 H1) (hF : F1 p = none) (o : HO) : Ex1 p F H F1 (upd H1 p o) :=
  ⟨a.f, fun c o h1 h2 n => by rw [upd_ne h1]; exact a.of c o h1 h2 n, fun P h1 h2 => by
    obtain ⟨ps, e, h3⟩ := a.tb P h1 h2
    exact ⟨ps, by rw [upd_ne h1]; exact e, h3⟩, fun {b} e => by
    by_cases hb : b = p
    · rw [hb, upd_same] at e; cases e
    · rw [upd_ne hb] at e; exact a.free e, fun b x e => by rw [upd_ne (ne_of_none e hF)]; exact a.s b x e, a.n⟩
def NoOwn (p : Addr) (δ : PSt) : Prop := ∀ j, slAt (gt δ j) ≠ some p
theorem NoOwn.st {p : Addr} {δ : PSt} (h : NoOwn p δ) {i : Nat} {d : D} : NoOwn p (st δ i (.val d)) := fun j e => h j (at_st rfl e)
theorem NoOwn.no {p : Addr} {δ : PSt} (h : NoOwn p δ) {i : Nat} : NoOwn p (PL.st δ i .no) := fun j e => h j (at_st rfl e)
theorem NoOwn.wp {p : Addr} {δ : PSt} (h : NoOwn p δ) : ∀ vs : List Nat, NoOwn p (wp δ vs)
  | [] => h
  | v :: vs => (NoOwn.wp h vs).no
mutual
theorem tg_noOwn {p : Addr} : ∀ {g : Tgt} {d : D} {δ : PSt} {P : PSt → Prop}, NoOwn p δ → tg g d δ P → tg g d δ fun δ' => P δ' ∧ NoOwn p δ'
  | .nm i, d, δ, P, h, q => by simp only [tg] at q ⊢; exact ⟨q, h.st⟩
  | .tp ts, .tup xs, δ, P, h, q => by simp only [tg] at q ⊢; exact tgL_noOwn h q
  | .tp _, .non, _, _, _, q => by simp only [tg] at q
  | .tp _, .bl _, _, _, _, q => by simp only [tg] at q
  | .tp _, .int _, _, _, _, q => by simp only [tg] at q
  | .tp _, .str _, _, _, _, q => by simp only [tg] at q
  | .tp ts, .lst xs, δ, P, h, q => by simp only [tg] at q ⊢; exact tgL_noOwn h q
theorem tgL_noOwn {p : Addr} : ∀ {ts : List Tgt} {ds : List D} {δ : PSt} {P : PSt → Prop}, NoOwn p δ → tgL ts ds δ P → tgL ts ds δ fun δ' => P δ' ∧ NoOwn p δ'
  | [], [], δ, P, h, q => by simp only [tgL] at q ⊢; exact ⟨q, h⟩
  | t :: ts, x :: xs, δ, P, h, q => by
    simp only [tgL] at q ⊢
    refine tg_imp (tg_noOwn h q) fun δ' ⟨q', h'⟩ => tgL_noOwn h' q'
  | [], _ :: _, _, _, _, q => by simp only [tgL] at q
  | _ :: _, [], _, _, _, q => by simp only [tgL] at q
theorem tg_imp : ∀ {g : Tgt} {d : D} {δ : PSt} {P Q : PSt → Prop}, tg g d δ P → (∀ δ', P δ' → Q δ') → tg g d δ Q
  | .nm i, d, δ, P, Q, q, h => by simp only [tg] at q ⊢; exact h _ q
  | .tp ts, .tup xs, δ, P, Q, q, h => by simp only [tg] at q ⊢; exact tgL_imp q h
  | .tp _, .non, _, _, _, q, _ => by simp only [tg] at q
  | .tp _, .bl _, _, _, _, q, _ => by simp only [tg] at q
  | .tp _, .int _, _, _, _, q, _ => by simp only [tg] at q
  | .tp _, .str _, _, _, _, q, _ => by simp only [tg] at q
  | .tp ts, .lst xs, δ, P, Q, q, h => by simp only [tg] at q ⊢; exact tgL_imp q h
theorem tgL_imp : ∀ {ts : List Tgt} {ds : List D} {δ : PSt} {P Q : PSt → Prop}, tgL ts ds δ P → (∀ δ', P δ' → Q δ') → tgL ts ds δ Q
  | [], [], δ, P, Q, q, h => by simp only [tgL] at q ⊢; exact h _ q
  | t :: ts, x :: xs, δ, P, Q, q, h => by
    simp only [tgL] at q ⊢
    exact tg_imp q fun δ' q' => tgL_imp q' h
  | [], _ :: _, _, _, _, q, _ => by simp only [tgL] at q
  | _ :: _, [], _, _, _, q, _ => by simp only [tgL] at q
end
section
variable {K : PySem.W.Frag}
theorem SR.mono1 {F0 B F H F' H' : Hp} {σ : L2.St} {δ : PSt} {p : Addr} (S : SR K F0 B F H σ δ) (hB : B p = none) (nd : NoOwn p δ) (e : Ex1 p F H F' H') : SR K F0 B F' H' σ δ := by
  refine S.heaps ⟨S.ext.f.trans e.f, ⟨fun b o h n => ?_, fun P h => ?_, fun h => S.ext.h.free (e.free h)⟩, e.s, fun a h1 h2 => ?_⟩ e.f (fun i a ds xs h h4 => ?_) fun i a k m o h h4 _ n => ?_
  · exact e.of b o (ne_of_none h hB) (S.ext.h.of b o h n) n
  · have hP : P ≠ p := by
      obtain ⟨ps, q, _⟩ := h
      exact ne_of_none q hB
    exact e.tb P hP (S.ext.h.tb P h)
  · exact e.n a (fun z => h1 (S.ext.h.free z)) (S.ext.n a h1 h2)
  · have ha : a ≠ p := fun z => nd i (z ▸ at_own h)
    exact ⟨e.of a _ ha h4 (fun _ z => by cases z), e.n a (by rw [h4]; simp) (S.own i a ds h).2.2.1⟩
  · have ha : a ≠ p := fun z => nd i (z ▸ at_dic h)
    exact ⟨e.of a _ ha h4 n, e.n a (by rw [h4]; simp) (S.dc i a k m h).2.2.1⟩
theorem lft_lc2 {ti ti1 : Ar} {g g1 : Tgt} {t t1 : Ts} {e : Ex} {vs vs1 : List Nat} (hv : g.inn vs = true) (hv1 : g1.inn vs1 = true) {σ : L2.St} {H : Hp} {Q : VK} (h : lftF K (eLc2 ti vs g t ti1 vs1 g1 t1 e) σ H Q) : tLc2 (lftI K ti) (lftG K g) (lftT K t) (lftI K ti1) (lftG K g1) (lftT K t1) (lft K e) vs vs1 σ H Q := by
  obtain ⟨F0, B, F, δ, Qd, S, h, k⟩ := h
  refine ⟨F0, B, F, δ, _, S, h, fun ds J F1 H1 x1 it q1 p hp => ?_⟩
  obtain ⟨I, h0, step, done⟩ := q1
  have hF1 : F1 p = none := x1.s.free hp
  obtain ⟨hBp, _, nop⟩ := (S.mono x1).free hp
  have nop : NoOwn p δ := nop
  refine ⟨fun i m H' => i + m = ds.length ∧ ∃ F' acc us, Ext F1 H1 F' H' ∧ F' p = none ∧ H' p = some (.lst us) ∧ RpL K F' acc us ∧ I i acc, ⟨ds.length, Nat.zero_add _, F1, [], [], ⟨.refl _, .same (upd_same_of hp), x1.s.trans (upd_same_of hp), fun _ _ q => q⟩, hF1, upd_same, .nil, h0⟩, ?_⟩
  rintro i m H' ⟨hm, F', acc, us, x2, hF', hH', ra, hI⟩
  cases m with
  | zero =>
    have e : i = ds.length := by omega
    subst e
    exact .inl ⟨it.stop F' H' x2.f x2.s, k p us acc F' H' (x1.trans x2) (x1.h.free hp) hF' hH' ra (done acc hI)⟩
  | succ m =>
    have hi : i < ds.length := by omega
    refine .inr ⟨it.go i F' H' x2.f x2.s hi, fun H2 => ∃ F2 acc2 us2, Ext F1 H1 F2 H2 ∧ F2 p = none ∧ H2 p = some (.lst us2) ∧ RpL K F2 acc2 us2 ∧ I (i + 1) acc2,
      fun H2 ⟨F2, acc2, us2, a1, a2, a3, a4, a5⟩ => ⟨m, Nat.lt_succ_self _, by omega, F2, acc2, us2, a1, a2, a3, a4, a5⟩, fun x H2 hy => ?_⟩
    obtain ⟨F2, d, x3, ed, rd⟩ := it.yld i F' H' x H2 x2.f x2.s hi hy
    have x23 := x2.trans x3
    have nF2 : F2 p = none := x3.n p (by rw [hH']; simp) hF'
    have S2 : SR K F0 B F2 H2 (L2.wipe σ vs) (wp δ vs) := (S.mono (x1.trans x23)).wipe vs
    refine ⟨F0, B, F2, wp δ vs, d, _, S2, rd, tg_noOwn (nop.wp vs) (step i d acc ed hI), fun σ3 δ3 S3 w3 ⟨h3, no3⟩ => ⟨?_, ?_⟩⟩
    · rw [w3 vs hv]
      exact wipe_idem (fun u hu x z => absurd hu (wipe_some z).2) vs fun _ h => h
    · refine ⟨F0, B, F2, δ3, _, S3, h3, fun c F3 H3 x4 q3 => ?_⟩
      have x234 := x23.trans x4
      have nF3 : F3 p = none := x4.n p (by rw [x3.h.at hH']; simp) nF2
      have hH3 := x4.h.at (x3.h.at hH')
      cases c with
      | true =>
        rw [if_pos rfl] at q3
        refine iteT ⟨F0, B, F3, δ3, _, S3.mono x4, q3, fun es J1 F4 H4 x5 it1 q4 => ?_⟩
        obtain ⟨I1, g0, step1, done1⟩ := q4
        have x2345 := x234.trans x5
        have nF4 : F4 p = none := x5.n p (by rw [hH3]; simp) nF3
        have hH4 := x5.h.at hH3
        have ra4 : RpL K F4 acc us := ra.mono (x3.f.trans (x4.f.trans x5.f))
        have S4 := (S3.mono x4).mono x5
        refine ⟨fun j k H5 => j + k = es.length ∧ ∃ F5 acc5 us5, Ex1 p F4 H4 F5 H5 ∧ Ext F1 H1 F5 H5 ∧ F5 p = none ∧ H5 p = some (.lst us5) ∧ RpL K F5 acc5 us5 ∧ I1 j acc5, ⟨es.length, Nat.zero_add _, F4, acc, us, .refl x5.s, x2345, nF4, hH4, ra4, g0⟩, ?_⟩
        rintro j k5 H5 ⟨hj, F5, acc5, us5, y5, z5, nF5, hH5, ra5, hI5⟩
        cases k5 with
        | zero =>
          have e : j = es.length := by omega
          subst e
          exact .inl ⟨it1.stop F5 H5 y5.f y5.s, F5, acc5, us5, z5, nF5, hH5, ra5, done1 acc5 hI5⟩
        | succ k5 =>
          have hj' : j < es.length := by omega
          refine .inr ⟨it1.go j F5 H5 y5.f y5.s hj', fun H6 => ∃ F6 acc6 us6, Ex1 p F4 H4 F6 H6 ∧ Ext F1 H1 F6 H6 ∧ F6 p = none ∧ H6 p = some (.lst us6) ∧ RpL K F6 acc6 us6 ∧ I1 (j + 1) acc6,
            fun H6 ⟨F6, acc6, us6, a1, a2, a3, a4, a5, a6⟩ => ⟨k5, Nat.lt_succ_self _, by omega, F6, acc6, us6, a1, a2, a3, a4, a5, a6⟩, fun x6 H6 hy6 => ?_⟩
          obtain ⟨F6, d6, u6, ed6, rd6⟩ := it1.yld j F5 H5 x6 H6 y5.f y5.s hj' hy6
          have nF6 : F6 p = none := u6.n p (by rw [hH5]; simp) nF5
          have hH6 := u6.h.at hH5
          have y6 := y5.ext u6
          have S6 : SR K F0 B F6 H6 (L2.wipe σ3 vs1) (wp δ3 vs1) := (S4.mono1 hBp no3 y6).wipe vs1
          refine ⟨F0, B, F6, wp δ3 vs1, d6, _, S6, rd6, step1 j d6 acc5 ed6 hI5, fun σ7 δ7 S7 w7 h7 => ⟨?_, ?_⟩⟩
          · rw [w7 vs1 hv1]
            exact wipe_idem (fun u hu x z => absurd hu (wipe_some z).2) vs1 fun _ h => h
          · refine ⟨F0, B, F6, δ7, _, S7, h7, fun c F7 H7 x7 q7 => ?_⟩
            have nF7 : F7 p = none := x7.n p (by rw [hH6]; simp) nF6
            have hH7 := x7.h.at hH6
            cases c with
            | true =>
              rw [if_pos rfl] at q7
              refine iteT ⟨F0, B, F7, δ7, _, S7.mono x7, q7, fun y F8 H8 z x8 rz q8 => ?_⟩
              have nF8 : F8 p = none := x8.n p (by rw [hH7]; simp) nF7
              have hH8 := x8.h.at hH7
              have ra8 : RpL K F8 acc5 us5 := ra5.mono (u6.f.trans (x7.f.trans x8.f))
              have z8 := ((z5.trans u6).trans x7).trans x8
              refine ⟨us5, hH8, by rw [line_eq, ra5.len]; exact q8.1, F8, acc5 ++ [z], us5 ++ [y], ((y6.ext x7).ext x8).put nF8 _, ⟨z8.f, z8.h.upd hp, fun b o e => ?_, z8.n⟩, nF8, upd_same, ra8.app (.cons rz .nil), q8.2⟩
              rw [upd_ne (ne_of_none e nF8)]; exact x8.s b o e
            | false =>
              rw [if_neg Bool.false_ne_true] at q7
              exact iteF ⟨F7, acc5, us5, y6.ext x7, (z5.trans u6).trans x7, nF7, hH7, ra5.mono (u6.f.trans x7.f), q7⟩
      | false =>
        rw [if_neg Bool.false_ne_true] at q3
        exact iteF ⟨F3, acc, us, x234, nF3, hH3, ra.mono (x3.f.trans x4.f), q3⟩
end
section
variable {X : Cx}
theorem qf_lc2 {elt tgt iter tgt1 iter1 : Expr} {ifs ifs1 : List Expr} {scope : Scope} {own : List (Str × Nat)} {vs1 : List Nat} {pos : Pos} {ti ti1 : Ar} {g g1 : Tgt} {t t1 : Ts} {e : Ex} (hc : X.calm = true) (hN : X.N.Nodup) (hi : QI X tgt iter ti) (ok : BlkOk X.N X.env.scope scope own) (hvs : ∀ i ∈ vs1, i ∈ own.map (·.2)) (hv : g.inn (own.map (·.2)) = true) (hv1 : g1.inn vs1 = true)
    (hg : ∀ (s : Shared) (H : Hp) (C : Addr) (cl : List (Str × Addr)) (fp : List Addr), QG (X.blk s H scope (compEnvC scope cl C X.env) fp) tgt g) (ht : ∀ (s : Shared) (H : Hp) (C : Addr) (cl : List (Str × Addr)) (fp : List Addr), PTs (X.blk s H scope (compEnvC scope cl C X.env) fp) ifs (lftT X.K t))
    (hi1 : ∀ (s : Shared) (H : Hp) (C : Addr) (cl : List (Str × Addr)) (fp : List Addr), QI (X.blk s H scope (compEnvC scope cl C X.env) fp) tgt1 iter1 ti1)
    (hg1 : ∀ (s : Shared) (H : Hp) (C : Addr) (cl : List (Str × Addr)) (fp : List Addr), QG (X.blk s H scope (compEnvC scope cl C X.env) fp) tgt1 g1) (ht1 : ∀ (s : Shared) (H : Hp) (C : Addr) (cl : List (Str × Addr)) (fp : List Addr), PTs (X.blk s H scope (compEnvC scope cl C X.env) fp) ifs1 (lftT X.K t1))
    (he : ∀ (s : Shared) (H : Hp) (C : Addr) (cl : List (Str × Addr)) (fp : List Addr), QE (X.blk s H scope (compEnvC scope cl C X.env) fp) elt e) (hs : ∀ x, foldedSetIterable iter X.env x = pure x := by intro _; rfl) (hs1 : ∀ env x, foldedSetIterable iter1 env x = pure x := by intro _ _; rfl) :
    QF X (.ListComp elt [⟨tgt, iter, ifs, 0⟩, ⟨tgt1, iter1, ifs1, 0⟩] scope pos) (eLc2 ti (own.map (·.2)) g t ti1 vs1 g1 t1 e) :=
  imp_PE (pe_lc2 hc hN hi ok hvs hg ht hi1 hg1 ht1 he hs hs1) fun _ _ _ => lft_lc2 hv hv1
theorem qs_setLc2 (i : Nat) {y : Str} {py : Pos} {elt tgt iter tgt1 iter1 : Expr} {ifs ifs1 : List Expr} {scope : Scope} {own : List (Str × Nat)} {vs1 : List Nat} {pos spos : Pos} {ti ti1 : Ar} {g g1 : Tgt} {t t1 : Ts} {e : Ex} (hc : X.calm = true) (hN : X.N.Nodup) (hi : QI X tgt iter ti) (ok : BlkOk X.N X.env.scope scope own) (hvs : ∀ i ∈ vs1, i ∈ own.map (·.2)) (hv : g.inn (own.map (·.2)) = true) (hv1 : g1.inn vs1 = true)
    (hg : ∀ (s : Shared) (H : Hp) (C : Addr) (cl : List (Str × Addr)) (fp : List Addr), QG (X.blk s H scope (compEnvC scope cl C X.env) fp) tgt g) (ht : ∀ (s : Shared) (H : Hp) (C : Addr) (cl : List (Str × Addr)) (fp : List Addr), PTs (X.blk s H scope (compEnvC scope cl C X.env) fp) ifs (lftT X.K t))
    (hi1 : ∀ (s : Shared) (H : Hp) (C : Addr) (cl : List (Str × Addr)) (fp : List Addr), QI (X.blk s H scope (compEnvC scope cl C X.env) fp) tgt1 iter1 ti1)
    (hg1 : ∀ (s : Shared) (H : Hp) (C : Addr) (cl : List (Str × Addr)) (fp : List Addr), QG (X.blk s H scope (compEnvC scope cl C X.env) fp) tgt1 g1) (ht1 : ∀ (s : Shared) (H : Hp) (C : Addr) (cl : List (Str × Addr)) (fp : List Addr), PTs (X.blk s H scope (compEnvC scope cl C X.env) fp) ifs1 (lftT X.K t1))
    (he : ∀ (s : Shared) (H : Hp) (C : Addr) (cl : List (Str × Addr)) (fp : List Addr), QE (X.blk s H scope (compEnvC scope cl C X.env) fp) elt e)
    (hy : X.N[i]? = some y := by rfl) (hyl : X.env.scope.names.lookup y = some .local := by rfl) (hsw : swapsWith (.ListComp elt [⟨tgt, iter, ifs, 0⟩, ⟨tgt1, iter1, ifs1, 0⟩] scope pos) (some (.Name y py)) spos.line X.env = pure true := by exact sw_true rfl rfl rfl (by decide +kernel)) (hs : ∀ x, foldedSetIterable iter X.env x = pure x := by intro _; rfl) (hs1 : ∀ env x, foldedSetIterable iter1 env x = pure x := by intro _ _; rfl) :
    QS X (.Assign [.Name y py] (.ListComp elt [⟨tgt, iter, ifs, 0⟩, ⟨tgt1, iter1, ifs1, 0⟩] scope pos) spos) (sAsg (eLc2 ti (own.map (·.2)) g t ti1 vs1 g1 t1 e) (.nm i)) :=
  imp_PS (ps_setLc2 hc hN hy hyl hsw hi ok hvs hg ht hi1 hg1 ht1 he hs hs1) fun D σ H h => lft_lc2 hv hv1 (lft_lftF (asg_val h))
end
end PL

set_option Elab.async false
set_option linter.all false
set_option maxRecDepth 100000
/-! PLS21: range of three. -/
namespace PL
variable [Tabs]
open PySem PySem.Spec PyProof.Rows L2
section
variable {K : PySem.W.Frag} {F : Hp}
theorem rgc_of {i j c : Int} (h : -(2 ^ 40) < i ∧ i < 2 ^ 40 ∧ -(2 ^ 40) < j ∧ j < 2 ^ 40 ∧ c ≠ 0 ∧ -(2 ^ 30) < c ∧ c < 2 ^ 30) : RgC i j c (rsz i j c) := by
  obtain ⟨h1, h2, h3, h4, h5, h6, h7⟩ := h
  have e : Builtin.Range.rangeSize i j c = (rsz i j c : Nat) := by
    unfold Builtin.Range.rangeSize rsz
    by_cases hc : c > 0
    · rw [if_pos hc, if_pos hc]
      split
      · have := Int.ediv_nonneg (show 0 ≤ j - i - 1 by omega) (show 0 ≤ c by omega)
        omega
      · rfl
    · rw [if_neg hc, if_neg hc]
      split
      · have := Int.ediv_nonneg (show 0 ≤ i - j - 1 by omega) (show 0 ≤ -c by omega)
        omega
      · rfl
  refine ⟨h5, by omega, ?_, e⟩
  unfold Builtin.Range.small
  rw [e]
  have hs : (rsz i j c : Int) < 2 ^ 42 := by
    unfold rsz
    by_cases hc : c > 0
    · rw [if_pos hc]
      split
      · have := Int.ediv_nonneg (show 0 ≤ j - i - 1 by omega) (show 0 ≤ c by omega)
        have := Int.ediv_le_self c (show 0 ≤ j - i - 1 by omega)
        omega
      · decide
    · rw [if_neg hc]
      split
      · have := Int.ediv_nonneg (show 0 ≤ i - j - 1 by omega) (show 0 ≤ -c by omega)
        have := Int.ediv_le_self (-c) (show 0 ≤ i - j - 1 by omega)
        omega
      · decide
  simp only [Builtin.Range.rangeFitsLong, Bool.and_eq_true, Bool.or_eq_true, decide_eq_true_eq, beq_iff_eq]
  refine ⟨⟨⟨⟨⟨by omega, by omega⟩, by omega, by omega⟩, by omega, by omega⟩, by omega, by omega⟩, .inr ?_⟩
  split
  · rw [decide_eq_true (by omega), decide_eq_true (by omega)]; rfl
  · rw [decide_eq_true (by omega), decide_eq_true (by omega)]; rfl
theorem itd_rngC {lo c : Int} {n : Nat} : ItD K F (Itc lo c n) (rngC lo c n) := by
  have hl : (rngC lo c n).length = n := by unfold rngC; simp
  refine ⟨fun i F1 H1 s1 s2 hi => ?_, fun i F1 H1 x H2 s1 s2 hi hy => ?_, fun F1 H1 s1 s2 => ?_⟩
  · show i < n
    omega
  · obtain ⟨rfl, rfl⟩ := hy
    refine ⟨F1, _, .refl s2, ?_, .int _⟩
    unfold rngC
    rw [List.getElem?_map, List.getElem?_range (by omega)]; rfl
  · show n ≤ _
    omega
end
section
variable {X : Cx} {e e2 e3 : Expr} {te t2 t3 : Ex} {p pos : Pos} {tgt : Expr}
theorem qi_rng3 (hm : X.mg "range" = none) (ha : QE X e te) (hb : QE X e2 t2) (hc : QE X e3 t3) (hg : Gl X "range" := by rfl) (hse : starEach [e, e2, e3] X.env = (false, eval e X.env) :: starEach [e2, e3] X.env := by rfl) (hse2 : starEach [e2, e3] X.env = (false, eval e2 X.env) :: starEach [e3] X.env := by rfl) (hse3 : starEach [e3] X.env = (false, eval e3 X.env) :: starEach [] X.env := by rfl)
    (hpl : (backTo pos (starEach [e2, e3] X.env)).any (·.1) = false := by rfl) : QI X tgt (.Call (.Name "range" p) [e, e2, e3] [] pos) (iRng3 te t2 t3) :=
  imp_PI (pi_range3 hg hm (pa_cons ha (pa_cons hb (pa_cons hc pa_nil hse3) hse2) hse) hse hpl) fun σ H R h => by
    obtain ⟨F0, B, F, δ, Qd, S, h, k⟩ := h
    refine ⟨F0, B, F, δ, _, S, h, fun v F1 H1 d x1 r1 q1 => ⟨F0, B, F1, δ, _, S.mono x1, q1, fun u F2 H2 d2 x2 r2 q2 => ⟨F0, B, F2, δ, _, (S.mono x1).mono x2, q2, fun w F3 H3 d3 x3 r3 q3 => ?_⟩⟩⟩
    cases d with
    | int a =>
      cases d2 with
      | int b =>
        cases d3 with
        | int c => exact ⟨a, b, c, _, by rw [r1.intI, r2.intI, r3.intI], rgc_of q3.1, k _ _ F3 H3 ((x1.trans x2).trans x3) itd_rngC q3.2⟩
        | _ => exact q3.elim
      | _ => exact q3.elim
    | _ => exact q3.elim
end
end PL

set_option Elab.async false
set_option linter.all false
/-! PLX: more light tools for the pure side: encoded lists, places, slices, comparisons of encoded data. -/
namespace PL
def numL (ns : List Nat) : List D := ns.map fun (x : Nat) => D.int x
theorem numL_len (ns : List Nat) : (numL ns).length = ns.length := List.length_map _
theorem numL_snoc (l : List Nat) (a : Nat) : numL (l ++ [a]) = numL l ++ [D.int a] := by unfold numL; rw [List.map_append]; rfl
theorem numL_cons (a : Nat) (l : List Nat) : numL (a :: l) = D.int a :: numL l := rfl
theorem numL_rev (l : List Nat) : (numL l).reverse = numL l.reverse := by unfold numL; rw [List.map_reverse]
theorem numL_app (a b : List Nat) : numL a ++ numL b = numL (a ++ b) := by unfold numL; rw [List.map_append]
theorem numL_ints (l : List Nat) : numL l = (l.map fun x : Nat => (x : Int)).map D.int := by unfold numL; rw [List.map_map]; rfl
theorem numL_map {α : Type} (f : α → Nat) (l : List α) : (l.map fun x => D.int (f x : Nat)) = numL (l.map f) := by unfold numL; rw [List.map_map]; rfl
theorem map_inj {α β : Type} {f : α → β} (hf : ∀ x y, f x = f y → x = y) : ∀ {a b : List α}, a.map f = b.map f → a = b
  | [], [], _ => rfl
  | [], _ :: _, h => by simp at h
  | _ :: _, [], h => by simp at h
  | x :: a, y :: b, h => by
    rw [List.map_cons, List.map_cons] at h
    injection h with h1 h2
    rw [hf x y h1, map_inj hf h2]
theorem numL_inj {a b : List Nat} (h : numL a = numL b) : a = b := by
  unfold numL at h
  exact map_inj (fun x y e => by injection e with e; exact_mod_cast e) h
theorem ints_inj {a b : List Int} (h : a.map D.int = b.map D.int) : a = b := map_inj (fun x y e => by injection e) h
theorem beq_eq {a b : Nat} : Nat.beq a b = true ↔ a = b := ⟨Nat.eq_of_beq_eq_true, fun h => by rw [h]; exact Nat.beq_refl b⟩
theorem beq_dec (a b : Nat) : Nat.beq a b = decide (a = b) := by
  rw [Bool.eq_iff_iff, beq_eq, decide_eq_true_eq]
theorem ble_dec (a b : Nat) : Nat.ble a b = decide (a ≤ b) := by
  rw [Bool.eq_iff_iff, Nat.ble_eq, decide_eq_true_eq]
theorem all_at {n : Nat} {f : Nat → Bool} (h : (List.range n).all f = true) {k : Nat} (hk : k < n) : f k = true := List.all_eq_true.mp h k (List.mem_range.mpr hk)
theorem at_k {ns : List Int} {k : Nat} {c : Int} (e : c = (k : Int)) (hk : k < ns.length) {Q : D → Prop} (q : Q (.int (ns.getD k 0))) : atD (ns.map .int) c Q := by
  refine atD_at (j := k) (d := .int (ns.getD k 0)) e ?_ q
  rw [List.getElem?_map, List.getElem?_eq_getElem hk, List.getD_eq_getElem?_getD, List.getElem?_eq_getElem hk]; rfl
theorem at_n {ns : List Nat} {k : Nat} {c : Int} (e : c = (k : Int)) (hk : k < ns.length) {Q : D → Prop} (q : Q (.int (ns.getD k 0 : Nat))) : atD (numL ns) c Q := by
  refine atD_at (j := k) (d := .int (ns.getD k 0 : Nat)) e ?_ q
  unfold numL
  rw [List.getElem?_map, List.getElem?_eq_getElem hk, List.getD_eq_getElem?_getD, List.getElem?_eq_getElem hk]; rfl
theorem at_e {α : Type} {enc : α → D} {xs : List α} {k : Nat} {c : Int} (z : α) (e : c = (k : Int)) (hk : k < xs.length) {Q : D → Prop} (q : Q (enc (xs.getD k z))) : atD (xs.map enc) c Q := by
  refine atD_at (j := k) (d := enc (xs.getD k z)) e ?_ q
  rw [List.getElem?_map, List.getElem?_eq_getElem hk, List.getD_eq_getElem?_getD, List.getElem?_eq_getElem hk]; rfl
theorem getD_mem {α : Type} {xs : List α} {k : Nat} (z : α) (h : k < xs.length) : xs.getD k z ∈ xs := by
  rw [List.getD_eq_getElem?_getD, List.getElem?_eq_getElem h]; exact List.getElem_mem h
theorem getD_some {α : Type} {xs : List α} {k : Nat} (z : α) (h : k < xs.length) : xs[k]? = some (xs.getD k z) := by
  rw [List.getD_eq_getElem?_getD, List.getElem?_eq_getElem h]; rfl
/-! slices -/
theorem cutD_map {α β : Type} (f : α → β) (xs : List α) (l h : Option Int) : cutD (xs.map f) l h = (cutD xs l h).map f := by
  simp only [cutD, List.length_map, List.map_take, List.map_drop]
theorem cutD_num (xs : List Nat) (l h : Option Int) : cutD (numL xs) l h = numL (cutD xs l h) := cutD_map _ _ _ _
theorem cutD_sub {α : Type} {xs : List α} {l h : Option Int} {x : α} (hx : x ∈ cutD xs l h) : x ∈ xs := List.mem_of_mem_drop (List.mem_of_mem_take hx)
theorem cutD_len {α : Type} (xs : List α) (l h : Option Int) : (cutD xs l h).length ≤ xs.length := by
  unfold cutD
  rw [List.length_take, List.length_drop]
  omega
theorem cut_take {α : Type} (l : List α) {c : Int} {k : Nat} (e : c = (k : Int)) : cutD l none (some c) = l.take k := by
  subst e
  unfold cutD sIx
  simp only []
  rw [if_neg (by omega), Int.toNat_natCast, Nat.sub_zero, List.drop_zero]
  rcases Nat.le_total k l.length with c | c
  · rw [Nat.min_eq_left c]
  · rw [Nat.min_eq_right c, List.take_length, List.take_of_length_le c]
theorem cut_drop {α : Type} (l : List α) {c : Int} {k : Nat} (e : c = (k : Int)) : cutD l (some c) none = l.drop k := by
  subst e
  unfold cutD sIx
  simp only []
  rw [if_neg (by omega), Int.toNat_natCast]
  rcases Nat.le_total k l.length with c | c
  · rw [Nat.min_eq_left c, List.take_of_length_le (by rw [List.length_drop]; omega)]
  · rw [Nat.min_eq_right c, Nat.sub_self, List.take_zero, List.drop_of_length_le c]
theorem cut_mid {α : Type} (l : List α) {c d : Int} {k m : Nat} (e : c = (k : Int)) (f : d = (m : Int)) : cutD l (some c) (some d) = (l.drop k).take (m - k) := by
  subst e f
  unfold cutD sIx
  simp only []
  rw [if_neg (by omega), if_neg (by omega), Int.toNat_natCast, Int.toNat_natCast]
  rcases Nat.le_total k l.length with c | c
  · rw [Nat.min_eq_left c]
    rcases Nat.le_total m l.length with d | d
    · rw [Nat.min_eq_left d]
    · rw [Nat.min_eq_right d, List.take_of_length_le (by rw [List.length_drop]; omega), List.take_of_length_le (by rw [List.length_drop]; omega)]
  · rw [Nat.min_eq_right c, List.drop_length, List.drop_of_length_le c, List.take_nil, List.take_nil]
theorem cut_init {α : Type} (l : List α) : cutD l none (some (-1)) = l.dropLast := by
  unfold cutD sIx
  simp only [List.drop_zero]
  rw [if_pos (by omega), List.dropLast_eq_take]
  congr 1; omega
theorem cut_tail {α : Type} (l : List α) : cutD l (some 1) none = l.tail := by
  rw [cut_drop l (c := 1) (k := 1) rfl, List.drop_one]
theorem cut_mid_len {α : Type} (l : List α) {c d : Int} {k m : Nat} (e : c = (k : Int)) (f : d = (m : Int)) (h : k ≤ m) (g : m ≤ l.length) : (cutD l (some c) (some d)).length = m - k := by
  rw [cut_mid l e f, List.length_take, List.length_drop]; omega
/-! comparisons of encoded data -/
theorem eqvL_ints : ∀ a b : List Int, D.eqvL (a.map D.int) (b.map D.int) = decide (a = b)
  | [], [] => by simp [D.eqvL]
  | [], y :: b => by simp [D.eqvL]
  | x :: a, [] => by simp [D.eqvL]
  | x :: a, y :: b => by
    rw [List.map_cons, List.map_cons, eqvL_cc, eqvL_ints a b, eqv_int]
    by_cases h : x = y
    · subst h
      by_cases g : a = b
      · subst g; simp
      · simp [g]
    · simp [h]
theorem eqvL_num (a b : List Nat) : D.eqvL (numL a) (numL b) = decide (a = b) := by
  rw [numL_ints, numL_ints, eqvL_ints]
  exact decide_eq_decide.mpr ⟨fun h => numL_inj (by rw [numL_ints, numL_ints, h]), fun h => by rw [h]⟩
theorem shpL_num (n : Nat) (l : List Nat) : shpL n (numL l) = true := by rw [numL_ints]; exact shpL_ints n _
theorem shpL_all (n : Nat) : ∀ l : List D, shpL n l = l.all (shp n)
  | [] => by simp [shpL]
  | d :: l => by rw [shpL_cons, List.all_cons, shpL_all n l]
/-- == of encoded lists, the items' == told -/
theorem eqvL_enc {α : Type} [DecidableEq α] (enc : α → D) (h : ∀ x y, D.eqv (enc x) (enc y) = decide (x = y)) : ∀ a b : List α, D.eqvL (a.map enc) (b.map enc) = decide (a = b)
  | [], [] => by simp [D.eqvL]
  | [], y :: b => by simp [D.eqvL]
  | x :: a, [] => by simp [D.eqvL]
  | x :: a, y :: b => by
    rw [List.map_cons, List.map_cons, eqvL_cc, eqvL_enc enc h a b, h]
    by_cases h : x = y
    · subst h
      by_cases g : a = b
      · subst g; simp
      · simp [g]
    · simp [h]
theorem shpL_enc {α : Type} (n : Nat) (enc : α → D) (l : List α) (h : ∀ x ∈ l, shp n (enc x) = true) : shpL n (l.map enc) = true := by
  rw [shpL_all, List.all_map]; exact List.all_eq_true.mpr h
theorem shp_iD (n : Nat) (l : List Int) : shp (n + 1) (.tup (l.map .int)) = true := by rw [shp_t]; exact shpL_ints n l
theorem shp_nD (n : Nat) (l : List Nat) : shp (n + 1) (.tup (numL l)) = true := by rw [shp_t]; exact shpL_num n l
theorem eqv_iD (a b : List Int) : D.eqv (.tup (a.map .int)) (.tup (b.map .int)) = decide (a = b) := by rw [eqv_tt, eqvL_ints]
theorem eqv_nD (a b : List Nat) : D.eqv (.tup (numL a)) (.tup (numL b)) = decide (a = b) := by rw [eqv_tt, eqvL_num]
theorem map_ext {α β : Type} {f g : α → β} {l : List α} (h : ∀ x ∈ l, f x = g x) : l.map f = l.map g := List.map_congr_left h
/-- a loop over an encoded list -/
theorem for_enc {α : Type} (enc : α → D) {xs : List α} (I : Nat → PSt → Prop) {g : Tgt} {b : Sm} {E : En} {δ : PSt} (h0 : I 0 δ)
    (step : ∀ (i : Nat) x δ, xs[i]? = some x → I i δ → tg g (enc x) δ fun δ' => b { nx := I (i + 1), rt := E.rt, rn := E.rn, bk := E.nx, ct := I (i + 1) } δ')
    (done : ∀ δ, I xs.length δ → E.nx δ) : forD (xs.map enc) g b E δ := by
  refine ⟨I, h0, fun i d δ hi hp => ?_, by rw [List.length_map]; exact done⟩
  rw [List.getElem?_map] at hi
  obtain ⟨x, hx, rfl⟩ := Option.map_eq_some_iff.mp hi
  exact step i x δ hx hp
theorem lc_encX {α β : Type} (enc : α → D) (f : α → β) (out : β → D) {xs : List α} {g : Tgt} {e : Ex} {δ : PSt} {Q : List D → Prop} (hl : xs.length ≤ 16777216)
    (h : ∀ x ∈ xs, ∀ (R : D → Prop), R (out (f x)) → tg g (enc x) δ fun δ' => e δ' R) (q : Q ((xs.map f).map out)) : lcD (xs.map enc) g tYes e δ Q := by
  refine lc_enc enc xs (fun x => out (f x)) hl h ?_
  rw [List.map_map] at q
  exact q
/-! comprehensions of two clauses -/
theorem take_next {α β : Type} {xs : List α} {i : Nat} {x : α} (h : xs[i]? = some x) (F : α → List β) : (xs.take (i + 1)).flatMap F = (xs.take i).flatMap F ++ F x := by
  rw [List.take_add_one, h, List.flatMap_append]; simp
theorem lc2_encF {α β : Type} (enc : α → D) (ys : α → List β) (enc1 : α → β → D) (p : α → β → Bool) (f : α → β → D) {xs : List α} {g g1 : Tgt} {it1 : Ar} {vs1 : List Nat} {t1 : Ts} {e : Ex} {δ : PSt} {Q : List D → Prop}
    (hl : (xs.flatMap fun x => ((ys x).filter (p x)).map (f x)).length ≤ 16777216)
    (h : ∀ x ∈ xs, ∀ P : PSt → List D → Prop, (∀ δ2, (∀ y ∈ ys x, ∀ (R : D → Prop) (R0 : Prop), (p x y = true → R (f x y)) → (p x y = false → R0) → tg g1 (enc1 x y) (wp δ2 vs1) fun δ3 => t1 δ3 fun c => if c = true then e δ3 R else R0) → P δ2 ((ys x).map (enc1 x))) → tg g (enc x) δ fun δ2 => it1 δ2 (P δ2))
    (q : Q (xs.flatMap fun x => ((ys x).filter (p x)).map (f x))) : lcD2 (xs.map enc) g tYes it1 vs1 g1 t1 e δ Q := by
  refine ⟨fun i acc => acc = (xs.take i).flatMap fun x => ((ys x).filter (p x)).map (f x), by simp, fun i d acc hi ha => ?_, fun acc ha => ?_⟩
  · subst ha
    rw [List.getElem?_map] at hi
    obtain ⟨x, hx, rfl⟩ := Option.map_eq_some_iff.mp hi
    simp only [tYes, if_true]
    refine h x (List.mem_of_getElem? hx) _ fun δ2 hy => ?_
    refine ⟨fun j acc => acc = ((xs.take i).flatMap fun x => ((ys x).filter (p x)).map (f x)) ++ (((ys x).take j).filter (p x)).map (f x), by simp, fun j d acc hj ha => ?_, fun acc ha => ?_⟩
    · subst ha
      rw [List.getElem?_map] at hj
      obtain ⟨y, hyj, rfl⟩ := Option.map_eq_some_iff.mp hj
      refine hy y (List.mem_of_getElem? hyj) _ _ (fun hp => ⟨?_, ?_⟩) fun hp => ?_
      · have e1 : xs.flatMap (fun x => ((ys x).filter (p x)).map (f x)) = (xs.take i ++ [x] ++ xs.drop (i + 1)).flatMap (fun x => ((ys x).filter (p x)).map (f x)) := by
          congr 1
          have : xs.take (i + 1) = xs.take i ++ [x] := by rw [List.take_add_one, hx]; rfl
          rw [← this, List.take_append_drop]
        have e2 : (ys x).filter (p x) = ((ys x).take j).filter (p x) ++ [y] ++ ((ys x).drop (j + 1)).filter (p x) := by
          have : (ys x).take (j + 1) = (ys x).take j ++ [y] := by rw [List.take_add_one, hyj]; rfl
          have e3 : (ys x).filter (p x) = ((ys x).take (j + 1) ++ (ys x).drop (j + 1)).filter (p x) := by rw [List.take_append_drop]
          rw [e3, this, List.filter_append, List.filter_append]
          simp [hp]
        rw [e1] at hl
        simp only [List.flatMap_append, List.flatMap_cons, List.flatMap_nil, e2, List.map_append, List.length_append, List.map_cons, List.map_nil, List.length_cons, List.length_nil] at hl ⊢
        omega
      · show _ = _
        rw [List.take_add_one, hyj]
        simp [List.filter_append, hp]
      · show _ = _
        rw [List.take_add_one, hyj]
        simp [List.filter_append, hp]
    · subst ha
      rw [List.length_map, List.take_length, take_next hx]
  · subst ha
    rw [List.length_map, List.take_length]
    exact q
theorem lc2_enc {α β : Type} (enc : α → D) (ys : α → List β) (enc1 : α → β → D) (f : α → β → D) {xs : List α} {g g1 : Tgt} {it1 : Ar} {vs1 : List Nat} {e : Ex} {δ : PSt} {Q : List D → Prop}
    (hl : (xs.flatMap fun x => (ys x).map (f x)).length ≤ 16777216)
    (h : ∀ x ∈ xs, ∀ P : PSt → List D → Prop, (∀ δ2, (∀ y ∈ ys x, ∀ (R : D → Prop), R (f x y) → tg g1 (enc1 x y) (wp δ2 vs1) fun δ3 => e δ3 R) → P δ2 ((ys x).map (enc1 x))) → tg g (enc x) δ fun δ2 => it1 δ2 (P δ2))
    (q : Q (xs.flatMap fun x => (ys x).map (f x))) : lcD2 (xs.map enc) g tYes it1 vs1 g1 tYes e δ Q := by
  have ef : ∀ x, (ys x).filter (fun _ => true) = ys x := fun x => List.filter_eq_self.mpr fun _ _ => rfl
  refine lc2_encF enc ys enc1 (fun _ _ => true) f (by simp only [ef]; exact hl) (fun x hx P hP => h x hx P fun δ2 k => hP δ2 fun y hy R R0 h1 _ => ?_) (by simp only [ef]; exact q)
  have := k y hy R (h1 rfl)
  simpa only [tYes, if_true] using this
theorem flatMap_len {α β : Type} (F : α → List β) (n : Nat) : ∀ xs : List α, (∀ x ∈ xs, (F x).length = n) → (xs.flatMap F).length = xs.length * n
  | [], _ => by simp
  | x :: xs, h => by
    rw [List.flatMap_cons, List.length_append, flatMap_len F n xs fun y hy => h y (List.mem_cons_of_mem _ hy), h x List.mem_cons_self, List.length_cons, Nat.add_mul]
    omega
end PL

set_option Elab.async false
set_option linter.all false
/-! PLO: the order of data made of ints and tuples (light). -/
namespace PL
mutual
def okD : D → Bool
  | .int _ => true
  | .tup xs => okL xs
  | .non => false
  | .bl _ => false
  | .str _ => false
  | .lst _ => false
def okL : List D → Bool
  | [] => true
  | x :: xs => okD x && okL xs
end
mutual
/-- x ≤ y -/
def leD : D → D → Bool
  | .int a, .int b => decide (a ≤ b)
  | .tup xs, .tup ys => leL xs ys
  | _, _ => true
def leL : List D → List D → Bool
  | [], _ => true
  | _ :: _, [] => false
  | x :: xs, y :: ys => if x = y then leL xs ys else leD x y
end
mutual
/-- the two can be compared -/
def alkD : D → D → Bool
  | .int _, .int _ => true
  | .tup xs, .tup ys => alkL xs ys
  | _, _ => false
def alkL : List D → List D → Bool
  | [], _ => true
  | _ :: _, [] => true
  | x :: xs, y :: ys => alkD x y && alkL xs ys
end
theorem okL_all (xs : List D) : okL xs = xs.all okD := by
  induction xs with
  | nil => simp only [okL, List.all_nil]
  | cons x xs ih => simp only [okL, List.all_cons, ih]
/-- items that can be compared, of some depth -/
structure Good (n : Nat) (xs : List D) : Prop where
  ok : ∀ x ∈ xs, okD x = true
  sh : ∀ x ∈ xs, shp n x = true
  alk : ∀ x ∈ xs, ∀ y ∈ xs, alkD x y = true
def pMinG : Pm := fun ds Q => asNs ds fun xs => Good 50 xs ∧ ∃ m, m ∈ xs ∧ (∀ y ∈ xs, leD m y = true) ∧ Q m
def pMaxG : Pm := fun ds Q => asNs ds fun xs => Good 50 xs ∧ ∃ m, m ∈ xs ∧ (∀ y ∈ xs, leD y m = true) ∧ Q m
theorem pMinG_l (xs : List D) (Q : D → Prop) : pMinG [.lst xs] Q = (Good 50 xs ∧ ∃ m, m ∈ xs ∧ (∀ y ∈ xs, leD m y = true) ∧ Q m) := rfl
theorem pMinG_t (xs : List D) (Q : D → Prop) : pMinG [.tup xs] Q = (Good 50 xs ∧ ∃ m, m ∈ xs ∧ (∀ y ∈ xs, leD m y = true) ∧ Q m) := rfl
theorem pMaxG_l (xs : List D) (Q : D → Prop) : pMaxG [.lst xs] Q = (Good 50 xs ∧ ∃ m, m ∈ xs ∧ (∀ y ∈ xs, leD y m = true) ∧ Q m) := rfl
theorem pMaxG_t (xs : List D) (Q : D → Prop) : pMaxG [.tup xs] Q = (Good 50 xs ∧ ∃ m, m ∈ xs ∧ (∀ y ∈ xs, leD y m = true) ∧ Q m) := rfl
/-- sorted(x), sorted(x, reverse=b) -/
def pSortG (rev : Bool) : Pm := fun ds Q => asNs ds fun xs => Good 2 xs ∧ ((∀ x ∈ xs, ∃ y ys, x = .tup (y :: ys)) ∨ (∀ x ∈ xs, ∃ i, x = .int i)) ∧ ∃ ys : List D, ys.Perm xs ∧ ys.Pairwise (fun a b => (if rev = true then leD b a else leD a b) = true) ∧ Q (.lst ys)
theorem pSortG_l (rev : Bool) (xs : List D) (Q : D → Prop) : pSortG rev [.lst xs] Q = (Good 2 xs ∧ ((∀ x ∈ xs, ∃ y ys, x = .tup (y :: ys)) ∨ (∀ x ∈ xs, ∃ i, x = .int i)) ∧ ∃ ys : List D, ys.Perm xs ∧ ys.Pairwise (fun a b => (if rev = true then leD b a else leD a b) = true) ∧ Q (.lst ys)) := rfl
theorem pSortG_t (rev : Bool) (xs : List D) (Q : D → Prop) : pSortG rev [.tup xs] Q = (Good 2 xs ∧ ((∀ x ∈ xs, ∃ y ys, x = .tup (y :: ys)) ∨ (∀ x ∈ xs, ∃ i, x = .int i)) ∧ ∃ ys : List D, ys.Perm xs ∧ ys.Pairwise (fun a b => (if rev = true then leD b a else leD a b) = true) ∧ Q (.lst ys)) := rfl
def gd2 (x y : D) : Prop := okD x = true ∧ okD y = true ∧ alkD x y = true ∧ shp 50 x = true ∧ shp 50 y = true
def oLtG : Op2 := fun x y Q => gd2 x y ∧ Q (.bl (!leD y x))
def oLeG : Op2 := fun x y Q => gd2 x y ∧ Q (.bl (leD x y))
def oGtG : Op2 := fun x y Q => gd2 x y ∧ Q (.bl (!leD x y))
def oGeG : Op2 := fun x y Q => gd2 x y ∧ Q (.bl (leD y x))
/-- in, not in for any data: lists and tuples -/
def oInG (n : Bool) : Op2 := fun x y Q => match y with
  | .lst ds => (shp 60 x = true ∧ shp 60 (.lst ds) = true) ∧ Q (.bl (xor n (ds.any fun z => D.eqv z x)))
  | .tup ds => (shp 60 x = true ∧ shp 60 (.tup ds) = true) ∧ Q (.bl (xor n (ds.any fun z => D.eqv z x)))
  | _ => False
theorem oInG_t (n : Bool) (x : D) (ds : List D) (Q : D → Prop) : oInG n x (.tup ds) Q = ((shp 60 x = true ∧ shp 60 (.tup ds) = true) ∧ Q (.bl (xor n (ds.any fun z => D.eqv z x)))) := rfl
theorem oInG_l (n : Bool) (x : D) (ds : List D) (Q : D → Prop) : oInG n x (.lst ds) Q = ((shp 60 x = true ∧ shp 60 (.lst ds) = true) ∧ Q (.bl (xor n (ds.any fun z => D.eqv z x)))) := rfl
/-- sorted(l, reverse=True), ints -/
def pSortR : Pm := fun ds Q => match ds with
  | [.lst xs] => ∃ ns ms : List Int, xs = ns.map D.int ∧ ms.Perm ns ∧ ms.Pairwise (· ≥ ·) ∧ Q (.lst (ms.map .int))
  | _ => False
theorem pSortR_l (xs : List D) (Q : D → Prop) : pSortR [.lst xs] Q = ∃ ns ms : List Int, xs = ns.map D.int ∧ ms.Perm ns ∧ ms.Pairwise (· ≥ ·) ∧ Q (.lst (ms.map .int)) := rfl
/-- a slice of a list: a new list -/
def eSliceF (a : Ex) (lo hi : Pt) : Ex := fun δ Q => a δ fun x => asLst x fun xs => lo δ fun l => hi δ fun h => Q (.lst (cutD xs l h))
/-! the order in plain words -/
theorem leD_int (a b : Int) : leD (.int a) (.int b) = decide (a ≤ b) := by simp only [leD]
theorem leD_tup (a b : List D) : leD (.tup a) (.tup b) = leL a b := by simp only [leD]
theorem leL_nil (b : List D) : leL [] b = true := by simp only [leL]
theorem leL_cn (x : D) (a : List D) : leL (x :: a) [] = false := by simp only [leL]
theorem leL_cons (x y : D) (a b : List D) : leL (x :: a) (y :: b) = if x = y then leL a b else leD x y := by simp only [leL]
theorem leL_ints : ∀ a b : List Int, leL (a.map .int) (b.map .int) = decide (a ≤ b)
  | [], b => by rw [List.map_nil, leL_nil]; simp
  | x :: a, [] => by
    rw [List.map_cons, List.map_nil, leL_cn]
    symm; rw [decide_eq_false_iff_not]
    intro h
    exact absurd h (by simp)
  | x :: a, y :: b => by
    rw [List.map_cons, List.map_cons, leL_cons, leL_ints a b, leD_int]
    by_cases h : x = y
    · subst h
      rw [if_pos rfl]
      exact decide_eq_decide.mpr (by simp [List.cons_le_cons_iff])
    · rw [if_neg (fun z => h (by injection z))]
      refine decide_eq_decide.mpr ?_
      rw [List.cons_le_cons_iff]
      constructor
      · intro g; left; omega
      · rintro (g | ⟨g, _⟩)
        · omega
        · exact absurd g h
theorem okL_ints (a : List Int) : okL (a.map .int) = true := by
  rw [okL_all, List.all_map]; exact List.all_eq_true.mpr fun _ _ => by simp [okD]
theorem alkL_ints : ∀ a b : List Int, alkL (a.map .int) (b.map .int) = true
  | [], b => by simp only [List.map_nil, alkL]
  | x :: a, [] => by simp only [List.map_nil, List.map_cons, alkL]
  | x :: a, y :: b => by simp only [List.map_cons, alkL, alkD, alkL_ints a b, Bool.and_self]
/-- a row of ints -/
theorem leD_iD (a b : List Int) : leD (.tup (a.map .int)) (.tup (b.map .int)) = decide (a ≤ b) := by rw [leD_tup, leL_ints]
theorem okD_iD (a : List Int) : okD (.tup (a.map .int)) = true := by simp only [okD, okL_ints]
theorem alkD_iD (a b : List Int) : alkD (.tup (a.map .int)) (.tup (b.map .int)) = true := by simp only [alkD, alkL_ints]
theorem good_enc {α : Type} {n : Nat} (enc : α → D) (xs : List α) (h1 : ∀ x, okD (enc x) = true) (h2 : ∀ x, shp n (enc x) = true) (h3 : ∀ x y, alkD (enc x) (enc y) = true) : Good n (xs.map enc) :=
  ⟨fun d hd => by obtain ⟨x, _, rfl⟩ := List.mem_map.mp hd; exact h1 x, fun d hd => by obtain ⟨x, _, rfl⟩ := List.mem_map.mp hd; exact h2 x, fun d hd e he => by
    obtain ⟨x, _, rfl⟩ := List.mem_map.mp hd
    obtain ⟨y, _, rfl⟩ := List.mem_map.mp he
    exact h3 x y⟩
theorem good_iD (n : Nat) (xs : List (List Int)) : Good (n + 1) (xs.map fun r => D.tup (r.map .int)) :=
  good_enc _ _ okD_iD (shp_iD n) alkD_iD
end PL

set_option Elab.async false
set_option linter.all false
set_option maxRecDepth 100000
/-! PLS22: min, max, sorted (reverse too) and the order of data made of ints and tuples. -/
namespace PL
variable [Tabs]
open PySem PySem.Spec PySem.W PyProof.Rows L2
omit [Tabs] in
theorem okI {x : D} (h : okD x = true) : (∃ i, x = .int i) ∨ ∃ xs, x = .tup xs ∧ okL xs = true := by
  cases x <;> simp only [okD, Bool.false_eq_true] at h
  · exact .inl ⟨_, rfl⟩
  · exact .inr ⟨_, rfl, h⟩
mutual
theorem eqv_ok : ∀ (x y : D), okD x = true → okD y = true → D.eqv x y = decide (x = y)
  | .int a, .int b, _, _ => by rw [eqv_int]; exact decide_eq_decide.mpr ⟨fun h => by rw [h], fun h => by injection h⟩
  | .tup xs, .tup ys, h, g => by
    rw [eqv_tt, eqvL_ok xs ys (by simpa [okD] using h) (by simpa [okD] using g)]
    exact decide_eq_decide.mpr ⟨fun h => by rw [h], fun h => by injection h⟩
  | .int a, .tup ys, _, _ => by simp [D.eqv]
  | .tup xs, .int b, _, _ => by simp [D.eqv]
  | .non, _, h, _ => by simp [okD] at h
  | .bl _, _, h, _ => by simp [okD] at h
  | .str _, _, h, _ => by simp [okD] at h
  | .lst _, _, h, _ => by simp [okD] at h
  | .int _, .non, _, h => by simp [okD] at h
  | .int _, .bl _, _, h => by simp [okD] at h
  | .int _, .str _, _, h => by simp [okD] at h
  | .int _, .lst _, _, h => by simp [okD] at h
  | .tup _, .non, _, h => by simp [okD] at h
  | .tup _, .bl _, _, h => by simp [okD] at h
  | .tup _, .str _, _, h => by simp [okD] at h
  | .tup _, .lst _, _, h => by simp [okD] at h
theorem eqvL_ok : ∀ (xs ys : List D), okL xs = true → okL ys = true → D.eqvL xs ys = decide (xs = ys)
  | [], [], _, _ => by simp [D.eqvL]
  | [], _ :: _, _, _ => by simp [D.eqvL]
  | _ :: _, [], _, _ => by simp [D.eqvL]
  | x :: xs, y :: ys, h, g => by
    simp only [okL, Bool.and_eq_true] at h g
    rw [eqvL_cc, eqv_ok x y h.1 g.1, eqvL_ok xs ys h.2 g.2]
    by_cases e : x = y
    · subst e
      by_cases e2 : xs = ys
      · subst e2; simp
      · simp [e2]
    · simp [e]
end
mutual
theorem alk_py : ∀ (x y : D), alkD x y = true → alike (toPy x) (toPy y) = true
  | .int _, .int _, _ => by simp [toPy, alike]
  | .tup xs, .tup ys, h => by
    simp only [toPy, alike]
    exact alkL_py xs ys (by simpa [alkD] using h)
  | .int _, .tup _, h => by simp [alkD] at h
  | .int _, .non, h => by simp [alkD] at h
  | .int _, .bl _, h => by simp [alkD] at h
  | .int _, .str _, h => by simp [alkD] at h
  | .int _, .lst _, h => by simp [alkD] at h
  | .tup _, .int _, h => by simp [alkD] at h
  | .tup _, .non, h => by simp [alkD] at h
  | .tup _, .bl _, h => by simp [alkD] at h
  | .tup _, .str _, h => by simp [alkD] at h
  | .tup _, .lst _, h => by simp [alkD] at h
  | .non, _, h => by simp [alkD] at h
  | .bl _, _, h => by simp [alkD] at h
  | .str _, _, h => by simp [alkD] at h
  | .lst _, _, h => by simp [alkD] at h
theorem alkL_py : ∀ (xs ys : List D), alkL xs ys = true → alikeAll (toPyL xs) (toPyL ys) = true
  | [], _, _ => by simp [toPyL, alikeAll]
  | _ :: _, [], _ => by simp [toPyL, alikeAll]
  | x :: xs, y :: ys, h => by
    simp only [alkL, Bool.and_eq_true] at h
    simp only [toPyL, alikeAll, Bool.and_eq_true]
    exact ⟨alk_py x y h.1, alkL_py xs ys h.2⟩
end
mutual
theorem lt_py : ∀ (x y : D), okD x = true → okD y = true → alkD x y = true → dataLt (toPy x) (toPy y) = !leD y x
  | .int a, .int b, _, _, _ => by
    simp only [toPy]
    rw [dataLt_int, leD_int, ← decide_not]
    exact decide_eq_decide.mpr (by omega)
  | .tup xs, .tup ys, h, g, k => by
    simp only [toPy]
    rw [dataLt_tuple, leD_tup]
    exact ltL_py xs ys (by simpa [okD] using h) (by simpa [okD] using g) (by simpa [alkD] using k)
  | .int _, .tup _, _, _, h => by simp [alkD] at h
  | .int _, .non, _, _, h => by simp [alkD] at h
  | .int _, .bl _, _, _, h => by simp [alkD] at h
  | .int _, .str _, _, _, h => by simp [alkD] at h
  | .int _, .lst _, _, _, h => by simp [alkD] at h
  | .tup _, .int _, _, _, h => by simp [alkD] at h
  | .tup _, .non, _, _, h => by simp [alkD] at h
  | .tup _, .bl _, _, _, h => by simp [alkD] at h
  | .tup _, .str _, _, _, h => by simp [alkD] at h
  | .tup _, .lst _, _, _, h => by simp [alkD] at h
  | .non, _, _, _, h => by simp [alkD] at h
  | .bl _, _, _, _, h => by simp [alkD] at h
  | .str _, _, _, _, h => by simp [alkD] at h
  | .lst _, _, _, _, h => by simp [alkD] at h
theorem ltL_py : ∀ (xs ys : List D), okL xs = true → okL ys = true → alkL xs ys = true → PyProof.Rows.lexLt itemOrd (keyToksAll (toPyL xs)) (keyToksAll (toPyL ys)) = !leL ys xs
  | [], [], _, _, _ => by
    rw [leL_nil]
    exact lex_irrefl _
  | [], y :: ys, _, _, _ => by
    rw [leL_cn]
    simp only [toPyL, keyToksAll]
    exact (lex_diff (O := itemOrd) (by simp)).trans (by decide)
  | x :: xs, [], _, _, _ => by
    rw [leL_nil]
    simp only [toPyL, keyToksAll]
    exact (lex_diff (O := itemOrd) (by simp)).trans (by decide)
  | x :: xs, y :: ys, h, g, k => by
    simp only [okL, alkL, Bool.and_eq_true] at h g k
    simp only [toPyL]
    rw [dataLt_cons (alk_py x y k.1), eqv_py, eqv_ok x y h.1 g.1, leL_cons]
    by_cases e : x = y
    · subst e
      rw [if_pos (decide_eq_true rfl), if_pos rfl]
      exact ltL_py xs ys h.2 g.2 k.2
    · rw [if_neg (by rw [decide_eq_false e]; exact Bool.false_ne_true), if_neg (fun z => e z.symm)]
      exact lt_py x y h.1 g.1 k.1
end
theorem toPy_ne {x : D} (h : okD x = true) : toPy x ≠ .none := by
  rcases okI h with ⟨i, rfl⟩ | ⟨xs, rfl, _⟩ <;> (simp only [toPy]; exact fun z => nomatch z)
mutual
theorem toPy_inj : ∀ (x y : D), toPy x = toPy y → x = y
  | .int a, y, h => by cases y <;> simp only [toPy] at h <;> first | cases h; rfl | cases h
  | .bl a, y, h => by cases y <;> simp only [toPy] at h <;> first | cases h; rfl | cases h
  | .non, y, h => by cases y <;> simp only [toPy] at h <;> first | rfl | cases h
  | .str a, y, h => by cases y <;> simp only [toPy] at h <;> first | cases h; rfl | cases h
  | .tup xs, y, h => by
    cases y <;> simp only [toPy] at h <;> first | cases h | skip
    rw [toPyL_inj xs _ (PyData.tuple.inj h)]
  | .lst xs, y, h => by
    cases y <;> simp only [toPy] at h <;> first | cases h | skip
    rw [toPyL_inj xs _ (PyData.list.inj h)]
theorem toPyL_inj : ∀ (xs ys : List D), toPyL xs = toPyL ys → xs = ys
  | [], [], _ => rfl
  | [], _ :: _, h => by simp only [toPyL] at h; cases h
  | _ :: _, [], h => by simp only [toPyL] at h; cases h
  | x :: xs, y :: ys, h => by
    simp only [toPyL] at h
    injection h with h1 h2
    rw [toPy_inj x y h1, toPyL_inj xs ys h2]
end
/-- two alike data, neither less: the same -/
theorem le_anti {x y : D} (hx : okD x = true) (hy : okD y = true) (k : alkD x y = true) (k' : alkD y x = true) (h : leD x y = true) (g : leD y x = true) : x = y := by
  have e1 := lt_py x y hx hy k
  have e2 := lt_py y x hy hx k'
  rw [g] at e1
  rw [h] at e2
  have et := lex_total (O := itemOrd) (keyToks (toPy x)) (keyToks (toPy y)) e1 e2
  have te := toks_eqv _ _ (alk_py x y k)
  cases q : PyData.eqv (toPy x) (toPy y) with
  | true =>
    rw [eqv_py, eqv_ok x y hx hy] at q
    exact of_decide_eq_true q
  | false =>
    have := te.2 q [] [.inl 0]
    rw [et, lex_pre] at this
    have e3 : PyProof.Rows.lexLt itemOrd ([] : List itemOrd.α) [.inl 0] = true := rfl
    rw [e3] at this
    rw [lex_irrefl] at this
    cases this
theorem Good.alike {n : Nat} {xs : List D} (h : Good n xs) : AlikeAll (toPyL xs) := by
  have mem : ∀ {ys : List D} {p : PyData}, p ∈ toPyL ys → ∃ d ∈ ys, p = toPy d := by
    intro ys
    induction ys with
    | nil => intro p hp; simp only [toPyL] at hp; cases hp
    | cons y ys ih =>
      intro p hp
      simp only [toPyL] at hp
      rcases List.mem_cons.mp hp with e | e
      · exact ⟨y, List.mem_cons_self, e⟩
      · obtain ⟨d, hd, e⟩ := ih e
        exact ⟨d, List.mem_cons_of_mem _ hd, e⟩
  refine ⟨fun p hp q hq => ?_, fun p hp => ?_⟩
  · obtain ⟨x, hx, rfl⟩ := mem hp
    obtain ⟨y, hy, rfl⟩ := mem hq
    exact alk_py x y (h.alk x hx y hy)
  · obtain ⟨x, hx, rfl⟩ := mem hp
    exact toPy_ne (h.ok x hx)
theorem Good.depth {n : Nat} {xs : List D} (h : ∀ x ∈ xs, shp n x = true) : PyData.depthAll (toPyL xs) ≤ n := (shpL_lay (n := n) (ds := xs) (by rw [shpL_all]; exact List.all_eq_true.mpr h)).2
/-- the least of data -/
theorem minD_least {n : Nat} {x : D} {xs : List D} (h : Good n (x :: xs)) : ∃ m, m ∈ x :: xs ∧ (∀ y ∈ x :: xs, dataLt (toPy y) (toPy m) = false) ∧ minD (toPy x) (toPyL xs) = toPy m := by
  unfold minD
  have key : ∀ (ys : List D) (a : D) (seen : List D), (∀ y ∈ ys, y ∈ x :: xs) → a ∈ x :: xs → (∀ y ∈ seen, dataLt (toPy y) (toPy a) = false) → ∃ m, m ∈ x :: xs ∧ (∀ y ∈ seen ++ ys, dataLt (toPy y) (toPy m) = false) ∧ (toPyL ys).foldl (fun a y => if dataLt y a then y else a) (toPy a) = toPy m := by
    intro ys
    induction ys with
    | nil => intro a seen _ ha hs; exact ⟨a, ha, by simpa using hs, by simp only [toPyL, List.foldl_nil]⟩
    | cons y ys ih =>
      intro a seen hy ha hs
      simp only [toPyL, List.foldl_cons]
      have hym := hy y List.mem_cons_self
      have hys := fun z hz => hy z (List.mem_cons_of_mem _ hz)
      cases c : dataLt (toPy y) (toPy a) with
      | true =>
        rw [if_pos rfl]
        obtain ⟨m, m1, m2, m3⟩ := ih y (seen ++ [y]) hys hym (fun z hz => by
          rcases List.mem_append.mp hz with hz | hz
          · have hz := hs z hz
            cases d : dataLt (toPy z) (toPy y) with
            | false => rfl
            | true =>
              have := lex_trans (O := itemOrd) _ _ _ d c
              rw [show dataLt (toPy z) (toPy a) = true from this] at hz
              cases hz
          · rw [List.mem_singleton.mp hz]; exact dataLt_self' _)
        exact ⟨m, m1, by simpa using m2, m3⟩
      | false =>
        rw [if_neg Bool.false_ne_true]
        obtain ⟨m, m1, m2, m3⟩ := ih a (seen ++ [y]) hys ha (fun z hz => by
          rcases List.mem_append.mp hz with hz | hz
          · exact hs z hz
          · rw [List.mem_singleton.mp hz]; exact c)
        exact ⟨m, m1, by simpa using m2, m3⟩
  obtain ⟨m, m1, m2, m3⟩ := key xs x [x] (fun y hy => List.mem_cons_of_mem _ hy) List.mem_cons_self (fun y hy => by rw [List.mem_singleton.mp hy]; exact dataLt_self' _)
  exact ⟨m, m1, by simpa using m2, m3⟩
where dataLt_self' (d : PyData) : dataLt d d = false := lex_irrefl _
theorem maxD_most {n : Nat} {x : D} {xs : List D} (h : Good n (x :: xs)) : ∃ m, m ∈ x :: xs ∧ (∀ y ∈ x :: xs, dataLt (toPy m) (toPy y) = false) ∧ maxD (toPy x) (toPyL xs) = toPy m := by
  unfold maxD
  have key : ∀ (ys : List D) (a : D) (seen : List D), (∀ y ∈ ys, y ∈ x :: xs) → a ∈ x :: xs → (∀ y ∈ seen, dataLt (toPy a) (toPy y) = false) → ∃ m, m ∈ x :: xs ∧ (∀ y ∈ seen ++ ys, dataLt (toPy m) (toPy y) = false) ∧ (toPyL ys).foldl (fun a y => if dataLt a y then y else a) (toPy a) = toPy m := by
    intro ys
    induction ys with
    | nil => intro a seen _ ha hs; exact ⟨a, ha, by simpa using hs, by simp only [toPyL, List.foldl_nil]⟩
    | cons y ys ih =>
      intro a seen hy ha hs
      simp only [toPyL, List.foldl_cons]
      have hym := hy y List.mem_cons_self
      have hys := fun z hz => hy z (List.mem_cons_of_mem _ hz)
      cases c : dataLt (toPy a) (toPy y) with
      | true =>
        rw [if_pos rfl]
        obtain ⟨m, m1, m2, m3⟩ := ih y (seen ++ [y]) hys hym (fun z hz => by
          rcases List.mem_append.mp hz with hz | hz
          · have hz := hs z hz
            cases d : dataLt (toPy y) (toPy z) with
            | false => rfl
            | true =>
              have := lex_trans (O := itemOrd) _ _ _ c d
              rw [show dataLt (toPy a) (toPy z) = true from this] at hz
              cases hz
          · rw [List.mem_singleton.mp hz]; exact lex_irrefl _)
        exact ⟨m, m1, by simpa using m2, m3⟩
      | false =>
        rw [if_neg Bool.false_ne_true]
        obtain ⟨m, m1, m2, m3⟩ := ih a (seen ++ [y]) hys ha (fun z hz => by
          rcases List.mem_append.mp hz with hz | hz
          · exact hs z hz
          · rw [List.mem_singleton.mp hz]; exact c)
        exact ⟨m, m1, by simpa using m2, m3⟩
  obtain ⟨m, m1, m2, m3⟩ := key xs x [x] (fun y hy => List.mem_cons_of_mem _ hy) List.mem_cons_self (fun y hy => by rw [List.mem_singleton.mp hy]; exact lex_irrefl _)
  exact ⟨m, m1, by simpa using m2, m3⟩
section
variable {X : Cx}
/-- items by their data -/
theorem readsL {pins : List (Addr × Obj)} {σ : L2.St} {H F : Hp} {s : Shared} (I : Inv X pins σ H s) (sf : Same F H) : ∀ {ds : List D} {xs : List V} {us : List Value}, RpL X.K F ds xs → Vals xs us → ∃ as, ReadsAll s.heap us (toPyL ds) as
  | [], _, us, r, v => by
    simp only [RpL] at r
    subst r
    cases v
    exact ⟨[], .nil⟩
  | d :: ds, _, us, r, v => by
    obtain ⟨x, xs, rfl, h2, h3⟩ := RpL.inv r
    cases v with
    | cons a b =>
      obtain ⟨bs, hb⟩ := readsL I sf h3 b
      obtain ⟨as, ha⟩ := Dp.reads I _ _ _ (dp_of sf h2) a
      simp only [toPyL]
      exact ⟨as ++ bs, .cons ha hb⟩
theorem pickD {pins : List (Addr × Obj)} {σ : L2.St} {H F : Hp} {s : Shared} (I : Inv X pins σ H s) (sf : Same F H) {ds : List D} {xs : List V} {us : List Value} (r : RpL X.K F ds xs) (hv : Vals xs us) {i : Nat} {v : Value} (hi : us[i]? = some v) {m : D} {bs : List Addr} (rd : Reads s.heap v (toPy m) bs) :
    ∃ x, RelV x v ∧ Rp X.K F m x := by
  have hx : ∃ x, xs[i]? = some x ∧ RelV x v := by
    have hl := hv.length
    have hlt := (List.getElem?_eq_some_iff.mp hi).1
    obtain ⟨u, e1, e2⟩ := hv.get (i := i) (List.getElem?_eq_getElem (by omega))
    rw [hi] at e1
    cases e1
    exact ⟨_, List.getElem?_eq_getElem (by omega), e2⟩
  obtain ⟨x, e, rx⟩ := hx
  have hd : ∃ d, ds[i]? = some d ∧ Rp X.K F d x := by
    have hl := r.len
    have hlt := (List.getElem?_eq_some_iff.mp e).1
    obtain ⟨u, e1, e2⟩ := r.get (i := i) (List.getElem?_eq_getElem (by omega))
    rw [e] at e1
    cases e1
    exact ⟨_, List.getElem?_eq_getElem (by omega), e2⟩
  obtain ⟨d, _, rdx⟩ := hd
  obtain ⟨as, ra⟩ := Dp.reads I _ _ _ (dp_of sf rdx) rx
  have := toPy_inj _ _ (PySem.Reads.unique ra _ _ rd).1
  subst this
  exact ⟨x, rx, rdx⟩

/-! ### min, max -/
theorem us_list {K : PySem.W.Frag} {F : Hp} {d : D} {ds : List D} {vs : List V} (r : RpL K F (d :: ds) vs) : 0 < vs.length := by rw [r.len, List.length_cons]; omega
def rMinG (X : Cx) : List V → Hp → VK → Prop := fun vs H Q => ∃ (F : Hp) (ds : List D) (Qd : D → Prop), Same F H ∧ RpL X.K F ds vs ∧ pMinG ds Qd ∧ ∀ w F' H' d, Ext F H F' H' → Rp X.K F' d w → Qd d → Q w H'
def rMaxG (X : Cx) : List V → Hp → VK → Prop := fun vs H Q => ∃ (F : Hp) (ds : List D) (Qd : D → Prop), Same F H ∧ RpL X.K F ds vs ∧ pMaxG ds Qd ∧ ∀ w F' H' d, Ext F H F' H' → Rp X.K F' d w → Qd d → Q w H'
theorem good_cons {n : Nat} {xs : List D} {m : D} (hm : m ∈ xs) : ∃ x ys, xs = x :: ys := by
  cases xs with
  | nil => cases hm
  | cons x ys => exact ⟨x, ys, rfl⟩
theorem min_core {pins : List (Addr × Obj)} {σ : L2.St} {H F : Hp} {s1 : Shared} {xs : List D} {m : D} {vs : List V} {us : List Value} {tk : Nat} {Q : VK} {i : Nat} {v : Value} {h' : Heap} {bs : List Addr} {x : D} {ys : List D}
    (I : Inv X pins σ H s1) (sf : Same F H) (r : RpL X.K F xs vs) (hv : Vals vs us) (g : Good 50 xs) (hm : m ∈ xs) (le : ∀ y ∈ xs, leD m y = true) (e : xs = x :: ys)
    (hi : us[i]? = some v) (rd : Reads h' v (minD (toPy x) (toPyL ys)) bs) (hk : ∀ (b : Addr) (o : Obj), s1.heap.get? b = some o → h'.get? b = some o)
    (k : ∀ w, Rp X.K F m w → Q w H) : EP X pins σ Q v { s1 with heap := h', toks := tk } := by
  subst e
  obtain ⟨m', h1, h2, h3⟩ := minD_least g
  rw [h3] at rd
  have e : m' = m := by
    have a1 := h2 m hm
    rw [lt_py _ _ (g.ok m hm) (g.ok m' h1) (g.alk m hm m' h1)] at a1
    exact le_anti (g.ok m' h1) (g.ok m hm) (g.alk m' h1 m hm) (g.alk m hm m' h1) (by simpa using a1) (le m' h1)
  subst e
  have I2 : Inv X pins σ H { s1 with heap := h', toks := tk } := I.kept (t' := tk) hk
  obtain ⟨w, rw1, rw2⟩ := pickD I2 sf r hv hi rd
  exact ⟨w, H, I2, rw1, k w rw2⟩
theorem max_core {pins : List (Addr × Obj)} {σ : L2.St} {H F : Hp} {s1 : Shared} {xs : List D} {m : D} {vs : List V} {us : List Value} {tk : Nat} {Q : VK} {i : Nat} {v : Value} {h' : Heap} {bs : List Addr} {x : D} {ys : List D}
    (I : Inv X pins σ H s1) (sf : Same F H) (r : RpL X.K F xs vs) (hv : Vals vs us) (g : Good 50 xs) (hm : m ∈ xs) (le : ∀ y ∈ xs, leD y m = true) (e : xs = x :: ys)
    (hi : us[i]? = some v) (rd : Reads h' v (maxD (toPy x) (toPyL ys)) bs) (hk : ∀ (b : Addr) (o : Obj), s1.heap.get? b = some o → h'.get? b = some o)
    (k : ∀ w, Rp X.K F m w → Q w H) : EP X pins σ Q v { s1 with heap := h', toks := tk } := by
  subst e
  obtain ⟨m', h1, h2, h3⟩ := maxD_most g
  rw [h3] at rd
  have e : m' = m := by
    have a1 := h2 m hm
    rw [lt_py _ _ (g.ok m' h1) (g.ok m hm) (g.alk m' h1 m hm)] at a1
    exact le_anti (g.ok m' h1) (g.ok m hm) (g.alk m' h1 m hm) (g.alk m hm m' h1) (le m' h1) (by simpa using a1)
  subst e
  have I2 : Inv X pins σ H { s1 with heap := h', toks := tk } := I.kept (t' := tk) hk
  obtain ⟨w, rw1, rw2⟩ := pickD I2 sf r hv hi rd
  exact ⟨w, H, I2, rw1, k w rw2⟩
theorem cr_minG (hc : X.calm = true) (hu : X.A.units + 65 < cLine) : CallR X (.builtin "min") (rMinG X) := by
  intro pins s σ H vs us Q I r h
  obtain ⟨F, ds, Qd, sf, rd, p, k⟩ := h
  obtain ⟨a, ws, xs, rfl, hs, rx, g, m, hm, le, q⟩ := asNs_of sf rd p
  obtain ⟨x, ys, e⟩ := good_cons (n := 50) hm
  rw [Vals.ref1 r]
  have hd : PyData.depthAll (toPyL xs) ≤ 50 := Good.depth g.sh
  have al := g.alike
  have kk : ∀ w, Rp X.K F m w → Q w H := fun w hw => k w F H m (.refl sf) hw q
  rcases hs with hs | hs
  · obtain ⟨its, rv, hl, _⟩ := I.list hs
    obtain ⟨as, ra⟩ := readsL I sf rx rv
    refine min_list_data (x := toPy x) (xs := toPyL ys) (as := as) (I.ok.hd hc) hl.isList ?_ ?_ ?_ fun i v h' tk bs hi rd hk => min_core I sf rx rv g hm le e (by simpa using hi) rd hk kk
    · rw [e] at ra; simpa only [toPyL] using ra
    · rw [e] at al; simpa only [toPyL] using al
    · rw [e] at hd; simp only [toPyL] at hd; omega
  · obtain ⟨its, rv, hl, _⟩ := I.tuple hs
    obtain ⟨as, ra⟩ := readsL I sf rx rv
    refine min_tuple_data (x := toPy x) (xs := toPyL ys) (as := as) (I.ok.hd hc) hl ?_ ?_ ?_ fun i v h' tk bs hi rd hk => min_core I sf rx rv g hm le e (by simpa using hi) rd hk kk
    · rw [e] at ra; simpa only [toPyL] using ra
    · rw [e] at al; simpa only [toPyL] using al
    · rw [e] at hd; simp only [toPyL] at hd; omega
theorem cr_maxG (hc : X.calm = true) (hu : X.A.units + 65 < cLine) : CallR X (.builtin "max") (rMaxG X) := by
  intro pins s σ H vs us Q I r h
  obtain ⟨F, ds, Qd, sf, rd, p, k⟩ := h
  obtain ⟨a, ws, xs, rfl, hs, rx, g, m, hm, le, q⟩ := asNs_of sf rd p
  obtain ⟨x, ys, e⟩ := good_cons (n := 50) hm
  rw [Vals.ref1 r]
  have hd : PyData.depthAll (toPyL xs) ≤ 50 := Good.depth g.sh
  have al := g.alike
  have kk : ∀ w, Rp X.K F m w → Q w H := fun w hw => k w F H m (.refl sf) hw q
  rcases hs with hs | hs
  · obtain ⟨its, rv, hl, _⟩ := I.list hs
    obtain ⟨as, ra⟩ := readsL I sf rx rv
    refine max_list_data (x := toPy x) (xs := toPyL ys) (as := as) (I.ok.hd hc) hl.isList ?_ ?_ ?_ fun i v h' tk bs hi rd hk => max_core I sf rx rv g hm le e (by simpa using hi) rd hk kk
    · rw [e] at ra; simpa only [toPyL] using ra
    · rw [e] at al; simpa only [toPyL] using al
    · rw [e] at hd; simp only [toPyL] at hd; omega
  · obtain ⟨its, rv, hl, _⟩ := I.tuple hs
    obtain ⟨as, ra⟩ := readsL I sf rx rv
    refine max_tuple_data (x := toPy x) (xs := toPyL ys) (as := as) (I.ok.hd hc) hl ?_ ?_ ?_ fun i v h' tk bs hi rd hk => max_core I sf rx rv g hm le e (by simpa using hi) rd hk kk
    · rw [e] at ra; simpa only [toPyL] using ra
    · rw [e] at al; simpa only [toPyL] using al
    · rw [e] at hd; simp only [toPyL] at hd; omega
theorem b_minG (hc : X.calm = true) (hu : X.A.units + 65 < cLine) : CallR X (.builtin "min") (rMinG X) ∧ VC X.K (rMinG X) pMinG := ⟨cr_minG hc hu, fun F H ds vs Qd Q s r h k => ⟨F, ds, Qd, s, r, h, k⟩⟩
theorem b_maxG (hc : X.calm = true) (hu : X.A.units + 65 < cLine) : CallR X (.builtin "max") (rMaxG X) ∧ VC X.K (rMaxG X) pMaxG := ⟨cr_maxG hc hu, fun F H ds vs Qd Q s r h k => ⟨F, ds, Qd, s, r, h, k⟩⟩
/-! ### sorted(x) -/
theorem perm_val {xs : List D} {a b : List {d : D // d ∈ xs}} (h : (a.map Subtype.val).Perm (b.map Subtype.val)) : a.Perm b := by
  classical
  have key : ∀ (l : List {d : D // d ∈ xs}) (x : {d : D // d ∈ xs}), List.count x.1 (l.map Subtype.val) = List.count x l := by
    intro l x
    induction l with
    | nil => rfl
    | cons y l ih =>
      rw [List.map_cons, List.count_cons, List.count_cons, ih]
      by_cases e : y = x
      · subst e; simp
      · have : ¬ y.1 = x.1 := fun z => e (Subtype.ext z)
        simp [e, this]
  rw [List.perm_iff_count] at h ⊢
  intro x
  have := h x.1
  rwa [key, key] at this
theorem pw_val {xs : List D} {a : List {d : D // d ∈ xs}} (h : (a.map Subtype.val).Pairwise fun x y => leD x y = true) : a.Pairwise fun x y => leD x.1 y.1 = true := List.pairwise_map.mp h

theorem le_lt {x y : D} (hx : okD x = true) (hy : okD y = true) (k : alkD y x = true) : leD x y = !dataLt (toPy y) (toPy x) := by
  rw [lt_py y x hy hx k, Bool.not_not]
theorem Good.trans {n : Nat} {xs : List D} (g : Good n xs) {x y z : D} (hx : x ∈ xs) (hy : y ∈ xs) (hz : z ∈ xs) (h1 : leD x y = true) (h2 : leD y z = true) : leD x z = true := by
  rw [le_lt (g.ok x hx) (g.ok z hz) (g.alk z hz x hx)]
  cases c : dataLt (toPy z) (toPy x) with
  | false => rfl
  | true =>
    rw [le_lt (g.ok x hx) (g.ok y hy) (g.alk y hy x hx), Bool.not_eq_true'] at h1
    rw [le_lt (g.ok y hy) (g.ok z hz) (g.alk z hz y hy), Bool.not_eq_true'] at h2
    cases d : dataLt (toPy x) (toPy y) with
    | true =>
      have : dataLt (toPy z) (toPy y) = true := lex_trans (O := itemOrd) _ _ _ c d
      rw [this] at h2
      cases h2
    | false =>
      have e : x = y := le_anti (g.ok x hx) (g.ok y hy) (g.alk x hx y hy) (g.alk y hy x hx) (by rw [le_lt (g.ok x hx) (g.ok y hy) (g.alk y hy x hx), h1]; rfl) (by rw [le_lt (g.ok y hy) (g.ok x hx) (g.alk x hx y hy), d]; rfl)
      subst e
      rw [c] at h2
      cases h2
theorem Good.total {n : Nat} {xs : List D} (g : Good n xs) {x y : D} (hx : x ∈ xs) (hy : y ∈ xs) : (leD x y || leD y x) = true := by
  rw [le_lt (g.ok x hx) (g.ok y hy) (g.alk y hy x hx), le_lt (g.ok y hy) (g.ok x hx) (g.alk x hx y hy)]
  cases c : dataLt (toPy y) (toPy x) with
  | false => rfl
  | true =>
    cases d : dataLt (toPy x) (toPy y) with
    | false => rfl
    | true =>
      have : dataLt (toPy x) (toPy x) = true := lex_trans (O := itemOrd) _ _ _ d c
      rw [show dataLt (toPy x) (toPy x) = false from lex_irrefl _] at this
      cases this
theorem depth_one {n : Nat} {x : D} (h : shp n x = true) : (toPy x).depth ≤ n := by
  have := Good.depth (n := n) (xs := [x]) fun y hy => by rw [List.mem_singleton.mp hy]; exact h
  simp only [toPyL, PyData.depthAll] at this
  omega
theorem no_tup {d : D} (h : ∃ i, d = .int i) : toPy d ≠ .none ∧ ∀ xs, toPy d ≠ .tuple xs := by
  obtain ⟨i, rfl⟩ := h
  simp only [toPy]
  exact ⟨fun z => (nomatch z), fun xs z => (nomatch z)⟩
def kG {xs : List D} (g : Good 2 xs) (rd : ∀ x ∈ xs, ∀ (h : Heap) v as, Reads h v (toPy x) as → as = []) : SortKind {d : D // d ∈ xs} where
  eD := fun d => d.1
  eP := fun d => toPy d.1
  py _ := rfl
  rd h v d as r := rd d.1 d.2 h v as r
  le x y := leD x.1 y.1
  dl := by
    funext p q
    rw [dataLe_eq]
    exact (le_lt (g.ok _ p.2.2) (g.ok _ q.2.2) (g.alk _ q.2.2 _ p.2.2)).symm
  anti x y h k := Subtype.ext (le_anti (g.ok _ x.2) (g.ok _ y.2) (g.alk _ x.2 _ y.2) (g.alk _ y.2 _ x.2) h k)
  trans x y z h k := g.trans x.2 y.2 z.2 h k
  total x y := g.total x.2 y.2
  dep d := depth_one (g.sh _ d.2)
mutual
theorem readOk : ∀ (x : D), okD x = true → ∀ (h : Heap) v as, Reads h v (toPy x) as → as = []
  | .int _, _, _, _, _, r => by simp only [toPy] at r; cases r; rfl
  | .tup xs, hk, h, v, as, r => by
    simp only [toPy] at r
    cases r with
    | tuple _ _ _ r => exact readOkL xs (by simpa [okD] using hk) _ _ _ r
  | .non, hk, _, _, _, _ => by simp [okD] at hk
  | .bl _, hk, _, _, _, _ => by simp [okD] at hk
  | .str _, hk, _, _, _, _ => by simp [okD] at hk
  | .lst _, hk, _, _, _, _ => by simp [okD] at hk
theorem readOkL : ∀ (xs : List D), okL xs = true → ∀ (h : Heap) vs as, ReadsAll h vs (toPyL xs) as → as = []
  | [], _, _, _, _, r => by simp only [toPyL] at r; cases r; rfl
  | x :: xs, hk, h, vs, as, r => by
    simp only [toPyL] at r
    simp only [okL, Bool.and_eq_true] at hk
    cases r with
    | cons a b => rw [readOk x hk.1 _ _ _ a, readOkL xs hk.2 _ _ _ b]; rfl
end
theorem qf_sortG {e : Expr} {te : Ex} {p pos : Pos} (hu : X.A.units + 65 < cLine) (hm : X.mg "sorted" = none) (ha : QE X e te) (hg : Gl X "sorted" := by rfl) (na : starEach [e] X.env = (false, eval e X.env) :: starEach [] X.env := by rfl) :
    QF X (.Call (.Name "sorted" p) [e] [] pos) (eCall (pSortG false) (aCons te aNil)) := by
  refine ⟨fun pins s σ H Q I h => ?_⟩
  obtain ⟨F0, B, F, δ, Qd, S, h, k⟩ := h
  refine Call_ (ld_blt I hg hm (by decide +kernel : bootBuiltins "sorted" = some (.builtin "sorted")) ?_)
  refine callWith_builtin1 (args_cons (thn (ha.run pins s σ H (fun v H1 => ∃ F1 d, Ext F H F1 H1 ∧ Rp X.K F1 d v ∧ pSortG false [d] Qd) I ⟨F0, B, F, δ, _, S, h, fun v F1 H1 d x1 r1 q1 => ⟨F1, d, x1, r1, q1⟩⟩) fun v s1 ⟨x, H1, I1, r1, q1⟩ => args_nil ?_) na) na rfl
  obtain ⟨F1, d, x1, rd, q1⟩ := q1
  have body : ∀ (a : Addr) (xs : List D) (vs : List V) (T : String) (o : Obj) (n : Nat) (us : List Value), (T = "list" ∨ T = "tuple") → s1.heap.get? a = some o → o.cls = .type T → o.data = .seq us.toArray n → Vals vs us → RpL X.K F1 xs vs → vs.length ≤ sizeLine →
      (Good 2 xs ∧ ((∀ x ∈ xs, ∃ y ys, x = .tup (y :: ys)) ∨ (∀ x ∈ xs, ∃ i, x = .int i)) ∧ ∃ ys : List D, ys.Perm xs ∧ ys.Pairwise (fun a b => (if false = true then leD b a else leD a b) = true) ∧ Qd (.lst ys)) →
      wpAny (model X.prog X.w) X.A (call (.builtin "sorted") [.ref a]) (EP X pins σ Q) X.xe s1 := by
    intro a xs vs T o n us hT ho hc hd hv hr hl q
    obtain ⟨g, so, ys, hp, hs, q2⟩ := q
    have hys : ∀ y ∈ ys, y ∈ xs := fun y hy => hp.mem_iff.mp hy
    have e1 : xs.attach.map (kG g fun x hx => readOk x (g.ok x hx)).eD = xs := List.attach_map_subtype_val xs
    have e2 : (ys.attachWith (· ∈ xs) hys).map (kG g fun x hx => readOk x (g.ok x hx)).eD = ys := List.attachWith_map_subtype_val hys
    refine sorted_of (kG g fun x hx => readOk x (g.ok x hx)) (gs := xs.attach) (ys := ys.attachWith (· ∈ xs) hys) hu I1 x1.s hT ho hc hd hv (by rw [e1]; exact hr) hl ?_ ?_ ?_ ?_ fun l zs hn hr2 => ?_
    · intro d hd d' hd'
      obtain ⟨i, _, rfl⟩ := List.mem_map.mp hd
      obtain ⟨j, _, rfl⟩ := List.mem_map.mp hd'
      exact alk_py _ _ (g.alk _ i.2 _ j.2)
    · rcases so with so | so
      · refine .inl fun d hd => ?_
        obtain ⟨i, _, rfl⟩ := List.mem_map.mp hd
        obtain ⟨y, ys, e⟩ := so i.1 i.2
        refine ⟨toPy y, toPyL ys, ?_⟩
        show toPy i.1 = _
        rw [e]
        simp only [toPy, toPyL]
      · refine .inr fun d hd => ?_
        obtain ⟨i, _, rfl⟩ := List.mem_map.mp hd
        exact no_tup (so i.1 i.2)
    · have : ((ys.attachWith (· ∈ xs) hys).map Subtype.val).Perm (xs.attach.map Subtype.val) := by
        rw [List.attachWith_map_subtype_val, List.attach_map_subtype_val]; exact hp
      exact perm_val this
    · refine pw_val ?_
      rw [List.attachWith_map_subtype_val]
      exact hs.imp fun h => by simpa using h
    · rw [e2] at hr2
      have sH : Same H1 (upd H1 l (.lst zs)) := upd_same_of hn
      exact k l zs ys F1 _ ⟨x1.f, x1.h.thenS sH, x1.s.trans sH, x1.n⟩ (x1.h.free hn) (x1.s.free hn) upd_same hr2 q2
  cases d with
  | lst xs =>
    obtain ⟨a, vs, rfl, g1, g2⟩ := rd.lstI
    cases r1
    obtain ⟨us, hv, pl, hz⟩ := I1.list (x1.s.seq g1)
    obtain ⟨o, ho, hc, n, hd⟩ := pl.isList
    exact body a xs vs "list" o n us (.inl rfl) ho hc hd hv g2 hz q1
  | tup xs =>
    obtain ⟨a, vs, rfl, g1, g2⟩ := rd.tupI
    cases r1
    obtain ⟨us, hv, pl, hz⟩ := I1.tuple (sameT x1.s g1)
    obtain ⟨o, ho, hc, n, hd⟩ := pl
    exact body a xs vs "tuple" o n us (.inr rfl) ho hc hd hv g2 hz q1
  | _ => exact q1.elim
/-! ### slices of lists are new lists -/
theorem qf_slice {e : Expr} {lo hi : Option Expr} {t : Ex} {tl th : Pt} {pos p2 : Pos} (he : QE X e t) (hl : PO X lo (lftO X.K tl)) (hu : PO X hi (lftO X.K th)) : QF X (.Subscript e (.Slice lo hi none p2) pos) (eSliceF t tl th) :=
  imp_PE (pe_slice (sl_tupA.or sl_list) he hl hu) fun σ H Q h => by
    obtain ⟨F0, B, F, δ, Qd, S, h, k⟩ := h
    refine ⟨F0, B, F, δ, _, S, h, fun v F1 H1 d x1 r1 q1 => ?_⟩
    cases d with
    | lst xs =>
      refine ⟨F0, B, F1, δ, _, S.mono x1, q1, fun l F2 H2 x2 q2 => ⟨F0, B, F2, δ, _, (S.mono x1).mono x2, q2, fun u F3 H3 x3 q3 => ?_⟩⟩
      have x13 := (x1.trans x2).trans x3
      have r3 := r1.mono (x2.f.trans x3.f)
      obtain ⟨a, vs, rfl, h1, h2⟩ := r3.lstI
      refine .inr ⟨a, vs, rfl, x3.s.seq h1, fun p hp => ?_⟩
      have sH : Same H3 (upd H3 p (.lst (cutV vs l u))) := upd_same_of hp
      exact k p _ _ F3 _ ⟨x13.f, x13.h.thenS sH, x13.s.trans sH, x13.n⟩ (x13.h.free hp) (x13.s.free hp) upd_same (h2.cut l u) q3
    | _ => exact q1.elim
/-! ### in, not in -/
def rInG (X : Cx) (n : Bool) : R2 := fun x y H Q => ∃ (F : Hp) (d e : D) (Qd : D → Prop), Same F H ∧ Rp X.K F d x ∧ Rp X.K F e y ∧ oInG n d e Qd ∧ ∀ w F' H' d, Ext F H F' H' → Rp X.K F' d w → Qd d → Q w H'
theorem k_inG (hu : X.A.units + 65 < cLine) : OpR X (compareOp .In) (rInG X false) ∧ V2 X.K (rInG X false) (oInG false) := ⟨by
  intro pins s σ H x y v u Q I rx ry h
  obtain ⟨F, d, e, Qd, sf, r1, r2, p, k⟩ := h
  obtain ⟨as, q1⟩ := Dp.reads I _ x v (dp_of sf r1) rx
  obtain ⟨bs, q2⟩ := Dp.reads I _ y u (dp_of sf r2) ry
  cases e with
  | lst ds =>
    obtain ⟨⟨h1, h2⟩, q⟩ := p
    have sl := shp_shaped h2
    simp only [toPy] at sl q2
    refine SeqAt.in_list_reads q2 q1 (SeqAt.canLay_of_shaped sl) (SeqAt.canLay_of_shaped (shp_shaped h1)) (room_in_shaped (shp_shaped h1) hu) ⟨.bl _, H, I, rfl, ?_⟩
    rw [py_any]
    rw [Bool.false_xor] at q
    exact k _ F H _ (.refl sf) (.bl _) q
  | tup ds =>
    obtain ⟨⟨h1, h2⟩, q⟩ := p
    have sl := shp_shaped h2
    simp only [toPy] at sl q2
    refine SeqAt.in_tuple_reads q2 q1 (SeqAt.canLay_of_shaped sl) (SeqAt.canLay_of_shaped (shp_shaped h1)) (room_in_shaped (shp_shaped h1) hu) ⟨.bl _, H, I, rfl, ?_⟩
    rw [py_any]
    rw [Bool.false_xor] at q
    exact k _ F H _ (.refl sf) (.bl _) q
  | _ => exact p.elim, fun F H x y v u Qd Q s rx ry h k => ⟨F, x, y, Qd, s, rx, ry, h, k⟩⟩
theorem k_ninG (hu : X.A.units + 65 < cLine) : OpR X (compareOp .NotIn) (rInG X true) ∧ V2 X.K (rInG X true) (oInG true) := ⟨by
  intro pins s σ H x y v u Q I rx ry h
  obtain ⟨F, d, e, Qd, sf, r1, r2, p, k⟩ := h
  obtain ⟨as, q1⟩ := Dp.reads I _ x v (dp_of sf r1) rx
  obtain ⟨bs, q2⟩ := Dp.reads I _ y u (dp_of sf r2) ry
  cases e with
  | lst ds =>
    obtain ⟨⟨h1, h2⟩, q⟩ := p
    have sl := shp_shaped h2
    simp only [toPy] at sl q2
    refine SeqAt.notIn_list_reads q2 q1 (SeqAt.canLay_of_shaped sl) (SeqAt.canLay_of_shaped (shp_shaped h1)) (room_in_shaped (shp_shaped h1) hu) ⟨.bl _, H, I, rfl, ?_⟩
    rw [py_any]
    rw [Bool.true_xor] at q
    exact k _ F H _ (.refl sf) (.bl _) q
  | tup ds =>
    obtain ⟨⟨h1, h2⟩, q⟩ := p
    have sl := shp_shaped h2
    simp only [toPy] at sl q2
    refine SeqAt.notIn_tuple_reads q2 q1 (SeqAt.canLay_of_shaped sl) (SeqAt.canLay_of_shaped (shp_shaped h1)) (room_in_shaped (shp_shaped h1) hu) ⟨.bl _, H, I, rfl, ?_⟩
    rw [py_any]
    rw [Bool.true_xor] at q
    exact k _ F H _ (.refl sf) (.bl _) q
  | _ => exact p.elim, fun F H x y v u Qd Q s rx ry h k => ⟨F, x, y, Qd, s, rx, ry, h, k⟩⟩
/-! ### sorted(l, reverse=True) -/
theorem ge_uniq {a b : List Int} (ha : a.Pairwise (· ≥ ·)) (hb : b.Pairwise (· ≥ ·)) (p : a.Perm b) : a = b :=
  perm_uniq (le := fun x y : Int => x ≥ y) (fun x y h g => by omega) ha hb p
theorem qf_sortR {e : Expr} {te : Ex} {p pos cpos kpos : Pos} {j : Nat} (hm : X.mg "sorted" = none) (ha : QE X e te) (hg : Gl X "sorted" := by rfl) (na : starEach [e] X.env = (false, eval e X.env) :: starEach [] X.env := by rfl)
    (hall : (backToKw pos (keywordEach [⟨some (Str.ofString "reverse"), .Constant (.bool true) j cpos, kpos⟩] X.env)).all (·.1.isSome) = true := by rfl) (hnone : (backToKw pos (keywordEach [⟨some (Str.ofString "reverse"), .Constant (.bool true) j cpos, kpos⟩] X.env)).any (·.1.isNone) = false := by rfl)
    (hks : (backToKw pos (keywordEach [⟨some (Str.ofString "reverse"), .Constant (.bool true) j cpos, kpos⟩] X.env)).filterMap (·.1) = [Str.ofString "reverse"] := by rfl) :
    QF X (.Call (.Name "sorted" p) [e] [⟨some (Str.ofString "reverse"), .Constant (.bool true) j cpos, kpos⟩] pos) (eCall pSortR (aCons te aNil)) :=
  imp_PE (pe_callBK (cr_sortedRev (b := true)) hg hm (by decide +kernel) (pa_cons ha pa_nil na) (pk_cons (pe_bl (b := true)) pk_nil) (by decide) (by decide) (by rw [na]; rfl) (by rw [na]; rfl) hall hnone hks) fun σ H Q h => by
    obtain ⟨F0, B, F, δ, Qd, S, h, k⟩ := h
    refine ⟨F0, B, F, δ, _, S, h, fun v F1 H1 d x1 r1 q1 => ?_⟩
    cases d with
    | lst xs =>
      obtain ⟨ns, ms, rfl, hp, hs, q⟩ := q1
      obtain ⟨a, vs, rfl, h1, h2⟩ := r1.lstI
      have e := ints_rp h2
      subst e
      refine ⟨a, ns, rfl, rfl, x1.s.seq h1, fun ns' l p' s' hl => ?_⟩
      have s' : ns'.Pairwise (· ≥ ·) := s'
      have e2 : ns' = ms := ge_uniq s' hs (p'.trans hp.symm)
      subst e2
      have sH : Same H1 (upd H1 l (.lst (ns'.map V.int))) := upd_same_of hl
      exact k l (ns'.map V.int) (ns'.map D.int) F1 _ ⟨x1.f, x1.h.thenS sH, x1.s.trans sH, x1.n⟩ (x1.h.free hl) (x1.s.free hl) upd_same (.ints _) q
    | _ => exact q1.elim
end
end PL

set_option Elab.async false
set_option linter.all false
namespace PL
open PySem (Str)
/-! PLK: dicts that a def owns, the pure side (light). -/
def dget (kvs : List (D × D)) (x : D) : Option D := (kvs.find? fun p => decide (p.1 = x)).map (·.2)
def dput (kvs : List (D × D)) (k v : D) : List (D × D) := if (kvs.any fun p => decide (p.1 = k)) then kvs.map fun p => if p.1 = k then (p.1, v) else p else kvs ++ [(k, v)]
theorem dget_nil (x : D) : dget [] x = none := rfl
theorem dget_cons (p : D × D) (r : List (D × D)) (x : D) : dget (p :: r) x = if p.1 = x then some p.2 else dget r x := by
  unfold dget
  rw [List.find?_cons]
  by_cases h : p.1 = x <;> simp [h]
theorem dget_any (kvs : List (D × D)) (k : D) : (kvs.any fun p => decide (p.1 = k)) = (dget kvs k).isSome := by
  induction kvs with
  | nil => rfl
  | cons p r ih =>
    rw [List.any_cons, dget_cons, ih]
    by_cases h : p.1 = k <;> simp [h]
theorem dget_app (a b : List (D × D)) (x : D) : dget (a ++ b) x = (dget a x).or (dget b x) := by
  induction a with
  | nil => simp [dget]
  | cons p r ih =>
    rw [List.cons_append, dget_cons, dget_cons, ih]
    by_cases h : p.1 = x <;> simp [h]
theorem dget_map (k v x : D) (kvs : List (D × D)) : dget (kvs.map fun p => if p.1 = k then (p.1, v) else p) x = if x = k then (dget kvs x).map fun _ => v else dget kvs x := by
  induction kvs with
  | nil => simp [dget]
  | cons p r ih =>
    rw [List.map_cons, dget_cons, dget_cons, ih]
    by_cases h : p.1 = k <;> by_cases h2 : x = k <;> by_cases h3 : p.1 = x <;> simp_all
theorem dget_put (kvs : List (D × D)) (k v x : D) : dget (dput kvs k v) x = if x = k then some v else dget kvs x := by
  unfold dput
  rw [dget_any]
  cases h : dget kvs k with
  | none =>
    simp only [Option.isSome_none, Bool.false_eq_true, if_false]
    rw [dget_app, dget_cons]
    by_cases hx : x = k
    · subst hx; simp [h]
    · rw [if_neg (fun e => hx e.symm), if_neg hx]; cases dget kvs x <;> rfl
  | some d =>
    simp only [Option.isSome_some, if_true]
    rw [dget_map]
    by_cases hx : x = k
    · subst hx; simp [h]
    · rw [if_neg hx, if_neg hx]
theorem dput_len (kvs : List (D × D)) (k v : D) : (dput kvs k v).length ≤ kvs.length + 1 := by
  unfold dput
  split
  · rw [List.length_map]; omega
  · rw [List.length_append]; simp
theorem dput_new {kvs : List (D × D)} {k v : D} (h : dget kvs k = none) : dput kvs k v = kvs ++ [(k, v)] := by
  unfold dput
  rw [dget_any, h]; rfl
def isKey : D → Bool
  | .int _ => true
  | .str _ => true
  | _ => false
/-- k: the keys are tuples -/
def keyOk : Bool → D → Bool
  | false, d => isKey d
  | true, .tup xs => xs.all isKey
  | true, _ => false
theorem keyOk_i (i : Int) : keyOk false (.int i) = true := rfl
theorem keyOk_s (x : Str) : keyOk false (.str x) = true := rfl
theorem keyOk_t (xs : List D) : keyOk true (.tup xs) = xs.all isKey := rfl
theorem isKey_i (i : Int) : isKey (.int i) = true := rfl
theorem isKeys_ints : ∀ ns : List Int, (ns.map D.int).all isKey = true
  | [] => rfl
  | n :: ns => by rw [List.map_cons, List.all_cons, isKeys_ints ns]; rfl
theorem isKeys_num (ns : List Nat) : (numL ns).all isKey = true := by rw [numL_ints]; exact isKeys_ints _
theorem keyOk_num (ns : List Nat) : keyOk true (.tup (numL ns)) = true := isKeys_num ns
theorem keyOk_ints (ns : List Int) : keyOk true (.tup (ns.map .int)) = true := isKeys_ints ns
def asDic : Sl → (Nat → Bool → List (D × D) → Prop) → Prop
  | .dic a k kvs, Q => Q a k kvs
  | _, _ => False
theorem asDic_ (a : Nat) (k : Bool) (kvs : List (D × D)) (Q : Nat → Bool → List (D × D) → Prop) : asDic (.dic a k kvs) Q = Q a k kvs := rfl
theorem frzS_dic (a : Nat) (k : Bool) (kvs : List (D × D)) : frzS (.dic a k kvs) = .dic a k kvs := rfl
/-- {} -/
def sDic (i : Nat) (k : Bool) : Sm := fun E δ => ∀ p, E.nx (st δ i (.dic p k []))
/-- x in d, x not in d -/
def eDIn (n : Bool) (s : Nat) (a : Ex) : Ex := fun δ Q => a δ fun x => asDic (gt δ s) fun _ k kvs => keyOk k x = true ∧ Q (.bl (xor n (dget kvs x).isSome))
/-- d[x] -/
def eDGet (s : Nat) (a : Ex) : Ex := fun δ Q => asDic (gt δ s) fun _ k kvs => a δ fun x => keyOk k x = true ∧ ∃ d, dget kvs x = some d ∧ Q d
/-- d[x] = v -/
def sDSet (s : Nat) (b a : Ex) : Sm := fun E δ => asDic (gt δ s) fun p k kvs => a δ fun v => b δ fun x => keyOk k x = true ∧ kvs.length < 16777216 ∧ E.nx (st δ s (.dic p k (dput kvs x v)))
theorem xor_f (b : Bool) : xor false b = b := by cases b <;> rfl
theorem xor_t (b : Bool) : xor true b = !b := by cases b <;> rfl
end PL

set_option Elab.async false
set_option linter.all false
set_option maxRecDepth 100000
/-! PLS23: dicts that a def owns. -/
namespace PL
variable [Tabs]
open PySem PySem.Spec PyProof.Rows L2
section
omit [Tabs]
theorem kD_inj : ∀ {a b : Key}, kD a = kD b → a = b
  | .inl _, .inl _, h => by simp only [kD, D.int.injEq] at h; rw [h]
  | .inr _, .inr _, h => by simp only [kD, D.str.injEq] at h; rw [h]
  | .inl _, .inr _, h => by simp [kD] at h
  | .inr _, .inl _, h => by simp [kD] at h
theorem kDs_inj {a b : List Key} (h : D.tup (a.map kD) = D.tup (b.map kD)) : a = b := map_inj (fun _ _ => kD_inj) (by injection h)
theorem isKey_of : ∀ {d : D}, isKey d = true → ∃ k : Key, d = kD k
  | .int i, _ => ⟨.inl i, rfl⟩
  | .str x, _ => ⟨.inr x, rfl⟩
  | .non, h => by cases h
  | .bl _, h => by cases h
  | .tup _, h => by cases h
  | .lst _, h => by cases h
theorem isKeys_of : ∀ {ds : List D}, ds.all isKey = true → ∃ ks : List Key, ds = ks.map kD
  | [], _ => ⟨[], rfl⟩
  | d :: ds, h => by
    rw [List.all_cons, Bool.and_eq_true] at h
    obtain ⟨k, rfl⟩ := isKey_of h.1
    obtain ⟨ks, rfl⟩ := isKeys_of h.2
    exact ⟨k :: ks, rfl⟩
variable {K : PySem.W.Frag} {F H : Hp}
theorem rp_key {k : Key} {v : V} (r : Rp K F (kD k) v) : v = kV k := by
  cases k with
  | inl i => exact r.intI
  | inr x => exact r.strI
theorem rpL_keys : ∀ {ks : List Key} {vs : List V}, RpL K F (ks.map kD) vs → vs = ks.map kV
  | [], _, r => by simp only [List.map_nil, RpL] at r; rw [r]; rfl
  | k :: ks, _, r => by
    rw [List.map_cons] at r
    obtain ⟨v, s, rfl, r1, r2⟩ := r.inv
    rw [rp_key r1, rpL_keys r2]; rfl
/-- entries side by side, by an embedding of the keys -/
abbrev Ent {κ : Type} (K : PySem.W.Frag) (F : Hp) (e : κ → D) (kvs : List (D × D)) (ks : List (κ × V)) : Prop := Paired (fun (p : D × D) (q : κ × V) => p.1 = e q.1 ∧ Rp K F p.2 q.2) kvs ks
theorem Ent.get {κ : Type} [DecidableEq κ] {e : κ → D} (he : ∀ a b, e a = e b → a = b) {kvs : List (D × D)} {ks : List (κ × V)} (h : Ent K F e kvs ks) (k : κ) :
    (dget kvs (e k) = none ∧ valV ks k = none) ∨ ∃ d v, dget kvs (e k) = some d ∧ valV ks k = some v ∧ Rp K F d v := by
  induction h with
  | nil => exact .inl ⟨rfl, rfl⟩
  | cons r t ih =>
    rename_i p q l1 l2
    rw [dget_cons]
    by_cases hk : q.1 = k
    · rw [valV_pos hk, if_pos (by rw [r.1, hk])]
      exact .inr ⟨_, _, rfl, rfl, r.2⟩
    · rw [valV_neg hk, if_neg (fun z => hk (he _ _ (r.1.symm.trans z)))]
      exact ih
theorem Ent.len {κ : Type} {e : κ → D} {kvs : List (D × D)} {ks : List (κ × V)} (h : Ent K F e kvs ks) : kvs.length = ks.length := Paired.length h
theorem Ent.app {κ : Type} {e : κ → D} {kvs lvs : List (D × D)} {ks ls : List (κ × V)} (h : Ent K F e kvs ks) (g : Ent K F e lvs ls) : Ent K F e (kvs ++ lvs) (ks ++ ls) := by
  induction h with
  | nil => exact g
  | cons r t ih => exact .cons r ih
theorem Ent.put {κ : Type} [DecidableEq κ] {e : κ → D} (he : ∀ a b, e a = e b → a = b) {kvs : List (D × D)} {ks : List (κ × V)} (h : Ent K F e kvs ks) (k : κ) {d : D} {v : V} (r : Rp K F d v) : Ent K F e (dput kvs (e k) d) (putK ks k v) := by
  have hrep : ∀ {kvs : List (D × D)} {ks : List (κ × V)}, Ent K F e kvs ks → Ent K F e (kvs.map fun p => if p.1 = e k then (p.1, d) else p) (ks.map fun kv => if kv.1 = k then (kv.1, v) else kv) := by
    intro kvs ks h
    induction h with
    | nil => exact .nil
    | cons r' t ih =>
      rename_i p q l1 l2
      rw [List.map_cons, List.map_cons]
      refine .cons ?_ ih
      by_cases hk : q.1 = k
      · rw [if_pos hk, if_pos (by rw [r'.1, hk])]; exact ⟨r'.1, r⟩
      · rw [if_neg hk, if_neg (fun z => hk (he _ _ (r'.1.symm.trans z)))]; exact r'
  have hany : (kvs.any fun p => decide (p.1 = e k)) = ks.any fun kv => decide (kv.1 = k) := by
    rw [dget_any, valV_any]
    rcases h.get he k with ⟨h1, h2⟩ | ⟨d, v, h1, h2, _⟩ <;> (rw [h1, h2]; try rfl)
  unfold dput putK
  rw [hany]
  split
  · exact hrep h
  · exact h.app (.cons ⟨rfl, r⟩ .nil)
/-- what a key asks of a dict -/
theorem dic_get {a : Nat} {k : Bool} {kvs : List (D × D)} {x : D} {v : V} {F' : Hp} (h : DicAt K F H a k kvs) (hk : keyOk k x = true) (r : Rp K F' x v) (s : Same F' H) :
    ∃ o, DGet H a v o ∧ ((dget kvs x = none ∧ o = none) ∨ ∃ d w, dget kvs x = some d ∧ o = some w ∧ Rp K F d w) := by
  rcases h with ⟨rfl, ks, h1, h2⟩ | ⟨rfl, ks, h1, h2⟩
  · obtain ⟨key, rfl⟩ := isKey_of hk
    rw [rp_key r]
    exact ⟨_, .k h1, Ent.get (e := kD) (fun _ _ => kD_inj) h2 key⟩
  · cases x with
    | tup xs =>
      obtain ⟨key, rfl⟩ := isKeys_of hk
      obtain ⟨b, ys, rfl, e1, e2⟩ := r.tupH
      rw [rpL_keys e2] at e1
      exact ⟨_, .t h1 (s _ _ e1), Ent.get (e := fun ks => D.tup (ks.map kD)) (fun _ _ => kDs_inj) h2 key⟩
    | _ => cases hk
end
section
variable {K : PySem.W.Frag} {F H : Hp}
theorem dic_put {a : Nat} {k : Bool} {kvs : List (D × D)} {x d : D} {v w : V} {F' : Hp} (h : DicAt K F H a k kvs) (hk : keyOk k x = true) (r : Rp K F' x v) (s : Same F' H) (rd : Rp K F d w) (hl : kvs.length < 16777216) :
    ∃ o, DPut H a v w (upd H a o) ∧ DicAt K F (upd H a o) a k (dput kvs x d) := by
  rcases h with ⟨rfl, ks, h1, h2⟩ | ⟨rfl, ks, h1, h2⟩
  · obtain ⟨key, rfl⟩ := isKey_of hk
    rw [rp_key r]
    exact ⟨_, .k h1 (by rw [line_eq, ← Ent.len h2]; exact hl), .inl ⟨rfl, _, upd_same, Ent.put (e := kD) (fun _ _ => kD_inj) h2 key rd⟩⟩
  · cases x with
    | tup xs =>
      obtain ⟨key, rfl⟩ := isKeys_of hk
      obtain ⟨b, ys, rfl, e1, e2⟩ := r.tupH
      rw [rpL_keys e2] at e1
      exact ⟨_, .t h1 (s _ _ e1) (by rw [line_eq, ← Ent.len (e := fun ks : List Key => D.tup (ks.map kD)) h2]; exact hl), .inr ⟨rfl, _, upd_same, Ent.put (e := fun ks => D.tup (ks.map kD)) (fun _ _ => kDs_inj) h2 key rd⟩⟩
    | _ => cases hk
end
section
variable {K : PySem.W.Frag} {F0 B F H F' H' : Hp} {σ : L2.St} {δ : PSt}
/-- a new dict in slot i -/
theorem SR.newDic (S : SR K F0 B F H σ δ) {i : Nat} {p : Addr} (hp : H p = none) (k : Bool) : SR K F0 B F (upd H p (if k then .dT [] else .dK [])) (σ.set i (some (.ref p))) (st δ i (.dic p k [])) := by
  obtain ⟨hB, hF, hh⟩ := S.free hp
  refine S.setDic hB hF (fun j _ => hh j) ?_ rfl
  cases k with
  | false => exact .inl ⟨rfl, [], upd_same, .nil⟩
  | true => exact .inr ⟨rfl, [], upd_same, .nil⟩
end
section
variable {X : Cx} {pos : Pos}
theorem qs_dicK (i : Nat) {x : Str} {pos' dpos : Pos} (hN : X.N.Nodup) (hi : X.N[i]? = some x := by rfl) (hx : Loc X.env.scope x := by first | exact Or.inl rfl | exact Or.inr rfl) (hs : swapsWith (.Dict [] [] dpos) (some (.Name x pos')) pos.line X.env = pure false := by rfl) (hf : X.fn x = true ∨ X.env.scope.names.lookup x = some .local := by first | exact .inl rfl | exact .inr rfl | assumption) :
    QS X (.Assign [.Name x pos'] (.Dict [] [] dpos) pos) (sDic i false) := imp_PS (ps_set hN hi hx pe_dnewK hs hf) fun D σ H h => by
  obtain ⟨F0, B, F, δ, E, S, h, k⟩ := h
  intro p hp
  exact k.nx F _ _ _ (.refl _) (S.newDic hp false) (h p)
theorem qs_dicT (i : Nat) {x : Str} {pos' dpos : Pos} (hN : X.N.Nodup) (hi : X.N[i]? = some x := by rfl) (hx : Loc X.env.scope x := by first | exact Or.inl rfl | exact Or.inr rfl) (hs : swapsWith (.Dict [] [] dpos) (some (.Name x pos')) pos.line X.env = pure false := by rfl) (hf : X.fn x = true ∨ X.env.scope.names.lookup x = some .local := by first | exact .inl rfl | exact .inr rfl | assumption) :
    QS X (.Assign [.Name x pos'] (.Dict [] [] dpos) pos) (sDic i true) := imp_PS (ps_set hN hi hx pe_dnewT hs hf) fun D σ H h => by
  obtain ⟨F0, B, F, δ, E, S, h, k⟩ := h
  intro p hp
  exact k.nx F _ _ _ (.refl _) (S.newDic hp true) (h p)
theorem lft_din {K : PySem.W.Frag} {s : Nat} {ta : Ex} {σ : L2.St} {H : Hp} {Q : V → Hp → Prop} (h : lft K (eDIn false s ta) σ H Q) : tDIn (lft K ta) (tVar s) σ H Q := by
  obtain ⟨F0, B, F, δ, Qd, S, h, k⟩ := h
  refine ⟨F0, B, F, δ, _, S, h, fun v F1 H1 x x1 r1 q1 => ?_⟩
  unfold asDic at q1
  split at q1
  · rename_i p kd kvs e
    have S1 := S.mono x1
    obtain ⟨h1, _, _, h4⟩ := S1.dc s p kd kvs e
    obtain ⟨hk, q⟩ := q1
    obtain ⟨o, g, c⟩ := dic_get h4 hk r1 x1.s
    rw [xor_f] at q
    refine ⟨.ref p, h1, p, o, rfl, g, ?_⟩
    rcases c with ⟨c1, rfl⟩ | ⟨d, w, c1, rfl, _⟩ <;> (rw [c1] at q; exact k _ F1 H1 _ x1 (.bl _) q)
  · exact q1.elim
theorem lft_dnin {K : PySem.W.Frag} {s : Nat} {ta : Ex} {σ : L2.St} {H : Hp} {Q : V → Hp → Prop} (h : lft K (eDIn true s ta) σ H Q) : tDNotIn (lft K ta) (tVar s) σ H Q := by
  obtain ⟨F0, B, F, δ, Qd, S, h, k⟩ := h
  refine ⟨F0, B, F, δ, _, S, h, fun v F1 H1 x x1 r1 q1 => ?_⟩
  unfold asDic at q1
  split at q1
  · rename_i p kd kvs e
    have S1 := S.mono x1
    obtain ⟨h1, _, _, h4⟩ := S1.dc s p kd kvs e
    obtain ⟨hk, q⟩ := q1
    obtain ⟨o, g, c⟩ := dic_get h4 hk r1 x1.s
    rw [xor_t] at q
    refine ⟨.ref p, h1, p, o, rfl, g, ?_⟩
    rcases c with ⟨c1, rfl⟩ | ⟨d, w, c1, rfl, _⟩ <;> (rw [c1] at q; exact k _ F1 H1 _ x1 (.bl _) q)
  · exact q1.elim
theorem q_din (s : Nat) {a : Expr} {ta : Ex} {x : Str} {px pos : Pos} (hu : X.A.units + 65 < cLine) (ha : QE X a ta) (hN : X.N[s]? = some x := by rfl) (hv : Vis X.env.scope x := by first | exact Or.inl rfl | exact Or.inr (Or.inl rfl) | exact Or.inr (Or.inr rfl)) (hd : (x == ("__debug__" : Str)) = false := by decide)
    (hcd : (x == ("__classdict__" : Str)) = false := by decide) (hm : behindInMarks .In (.Name x px) = false := by with_unfolding_all rfl) : QE X (.Compare a [.In] [.Name x px] pos) (eDIn false s ta) :=
  imp_PE (pe_cmp (pc_din (by omega) ha (pv s hN hv hd hcd)) hm) fun _ _ _ => lft_din
theorem q_dinT (s : Nat) {a : Expr} {ta : Ex} {x : Str} {px pos : Pos} (hu : X.A.units + 65 < cLine) (ha : QE X a ta) (hN : X.N[s]? = some x := by rfl) (hv : Vis X.env.scope x := by first | exact Or.inl rfl | exact Or.inr (Or.inl rfl) | exact Or.inr (Or.inr rfl)) (hd : (x == ("__debug__" : Str)) = false := by decide)
    (hcd : (x == ("__classdict__" : Str)) = false := by decide) (hm : behindInMarks .In (.Name x px) = false := by with_unfolding_all rfl) : QT X (.Compare a [.In] [.Name x px] pos) (tB (eDIn false s ta)) :=
  imp_PT (pt_cmp (pc_din (by omega) ha (pv s hN hv hd hcd)) hm) fun _ _ _ h => lft_din (lftB h)
theorem q_dnin (s : Nat) {a : Expr} {ta : Ex} {x : Str} {px pos : Pos} (hu : X.A.units + 65 < cLine) (ha : QE X a ta) (hN : X.N[s]? = some x := by rfl) (hv : Vis X.env.scope x := by first | exact Or.inl rfl | exact Or.inr (Or.inl rfl) | exact Or.inr (Or.inr rfl)) (hd : (x == ("__debug__" : Str)) = false := by decide)
    (hcd : (x == ("__classdict__" : Str)) = false := by decide) (hm : behindInMarks .NotIn (.Name x px) = false := by with_unfolding_all rfl) : QE X (.Compare a [.NotIn] [.Name x px] pos) (eDIn true s ta) :=
  imp_PE (pe_cmp (pc_dnotin (by omega) ha (pv s hN hv hd hcd)) hm) fun _ _ _ => lft_dnin
theorem q_dninT (s : Nat) {a : Expr} {ta : Ex} {x : Str} {px pos : Pos} (hu : X.A.units + 65 < cLine) (ha : QE X a ta) (hN : X.N[s]? = some x := by rfl) (hv : Vis X.env.scope x := by first | exact Or.inl rfl | exact Or.inr (Or.inl rfl) | exact Or.inr (Or.inr rfl)) (hd : (x == ("__debug__" : Str)) = false := by decide)
    (hcd : (x == ("__classdict__" : Str)) = false := by decide) (hm : behindInMarks .NotIn (.Name x px) = false := by with_unfolding_all rfl) : QT X (.Compare a [.NotIn] [.Name x px] pos) (tB (eDIn true s ta)) :=
  imp_PT (pt_cmp (pc_dnotin (by omega) ha (pv s hN hv hd hcd)) hm) fun _ _ _ h => lft_dnin (lftB h)
theorem q_dget (s : Nat) {b : Expr} {tb : Ex} {x : Str} {px pos : Pos} (hu : X.A.units + 65 < cLine) (hb : QE X b tb) (hs : NoSl b := by intro _ _; rfl) (hN : X.N[s]? = some x := by rfl) (hv : Vis X.env.scope x := by first | exact Or.inl rfl | exact Or.inr (Or.inl rfl) | exact Or.inr (Or.inr rfl)) (hd : (x == ("__debug__" : Str)) = false := by decide)
    (hcd : (x == ("__classdict__" : Str)) = false := by decide) : QE X (.Subscript (.Name x px) b pos) (eDGet s tb) :=
  imp_PE (pe_dget (by omega) (pv s hN hv hd hcd) hb hs) fun σ H Q h => by
    obtain ⟨F0, B, F, δ, Qd, S, h, k⟩ := h
    unfold eDGet asDic at h
    split at h
    · rename_i p kd kvs e
      obtain ⟨h1, _, _, h4⟩ := S.dc s p kd kvs e
      refine ⟨.ref p, h1, F0, B, F, δ, _, S, h, fun u F1 H1 y x1 r1 q1 => ?_⟩
      obtain ⟨hk, d, q2, q3⟩ := q1
      obtain ⟨o, g, c⟩ := dic_get ((S.mono x1).dc s p kd kvs e).2.2.2 hk r1 x1.s
      rcases c with ⟨c1, rfl⟩ | ⟨d', w, c1, rfl, c3⟩
      · rw [q2] at c1; cases c1
      · rw [q2] at c1; cases c1
        exact ⟨p, w, rfl, g, k _ F1 H1 _ x1 c3 q3⟩
    · exact h.elim
theorem qs_dset (s : Nat) {e b : Expr} {te tb : Ex} {x : Str} {px spos pos : Pos} (hu : X.A.units + 65 < cLine) (he : QE X e te) (hb : QE X b tb) (hs : swapsWith e (some (.Subscript (.Name x px) b spos)) pos.line X.env = pure false := by rfl) (hi : X.N[s]? = some x := by rfl) (hv : Vis X.env.scope x := by first | exact Or.inl rfl | exact Or.inr (Or.inl rfl) | exact Or.inr (Or.inr rfl)) (hd : (x == ("__debug__" : Str)) = false := by decide)
    (hcd : (x == ("__classdict__" : Str)) = false := by decide) : QS X (.Assign [.Subscript (.Name x px) b spos] e pos) (sDSet s tb te) :=
  imp_PS (ps_dput (by omega) (pv s hi hv hd hcd) hb he hs) fun D σ H h => by
    obtain ⟨F0, B, F, δ, E, S, h, k⟩ := h
    unfold sDSet asDic at h
    split at h
    · rename_i p kd kvs eg
      obtain ⟨g1, g2, g3, g4⟩ := S.dc s p kd kvs eg
      refine ⟨F0, B, F, δ, _, S, h, fun u F1 H1 y x1 r1 q1 => ⟨.ref p, g1, F0, B, F1, δ, _, S.mono x1, q1, fun w F2 H2 z x2 r2 q2 => ?_⟩⟩
      have x12 := x1.trans x2
      have S2 := S.mono x12
      obtain ⟨_, _, f3, f4⟩ := S2.dc s p kd kvs eg
      obtain ⟨hk, hl, q3⟩ := q2
      obtain ⟨o, p1, p2⟩ := dic_put f4 hk r2 x2.s (r1.mono x2.f) hl
      refine ⟨p, _, rfl, p1, ?_⟩
      have S3 := S2.setDic (i := s) g2 f3 (fun j hj z => hj (S.nd j s p z (at_dic eg))) p2 rfl
      rw [set_self g1] at S3
      exact k.nx F2 _ _ _ x12.f S3 q3
    · exact h.elim
end
end PL

set_option Elab.async false
set_option linter.all false
namespace PL
open PySem (Str)
/-! PLT: texts, the pure side (light). -/
abbrev chr (c : Nat) : D := .str ⟨#[c]⟩
def txt (l : List Nat) : Str := ⟨l.toArray⟩
/-- the signs of a text, as texts -/
def chrs (x : Str) : List D := x.cps.toList.map chr
def asStr : D → (Str → Prop) → Prop
  | .str x, Q => Q x
  | _, _ => False
theorem asStr_ (x : Str) (Q : Str → Prop) : asStr (.str x) Q = Q x := rfl
/-- for c in s -/
def iStrD (a : Ex) : Ar := fun δ Q => a δ fun x => asStr x fun s => Q (chrs s)
/-- enumerate(s) -/
def iEnumS (a : Ex) : Ar := fun δ Q => a δ fun x => asStr x fun s => Q (enumD (chrs s))
/-- sep.join(xs) -/
def eJoin (a b : Ex) : Ex := fun δ Q => a δ fun x => asStr x fun sep => b δ fun y => asSeq y fun ds => ∃ ys : List Str, ds = ys.map .str ∧ (ys.map (·.length)).sum + ys.length * sep.length ≤ 16777216 ∧ Q (.str (Str.join sep ys))
/-- s[lo:hi], s a text -/
def eSliceS (a : Ex) (lo hi : Pt) : Ex := fun δ Q => a δ fun x => lo δ fun l => hi δ fun h => asStr x fun s => s.length ≤ 16777216 ∧ Q (.str (txt (cutD s.cps.toList l h)))
/-- s.count(c), c one sign -/
def eCount (a b : Ex) : Ex := fun δ Q => a δ fun x => asStr x fun s => b δ fun y => asStr y fun t => ∃ c, t = txt [c] ∧ Q (.int ((s.cps.toList.filter fun z => Nat.beq z c).length : Nat))
/-- x < y, of texts or of tuples of ints -/
def oLtX : Op2
  | .str x, .str y, Q => Q (.bl (decide (x.cps.toList < y.cps.toList)))
  | .tup xs, .tup ys, Q => ∃ ns ms : List Int, xs = ns.map .int ∧ ys = ms.map .int ∧ Q (.bl (lexGt ms ns))
  | _, _, _ => False
theorem oLtX_s (x y : Str) (Q : D → Prop) : oLtX (.str x) (.str y) Q = Q (.bl (decide (x.cps.toList < y.cps.toList))) := rfl
theorem oLtX_t (xs ys : List D) (Q : D → Prop) : oLtX (.tup xs) (.tup ys) Q = ∃ ns ms : List Int, xs = ns.map .int ∧ ys = ms.map .int ∧ Q (.bl (lexGt ms ns)) := rfl
/-- x.append((y.pop(), e)), x and y owned -/
def sAppPop (i j : Nat) (a : Ex) : Sm := fun E δ => asOwn (gt δ i) fun p xs => asOwn (gt δ j) fun q ys => i ≠ j ∧ xs.length < 16777216 ∧ ∃ y, ys[ys.length - 1]? = some y ∧ a (st δ j (.own q ys.dropLast)) fun z => E.nx (st (st δ j (.own q ys.dropLast)) i (.own p (xs ++ [.tup [y, z]])))
/-- x = y.pop(), y owned -/
def sSetPop (i j : Nat) : Sm := fun E δ => asOwn (gt δ j) fun q ys => i ≠ j ∧ ∃ y, ys[ys.length - 1]? = some y ∧ E.nx (st (st δ j (.own q ys.dropLast)) i (.val y))
def pMax3 : Pm
  | [.int i, .int j, .int l], Q => Q (.int (if j > i then (if l > j then l else j) else (if l > i then l else i)))
  | _, _ => False
def pMin3 : Pm
  | [.int i, .int j, .int l], Q => Q (.int (if j < i then (if l < j then l else j) else (if l < i then l else i)))
  | _, _ => False
theorem pMax3_ {i j l : Int} {Q : D → Prop} : pMax3 [.int i, .int j, .int l] Q = Q (.int (if j > i then (if l > j then l else j) else (if l > i then l else i))) := rfl
theorem pMin3_ {i j l : Int} {Q : D → Prop} : pMin3 [.int i, .int j, .int l] Q = Q (.int (if j < i then (if l < j then l else j) else (if l < i then l else i))) := rfl
/-! texts as lists of signs -/
theorem txt_len (l : List Nat) : (txt l).length = l.length := by show l.toArray.size = _; simp
theorem txt_chrs (l : List Nat) : chrs (txt l) = l.map chr := by unfold chrs txt; simp
theorem txt_cps (l : List Nat) : (txt l).cps.toList = l := by unfold txt; simp
theorem txt_app (a b : List Nat) : txt a ++ txt b = txt (a ++ b) := by
  show (⟨a.toArray ++ b.toArray⟩ : Str) = ⟨(a ++ b).toArray⟩
  simp
theorem txt_inj {a b : List Nat} (h : txt a = txt b) : a = b := by
  have := congrArg (fun s : Str => s.cps.toList) h
  simpa [txt] using this
theorem txt_join : ∀ ls : List (List Nat), Str.join Str.empty (ls.map txt) = txt ls.flatten
  | [] => rfl
  | [x] => by simp [Str.join]
  | x :: y :: r => by
    show txt x ++ Str.empty ++ Str.join Str.empty ((y :: r).map txt) = _
    rw [txt_join (y :: r)]
    have : (Str.empty : Str) = txt [] := rfl
    rw [this, txt_app, List.append_nil, txt_app]
    simp only [List.flatten_cons]
theorem chr_txt (c : Nat) : chr c = .str (txt [c]) := rfl
theorem eqv_txt (a b : List Nat) : D.eqv (.str (txt a)) (.str (txt b)) = decide (a = b) := by
  simp only [D.eqv]
  rw [Bool.eq_iff_iff, beq_iff_eq, decide_eq_true_eq]
  exact ⟨txt_inj, fun h => by rw [h]⟩
theorem eqv_chr (a b : Nat) : D.eqv (chr a) (chr b) = decide (a = b) := by
  have := eqv_txt [a] [b]
  rw [show D.eqv (chr a) (chr b) = D.eqv (.str (txt [a])) (.str (txt [b])) from rfl, this]
  exact decide_eq_decide.mpr (by simp)
theorem shp_txt (n : Nat) {l : List Nat} (h : ∀ c ∈ l, c < 1114112) : shp n (.str (txt l)) = true := by
  have : strOkD (txt l) = true := by
    unfold strOkD txt
    rw [← Array.all_toList]
    simpa using h
  cases n <;> simp only [shp, this]
theorem shp_chr (n : Nat) {c : Nat} (h : c < 1114112) : shp n (chr c) = true := shp_txt n (l := [c]) (by simpa using h)
theorem at_txt {l : List Nat} {k : Nat} {c : Int} (e : c = (k : Int)) (hl : l.length ≤ 16777216) (hk : k < l.length) {Q : D → Prop} (q : Q (chr (l.getD k 0))) : oIx (.str (txt l)) (.int c) Q := by
  subst e
  rw [oIx_s, txt_len]
  refine ⟨hl, k, l.getD k 0, ?_, ?_, q⟩
  · rw [txt_cps]; exact ixP_nat hk
  · rw [txt_cps]; exact getD_some 0 hk
/-! a written tuple or list: its size is no question -/
theorem eTup_w1 {A1 : Ex} : eTup (aCons A1 aNil) = fun δ Q => A1 δ fun x1 => Q (.tup [x1]) := by
  funext δ Q
  have h : ∀ {x1 : D}, (([x1] : List D).length ≤ 16777216) = True := eq_true (by show 1 ≤ 16777216; omega)
  simp only [eTup, aCons, aNil, h, true_and]
theorem eTup_w2 {A1 A2 : Ex} : eTup (aCons A1 (aCons A2 aNil)) = fun δ Q => A1 δ fun x1 => A2 δ fun x2 => Q (.tup [x1, x2]) := by
  funext δ Q
  have h : ∀ {x1 x2 : D}, (([x1, x2] : List D).length ≤ 16777216) = True := eq_true (by show 2 ≤ 16777216; omega)
  simp only [eTup, aCons, aNil, h, true_and]
theorem eTup_w3 {A1 A2 A3 : Ex} : eTup (aCons A1 (aCons A2 (aCons A3 aNil))) = fun δ Q => A1 δ fun x1 => A2 δ fun x2 => A3 δ fun x3 => Q (.tup [x1, x2, x3]) := by
  funext δ Q
  have h : ∀ {x1 x2 x3 : D}, (([x1, x2, x3] : List D).length ≤ 16777216) = True := eq_true (by show 3 ≤ 16777216; omega)
  simp only [eTup, aCons, aNil, h, true_and]
theorem eTup_w4 {A1 A2 A3 A4 : Ex} : eTup (aCons A1 (aCons A2 (aCons A3 (aCons A4 aNil)))) = fun δ Q => A1 δ fun x1 => A2 δ fun x2 => A3 δ fun x3 => A4 δ fun x4 => Q (.tup [x1, x2, x3, x4]) := by
  funext δ Q
  have h : ∀ {x1 x2 x3 x4 : D}, (([x1, x2, x3, x4] : List D).length ≤ 16777216) = True := eq_true (by show 4 ≤ 16777216; omega)
  simp only [eTup, aCons, aNil, h, true_and]
theorem eTup_w5 {A1 A2 A3 A4 A5 : Ex} : eTup (aCons A1 (aCons A2 (aCons A3 (aCons A4 (aCons A5 aNil))))) = fun δ Q => A1 δ fun x1 => A2 δ fun x2 => A3 δ fun x3 => A4 δ fun x4 => A5 δ fun x5 => Q (.tup [x1, x2, x3, x4, x5]) := by
  funext δ Q
  have h : ∀ {x1 x2 x3 x4 x5 : D}, (([x1, x2, x3, x4, x5] : List D).length ≤ 16777216) = True := eq_true (by show 5 ≤ 16777216; omega)
  simp only [eTup, aCons, aNil, h, true_and]
theorem eTup_w6 {A1 A2 A3 A4 A5 A6 : Ex} : eTup (aCons A1 (aCons A2 (aCons A3 (aCons A4 (aCons A5 (aCons A6 aNil)))))) = fun δ Q => A1 δ fun x1 => A2 δ fun x2 => A3 δ fun x3 => A4 δ fun x4 => A5 δ fun x5 => A6 δ fun x6 => Q (.tup [x1, x2, x3, x4, x5, x6]) := by
  funext δ Q
  have h : ∀ {x1 x2 x3 x4 x5 x6 : D}, (([x1, x2, x3, x4, x5, x6] : List D).length ≤ 16777216) = True := eq_true (by show 6 ≤ 16777216; omega)
  simp only [eTup, aCons, aNil, h, true_and]
theorem eTup_w7 {A1 A2 A3 A4 A5 A6 A7 : Ex} : eTup (aCons A1 (aCons A2 (aCons A3 (aCons A4 (aCons A5 (aCons A6 (aCons A7 aNil))))))) = fun δ Q => A1 δ fun x1 => A2 δ fun x2 => A3 δ fun x3 => A4 δ fun x4 => A5 δ fun x5 => A6 δ fun x6 => A7 δ fun x7 => Q (.tup [x1, x2, x3, x4, x5, x6, x7]) := by
  funext δ Q
  have h : ∀ {x1 x2 x3 x4 x5 x6 x7 : D}, (([x1, x2, x3, x4, x5, x6, x7] : List D).length ≤ 16777216) = True := eq_true (by show 7 ≤ 16777216; omega)
  simp only [eTup, aCons, aNil, h, true_and]
theorem eTup_w8 {A1 A2 A3 A4 A5 A6 A7 A8 : Ex} : eTup (aCons A1 (aCons A2 (aCons A3 (aCons A4 (aCons A5 (aCons A6 (aCons A7 (aCons A8 aNil)))))))) = fun δ Q => A1 δ fun x1 => A2 δ fun x2 => A3 δ fun x3 => A4 δ fun x4 => A5 δ fun x5 => A6 δ fun x6 => A7 δ fun x7 => A8 δ fun x8 => Q (.tup [x1, x2, x3, x4, x5, x6, x7, x8]) := by
  funext δ Q
  have h : ∀ {x1 x2 x3 x4 x5 x6 x7 x8 : D}, (([x1, x2, x3, x4, x5, x6, x7, x8] : List D).length ≤ 16777216) = True := eq_true (by show 8 ≤ 16777216; omega)
  simp only [eTup, aCons, aNil, h, true_and]
theorem eLst_w1 {A1 : Ex} : eLst (aCons A1 aNil) = fun δ Q => A1 δ fun x1 => Q (.lst [x1]) := by
  funext δ Q
  have h : ∀ {x1 : D}, (([x1] : List D).length ≤ 16777216) = True := eq_true (by show 1 ≤ 16777216; omega)
  simp only [eLst, aCons, aNil, h, true_and]
theorem eLst_w2 {A1 A2 : Ex} : eLst (aCons A1 (aCons A2 aNil)) = fun δ Q => A1 δ fun x1 => A2 δ fun x2 => Q (.lst [x1, x2]) := by
  funext δ Q
  have h : ∀ {x1 x2 : D}, (([x1, x2] : List D).length ≤ 16777216) = True := eq_true (by show 2 ≤ 16777216; omega)
  simp only [eLst, aCons, aNil, h, true_and]
theorem eLst_w3 {A1 A2 A3 : Ex} : eLst (aCons A1 (aCons A2 (aCons A3 aNil))) = fun δ Q => A1 δ fun x1 => A2 δ fun x2 => A3 δ fun x3 => Q (.lst [x1, x2, x3]) := by
  funext δ Q
  have h : ∀ {x1 x2 x3 : D}, (([x1, x2, x3] : List D).length ≤ 16777216) = True := eq_true (by show 3 ≤ 16777216; omega)
  simp only [eLst, aCons, aNil, h, true_and]
theorem eLst_w4 {A1 A2 A3 A4 : Ex} : eLst (aCons A1 (aCons A2 (aCons A3 (aCons A4 aNil)))) = fun δ Q => A1 δ fun x1 => A2 δ fun x2 => A3 δ fun x3 => A4 δ fun x4 => Q (.lst [x1, x2, x3, x4]) := by
  funext δ Q
  have h : ∀ {x1 x2 x3 x4 : D}, (([x1, x2, x3, x4] : List D).length ≤ 16777216) = True := eq_true (by show 4 ≤ 16777216; omega)
  simp only [eLst, aCons, aNil, h, true_and]
theorem eLst_w5 {A1 A2 A3 A4 A5 : Ex} : eLst (aCons A1 (aCons A2 (aCons A3 (aCons A4 (aCons A5 aNil))))) = fun δ Q => A1 δ fun x1 => A2 δ fun x2 => A3 δ fun x3 => A4 δ fun x4 => A5 δ fun x5 => Q (.lst [x1, x2, x3, x4, x5]) := by
  funext δ Q
  have h : ∀ {x1 x2 x3 x4 x5 : D}, (([x1, x2, x3, x4, x5] : List D).length ≤ 16777216) = True := eq_true (by show 5 ≤ 16777216; omega)
  simp only [eLst, aCons, aNil, h, true_and]
theorem eLst_w6 {A1 A2 A3 A4 A5 A6 : Ex} : eLst (aCons A1 (aCons A2 (aCons A3 (aCons A4 (aCons A5 (aCons A6 aNil)))))) = fun δ Q => A1 δ fun x1 => A2 δ fun x2 => A3 δ fun x3 => A4 δ fun x4 => A5 δ fun x5 => A6 δ fun x6 => Q (.lst [x1, x2, x3, x4, x5, x6]) := by
  funext δ Q
  have h : ∀ {x1 x2 x3 x4 x5 x6 : D}, (([x1, x2, x3, x4, x5, x6] : List D).length ≤ 16777216) = True := eq_true (by show 6 ≤ 16777216; omega)
  simp only [eLst, aCons, aNil, h, true_and]
theorem eLst_w7 {A1 A2 A3 A4 A5 A6 A7 : Ex} : eLst (aCons A1 (aCons A2 (aCons A3 (aCons A4 (aCons A5 (aCons A6 (aCons A7 aNil))))))) = fun δ Q => A1 δ fun x1 => A2 δ fun x2 => A3 δ fun x3 => A4 δ fun x4 => A5 δ fun x5 => A6 δ fun x6 => A7 δ fun x7 => Q (.lst [x1, x2, x3, x4, x5, x6, x7]) := by
  funext δ Q
  have h : ∀ {x1 x2 x3 x4 x5 x6 x7 : D}, (([x1, x2, x3, x4, x5, x6, x7] : List D).length ≤ 16777216) = True := eq_true (by show 7 ≤ 16777216; omega)
  simp only [eLst, aCons, aNil, h, true_and]
theorem eLst_w8 {A1 A2 A3 A4 A5 A6 A7 A8 : Ex} : eLst (aCons A1 (aCons A2 (aCons A3 (aCons A4 (aCons A5 (aCons A6 (aCons A7 (aCons A8 aNil)))))))) = fun δ Q => A1 δ fun x1 => A2 δ fun x2 => A3 δ fun x3 => A4 δ fun x4 => A5 δ fun x5 => A6 δ fun x6 => A7 δ fun x7 => A8 δ fun x8 => Q (.lst [x1, x2, x3, x4, x5, x6, x7, x8]) := by
  funext δ Q
  have h : ∀ {x1 x2 x3 x4 x5 x6 x7 x8 : D}, (([x1, x2, x3, x4, x5, x6, x7, x8] : List D).length ≤ 16777216) = True := eq_true (by show 8 ≤ 16777216; omega)
  simp only [eLst, aCons, aNil, h, true_and]
/-- the items at i, i + k, i + 2k .. -/
def stepD {α : Type} (xs : List α) (i k : Nat) : List α := (List.range ((xs.length - i + k - 1) / k)).filterMap fun m => xs[i + k * m]?
/-- xs[i::k], xs a list -/
def oStep (k : Nat) : Op2
  | .lst xs, .int i, Q => 0 ≤ i ∧ Q (.lst (stepD xs i.toNat k))
  | _, _, _ => False
theorem oStep_l (k : Nat) (xs : List D) (i : Int) (Q : D → Prop) : oStep k (.lst xs) (.int i) Q = (0 ≤ i ∧ Q (.lst (stepD xs i.toNat k))) := rfl
end PL

set_option Elab.async false
set_option linter.all false
set_option maxRecDepth 100000
/-! PLS24: texts: walks, enumerate, join, slices; pop. -/
namespace PL
variable [Tabs]
open PySem PySem.Spec PySem.W PyProof.Rows L2
section
variable {K : PySem.W.Frag} {F : Hp}
theorem chrs_get {x : Str} {i : Nat} {c : Nat} (h : x.cps[i]? = some c) : (chrs x)[i]? = some (chr c) := by
  unfold chrs
  rw [List.getElem?_map, Array.getElem?_toList, h]; rfl
theorem chrs_len (x : Str) : (chrs x).length = x.cps.size := by unfold chrs; simp
theorem itd_str (x : Str) : ItD K F (Its x) (chrs x) := by
  refine ⟨fun i F1 H1 s1 s2 hi => by rw [chrs_len] at hi; exact hi, fun i F1 H1 v H2 s1 s2 hi hy => ?_, fun F1 H1 s1 s2 => by rw [chrs_len]; exact Nat.le_refl _⟩
  obtain ⟨rfl, c, hc, rfl⟩ := hy
  exact ⟨F1, chr c, .refl s2, chrs_get hc, .str _⟩
end
section
variable {X : Cx} {tgt e : Expr} {te : Ex}
theorem imp_PI' {t t' : TI} (h : PI X tgt e t) (i : ∀ σ H R, t' σ H R → t σ H R) : PI X tgt e t' := ⟨fun pins s σ H R I hq => h.run pins s σ H R I (i _ _ _ hq)⟩
/-- for c in s -/
theorem qi_str (he : QE X e te) : QI X tgt e (iStrD te) := imp_PI' (pi_str he) fun σ H R h => by
  obtain ⟨F0, B, F, δ, Qd, S, h, k⟩ := h
  refine ⟨F0, B, F, δ, _, S, h, fun v F1 H1 d x1 r1 q1 => ?_⟩
  cases d with
  | str x => exact ⟨x, r1.strI, k _ _ F1 H1 x1 (itd_str x) q1⟩
  | _ => exact q1.elim
end
/-! ### enumerate(s) -/
def IteS (x : Str) : It :=
  { go := fun i H => i < x.cps.size,
    yld := fun i H v H' => ∃ T c, v = .ref T ∧ H T = none ∧ H' = upd H T (.tup [.int (i : Nat), .str ⟨#[c]⟩]) ∧ x.cps[i]? = some c,
    stop := fun i H => x.cps.size = i }
theorem turn_enumS {P : Program} {w : World} {K : PySem.W.Frag} {elts : List PySem.Expr} {kk : Nat} {tpos : Pos} (x : Str) (t : Tok) (e it : Addr) :
    Turn P w K (.Tuple elts kk tpos) (IteS x) [e, it] e fun i h => (∃ old, IsEnum h e it (i : Nat) old) ∧ h.IsStrIter it (strIterType x) x t i ∧ e ≠ it := by
  refine ⟨List.mem_cons_self, ?_, ?_, ?_, ?_, ?_⟩
  · rintro i h ⟨⟨old, he⟩, ⟨o, ho, hc, hd⟩, ne⟩ b hb
    rcases List.mem_cons.mp hb with rfl | hb
    · exact ⟨_, he, fun v z => by simp at z⟩
    · have := List.mem_singleton.mp hb
      subst this
      exact ⟨o, ho, fun v z => by rw [hd] at z; simp at z⟩
  · rintro i h h' ⟨⟨old, he⟩, ⟨o, ho, hc, hd⟩, ne⟩ hk
    exact ⟨⟨old, hk e List.mem_cons_self _ he⟩, ⟨o, hk it (by simp) _ ho, hc, hd⟩, ne⟩
  · intro X hP hw hK hcalm i pins s σ H E I hfp ⟨⟨old, he⟩, hi, ne⟩ hlt
    subst hP hw hK
    refine wpAny_pyNext_enum_itemD (Draws.text (A := X.A.in1) (I.ok.hd hcalm) it x t) he hi hlt ne (by simp [ne]) fun y h' tk hy hEO hSt hget hsize hkeep => ⟨_, rfl, ?_⟩
    obtain ⟨c, u, hc, rfl⟩ := hy
    refine wpAny_letOwnedTupleGo_enum hEO fun h'' hE'' hsame => ?_
    have hT : s.heap.objs.size ≠ e := by
      intro z
      have := Heap.lt_size he
      rw [z] at this
      exact Nat.lt_irrefl _ this
    have hT2 : h''.get? s.heap.objs.size = some { cls := .type "tuple", data := .seq #[.int (i : Nat) tk, .str ⟨#[c]⟩ u] } := by
      rw [hsame.2 _ hT]; exact hget
    have hn : H s.heap.objs.size = none := I.fresh
    refine ⟨.ref s.heap.objs.size, upd H s.heap.objs.size (.tup [.int (i : Nat), .str ⟨#[c]⟩]), I.turnedNew (ch := [e, it]) (fun b o nb hb => ?_) hfp (Nat.le_refl _) ⟨?_, [.int (i : Nat) tk, .str ⟨#[c]⟩ u], ?_, ⟨_, hT2, rfl, _, rfl⟩⟩, rfl, ⟨_, c, rfl, hn, rfl, hc⟩, ⟨⟨_, hE''⟩, ?_, ne⟩, fun b hb => ?_⟩
    · have b1 : b ≠ e := fun z => nb (by simp [z])
      have b2 : b ≠ it := fun z => nb (by simp [z])
      rw [hsame.2 b b1]
      exact hkeep b o b1 b2 hb
    · rw [sizeLine_eq]; show 2 ≤ 16777216; omega
    · exact .cons ⟨tk, rfl⟩ (.cons ⟨u, rfl⟩ .nil)
    · obtain ⟨o, ho, hc, hd⟩ := hSt
      exact ⟨o, by rw [hsame.2 it (fun z => ne z.symm)]; exact ho, hc, hd⟩
    · have h1 := (hfp b hb).1
      rw [upd_ne]
      · exact h1
      · rintro rfl
        have hb' : ∃ o, s.heap.get? s.heap.objs.size = some o := by
          rcases List.mem_cons.mp hb with z | z
          · rw [z]; exact ⟨_, he⟩
          · obtain ⟨o, ho, _⟩ := hi
            exact ⟨o, by rw [List.mem_singleton.mp z]; exact ho⟩
        obtain ⟨o, ho⟩ := hb'
        exact Nat.lt_irrefl _ (Heap.lt_size ho)
  · intro X hP hw hK hcalm i pins s σ H E I hfp ⟨⟨old, he⟩, hi, ne⟩ hxi
    subst hP hw hK
    have hn : x.cps.size = i := hxi
    have W := WalksT.enumFrom (A := X.A) (prog := X.prog) (w := X.w) 0 (Draws.text (A := X.A.in1) (I.ok.hd hcalm) it x t) e ne (by simp [ne]) (by simp)
    refine W.done s _ E ⟨⟨old, by rw [Int.zero_add, hn]; exact he⟩, by rw [hn]; exact hi⟩ fun h' tk hk => ⟨rfl, I.turnedL (ch := [e, it]) (fun b o nb hb => hk b o nb hb) hfp⟩
  · intro A i s Q E ⟨⟨old, he⟩, hi, ne⟩ hq
    exact wpAny_pyIter_enum he hq
theorem itd_enumS {K : PySem.W.Frag} {F : Hp} (x : Str) : ItD K F (IteS x) (enumD (chrs x)) := by
  refine ⟨fun i F1 H1 s1 s2 hi => ?_, fun i F1 H1 v H2 s1 s2 hi hy => ?_, fun F1 H1 s1 s2 => by rw [enumD_len, chrs_len]; exact rfl⟩
  · rw [enumD_len, chrs_len] at hi; exact hi
  · obtain ⟨T, c, rfl, hT, rfl, hc⟩ := hy
    obtain ⟨F2, d, x2, rfl, rr⟩ := enum_pair (K := K) (i := i) s2 hT (.str ⟨#[c]⟩)
    exact ⟨F2, _, x2, enumD_get (chrs_get hc), rr⟩
section
variable {X : Cx}
theorem qi_enumS {e : PySem.Expr} {te : Ex} {p pos tpos : Pos} {elts : List PySem.Expr} {kk : Nat} (hm : X.mg "enumerate" = none) (ha : QE X e te) (hg : Gl X "enumerate" := by rfl) (na : starEach [e] X.env = (false, eval e X.env) :: starEach [] X.env := by rfl) :
    QI X (.Tuple elts kk tpos) (.Call (.Name "enumerate" p) [e] [] pos) (iEnumS te) := by
  refine ⟨fun pins s σ H R I h => ?_⟩
  obtain ⟨F0, B, F, δ, Qd, S, h, k⟩ := h
  have he' : PE X e (fun σ' H' Q' => σ' = σ ∧ H' = H ∧ ∀ v F1 H1 d, Ext F H F1 H1 → Rp X.K F1 d v → asStr d (fun x => Qd (enumD (chrs x))) → Q' v H1) :=
    imp_PE ha fun σ' H' Q' hh => by
      obtain ⟨rfl, rfl, kk⟩ := hh
      exact ⟨F0, B, F, δ, _, S, h, kk⟩
  refine Call_ (ld_blt I hg hm (by decide +kernel : bootBuiltins "enumerate" = some (.type "enumerate")) ?_)
  refine callWith_type1 (args_cons (thn (he'.run pins s σ H _ I ⟨rfl, rfl, fun v F1 H1 d x1 r1 q1 => (show (∃ F1 d, Ext F H F1 H1 ∧ Rp X.K F1 d v ∧ asStr d (fun x => Qd (enumD (chrs x)))) from ⟨F1, d, x1, r1, q1⟩)⟩) fun u s1 hq => args_nil ?_) na) na rfl
  obtain ⟨v, H1, I1, rv, F1, d, x1, r1, q1⟩ := hq
  cases d with
  | str x =>
    cases r1.strI
    obtain ⟨t, rfl⟩ := rv
    refine call_enumerate_str fun h' hE hI hsz hk => ?_
    have I2 : Inv X pins σ H1 { s1 with heap := h' } := I1.kept (t' := s1.toks) hk
    refine wpAny_pyIter_enum hE ?_
    refine ⟨_, [s1.heap.objs.size + 1, s1.heap.objs.size], _, _, H1, rfl, I2, turn_enumS x t _ s1.heap.objs.size, ⟨⟨_, hE⟩, hI, Nat.succ_ne_self _⟩, fun b hb => ?_, k _ _ F1 H1 x1 (itd_enumS x) q1⟩
    have hb2 : s1.heap.objs.size ≤ b := by
      rcases List.mem_cons.mp hb with z | z
      · rw [z]; exact Nat.le_succ _
      · rw [List.mem_singleton.mp z]; exact Nat.le_refl _
    exact I1.fpOk hb2 (I1.hok.fresh hb2)
  | _ => exact q1.elim
/-! ### sep.join(xs), s[a:b] -/
theorem strs_rp {K : PySem.W.Frag} {F : Hp} : ∀ {ys : List Str} {vs : List V}, RpL K F (ys.map D.str) vs → vs = ys.map V.str
  | [], _, r => by simpa only [List.map_nil, RpL] using r
  | n :: ns, _, r => by
    obtain ⟨v, q, rfl, h2, h3⟩ := RpL.inv r
    rw [strs_rp h3, h2.strI]
    rfl
theorem q_join {o e : Expr} {to te : Ex} {apos pos : Pos} (ho : QE X o to) (he : QE X e te) (hs : starEach [e] X.env = [(false, eval e X.env)] := by rfl) (hbase : attributeBase o "join" X.env (eval o X.env) = eval o X.env := by rfl) (hline : (apos.endLine == pos.line) = true := by rfl) :
    QE X (.Call (.Attribute o "join" apos) [e] [] pos) (eJoin to te) :=
  imp_PE (pe_join ho he hs hbase hline) fun σ H Q h => by
    obtain ⟨F0, B, F, δ, Qd, S, h, k⟩ := h
    refine ⟨F0, B, F, δ, _, S, h, fun v F1 H1 d x1 r1 q1 => ?_⟩
    cases d with
    | str sep =>
      cases r1.strI
      refine ⟨⟨sep, rfl⟩, F0, B, F1, δ, _, S.mono x1, q1, fun u F2 H2 d2 x2 r2 q2 => ?_⟩
      cases d2 with
      | lst xs =>
        obtain ⟨ys, rfl, hz, q3⟩ := q2
        obtain ⟨p, vs, rfl, g1, g2⟩ := r2.lstI
        have e := strs_rp g2
        subst e
        refine ⟨sep, p, ys, rfl, rfl, .inl (x2.s.seq g1), hz, ?_⟩
        rw [show Txt.join sep ys = Str.join sep ys from PySem.StrLaws.glued_eq_join sep ys]
        exact k _ F2 H2 _ (x1.trans x2) (.str _) q3
      | tup xs =>
        obtain ⟨ys, rfl, hz, q3⟩ := q2
        obtain ⟨p, vs, rfl, g1, g2⟩ := r2.tupI
        have e := strs_rp g2
        subst e
        refine ⟨sep, p, ys, rfl, rfl, .inr (sameT x2.s g1), hz, ?_⟩
        rw [show Txt.join sep ys = Str.join sep ys from PySem.StrLaws.glued_eq_join sep ys]
        exact k _ F2 H2 _ (x1.trans x2) (.str _) q3
      | _ => exact q2.elim
    | _ => exact q1.elim
theorem q_sliceS {e : Expr} {lo hi : Option Expr} {t : Ex} {tl th : Pt} {pos p2 : Pos} (he : QE X e t) (hl : PO X lo (lftO X.K tl)) (hu : PO X hi (lftO X.K th)) : QE X (.Subscript e (.Slice lo hi none p2) pos) (eSliceS t tl th) :=
  imp_PE (pe_slice sl_str he hl hu) fun σ H Q h => by
    obtain ⟨F0, B, F, δ, Qd, S, h, k⟩ := h
    refine ⟨F0, B, F, δ, _, S, h, fun v F1 H1 d x1 r1 q1 => ⟨F0, B, F1, δ, _, S.mono x1, q1, fun l F2 H2 x2 q2 => ⟨F0, B, F2, δ, _, (S.mono x1).mono x2, q2, fun u F3 H3 x3 q3 => ?_⟩⟩⟩
    cases d with
    | str z =>
      cases r1.strI
      refine ⟨z, rfl, by rw [line_eq]; exact q3.1, ?_⟩
      have e : cutS z l u = txt (cutD z.cps.toList l u) := by
        unfold cutS txt cutD
        simp only [sIx_eq]
        rfl
      rw [e]
      exact k _ F3 H3 _ ((x1.trans x2).trans x3) (.str _) q3.2
    | _ => exact q3.elim
end
/-! ### pop -/
section
variable {X : Cx} {e : Expr} {te : Ex} {pos : Pos}
theorem set_same {σ : L2.St} {i : Nat} {v : V} (h : σ[i]? = some (some v)) : σ.set i (some v) = σ := by
  apply List.ext_getElem?
  intro j
  by_cases hj : i = j
  · subst hj
    have hl : i < σ.length := (List.getElem?_eq_some_iff.mp h).1
    rw [List.getElem?_set_self hl, h]
  · rw [List.getElem?_set_ne hj]
theorem RpL.dropLast {K : PySem.W.Frag} {F : Hp} {ds : List D} {vs : List V} (h : RpL K F ds vs) : RpL K F ds.dropLast vs.dropLast := by
  rw [List.dropLast_eq_take, List.dropLast_eq_take, h.len]
  exact h.take _
/-- x.append((y.pop(), e)), x and y owned -/
theorem qs_appPop (i j : Nat) {x y : Str} {px py apos apos2 tpos : Pos} {p2 p3 : Pos} {kk : Nat} (he : QE X e te) (hi : X.N[i]? = some x := by rfl) (hj : X.N[j]? = some y := by rfl)
    (hv : Vis X.env.scope x := by first | exact Or.inl rfl | exact Or.inr (Or.inl rfl) | exact Or.inr (Or.inr rfl)) (hd : (x == ("__debug__" : Str)) = false := by decide) (hcd : (x == ("__classdict__" : Str)) = false := by decide)
    (hv2 : Vis X.env.scope y := by first | exact Or.inl rfl | exact Or.inr (Or.inl rfl) | exact Or.inr (Or.inr rfl)) (hd2 : (y == ("__debug__" : Str)) = false := by decide) (hcd2 : (y == ("__classdict__" : Str)) = false := by decide)
    (hs : swapsWith (.Call (.Attribute (.Name x px) "append" apos) [.Tuple [.Call (.Attribute (.Name y py) "pop" apos2) [] [] p3, e] kk tpos] [] p2) none pos.line X.env = pure false := by rfl)
    (hse : starEach [.Tuple [.Call (.Attribute (.Name y py) "pop" apos2) [] [] p3, e] kk tpos] X.env = (false, eval (.Tuple [.Call (.Attribute (.Name y py) "pop" apos2) [] [] p3, e] kk tpos) X.env) :: starEach [] X.env := by rfl)
    (hse2 : starEach [.Call (.Attribute (.Name y py) "pop" apos2) [] [] p3, e] X.env = (false, eval (.Call (.Attribute (.Name y py) "pop" apos2) [] [] p3) X.env) :: starEach [e] X.env := by rfl)
    (hse3 : starEach [e] X.env = (false, eval e X.env) :: starEach [] X.env := by rfl)
    (hbase : attributeBase (.Name x px) "append" X.env (eval (.Name x px) X.env) = eval (.Name x px) X.env := by rfl) (hline : (apos.endLine == p2.line) = true := by rfl)
    (hbase2 : attributeBase (.Name y py) "pop" X.env (eval (.Name y py) X.env) = eval (.Name y py) X.env := by rfl) (hline2 : (apos2.endLine == p3.line) = true := by rfl)
    (hfew : (((backTo p2 (starEach [.Tuple [.Call (.Attribute (.Name y py) "pop" apos2) [] [] p3, e] kk tpos] X.env)).all fun x => !x.fst) && ((backToKw p2 (keywordEach [] X.env)).all fun x => x.fst.isSome) && decide (([(.Tuple [.Call (.Attribute (.Name y py) "pop" apos2) [] [] p3, e] kk tpos : Expr)].length + ([] : List Keyword).length + if ([] : List Keyword).isEmpty = true then 0 else 1) < 30)) = true := by rfl) :
    QS X (.Expr (.Call (.Attribute (.Name x px) "append" apos) [.Tuple [.Call (.Attribute (.Name y py) "pop" apos2) [] [] p3, e] kk tpos] [] p2) pos) (sAppPop i j te) :=
  imp_PS (ps_expr (pe_bm (hfew := hfew) (hline := hline) (hbase := hbase) (hs := hse) PySem.F.plainAttrs_list PySem.F.slot_list_append PySem.F.type_list_append mt_append (pv i hi hv hd hcd)
    (pa_cons (pe_tup (pa_cons (pe_bm0 (hbase := hbase2) (hline := hline2) PySem.F.plainAttrs_list PySem.F.slot_list_pop PySem.F.type_list_pop mt_pop (pv j hj hv2 hd2 hcd2)) (pa_cons he pa_nil hse3) hse2)) pa_nil hse)) hs) fun D σ H h => by
    obtain ⟨F0, B, F, δ, E, S, h, k⟩ := h
    unfold sAppPop asOwn at h
    split at h
    · rename_i p ds eg
      split at h
      · rename_i q es eg2
        obtain ⟨nij, hlen, y0, hy0, h⟩ := h
        obtain ⟨h1, h2, h3, xs, h4, h5⟩ := S.own i p ds eg
        obtain ⟨g1, g2, g3, ys, g4, g5⟩ := S.own j q es eg2
        have npq : p ≠ q := fun z => nij (S.nd i j p (at_own eg) (z ▸ at_own eg2))
        obtain ⟨v0, hv0, rv0⟩ := g5.get hy0
        have S1 := S.setOwn (i := j) (a := q) (ds := es.dropLast) (xs := ys.dropLast) g2 g3 (fun m hm z => hm (S.nd m j q z (at_own eg2))) g5.dropLast rfl
        rw [set_same g1] at S1
        refine ⟨.ref p, h1, .inl ⟨rfl, _, .of h4⟩, .ref q, g1, .inl ⟨rfl, _, .of g4⟩, q, ys, v0, rfl, rfl, g4, by rw [g5.len]; exact hv0, F0, B, F, _, _, S1, h, fun u F1 H1 z x1 r1 q1 => ⟨by rw [line_eq]; show 2 ≤ 16777216; omega, fun T hT => ?_⟩⟩
        have x2 : Ext F1 H1 (upd F1 T (.tup [v0, u])) (upd H1 T (.tup [v0, u])) := Ext.new x1.s hT
        have x12 := x1.trans x2
        have h40 : upd H q (.lst ys.dropLast) p = some (.lst xs) := by rw [upd_ne npq]; exact h4
        have h4' := x12.h.at h40
        have h3' : (upd F1 T (.tup [v0, u])) p = none := x12.n p (by rw [h40]; simp) h3
        have S2 := S1.mono x12
        have ei : gt (st δ j (.own q es.dropLast)) i = .own p ds := by rw [gt_st_ne nij]; exact eg
        refine ⟨p, xs, .ref T, rfl, rfl, h4', by rw [line_eq, h5.len]; exact hlen, ?_⟩
        have rT : Rp X.K (upd F1 T (.tup [v0, u])) (.tup [y0, z]) (.ref T) := .tup upd_same (.cons (rv0.mono x12.f) (.cons (r1.mono x2.f) .nil))
        have S3 := S2.setOwn (i := i) (a := p) (ds := ds ++ [.tup [y0, z]]) (xs := xs ++ [.ref T]) h2 h3' (fun m hm z => hm (S2.nd m i p z (at_own ei))) ((h5.mono x12.f).app (.cons rT .nil)) rfl
        rw [set_same h1] at S3
        exact k.nx _ _ _ _ x12.f S3 q1
      · exact h.elim
    · exact h.elim
end
end PL

set_option Elab.async false
set_option linter.all false
set_option maxRecDepth 100000
/-! PLS25: count of one sign, the order of texts. -/
namespace PL
variable [Tabs]
open PySem PySem.Spec PySem.W PyProof.Rows L2
omit [Tabs] in
theorem occ_cnt (x : Str) (c : Nat) : ∀ (k lo : Nat) (st : Array Nat × Nat), st.snd ≤ lo → st.fst.size ≤ lo → lo + k ≤ x.length + 1 →
    (forIn (List.range' lo k) st (StrLaws.occBody x ⟨#[c]⟩ x.length (x.length + 1))).run.fst.size = st.fst.size + ((List.range' lo k).filter fun i => decide (x.cps.toList[i]? = some c)).length
  | 0, lo, st, _, _, _ => by simp
  | k + 1, lo, st, h1, h2, h3 => by
    rw [List.range'_succ, List.forIn_cons]
    unfold StrLaws.occBody
    have key := StrLaws.subAt_one x c lo
    by_cases hc : x.cps.toList[lo]? = some c
    · obtain ⟨k1, k2⟩ := key.mpr hc
      rw [if_pos ⟨⟨⟨by omega, h1⟩, k1⟩, k2⟩, List.filter_cons, if_pos (decide_eq_true hc), List.length_cons]
      have := occ_cnt x c k (lo + 1) (st.fst.push lo, lo + 1) (Nat.le_refl _) (by simp; omega) (by omega)
      simp only [Array.size_push] at this
      rw [show st.fst.size + (((List.range' (lo + 1) k).filter fun i => decide (x.cps.toList[i]? = some c)).length + 1) = st.fst.size + 1 + ((List.range' (lo + 1) k).filter fun i => decide (x.cps.toList[i]? = some c)).length by omega, ← this]
      rfl
    · have c2 : ¬ (((st.fst.size < x.length + 1 ∧ st.snd ≤ lo) ∧ lo + (⟨#[c]⟩ : Str).length ≤ x.length) ∧ Builtin.Str.subAt x ⟨#[c]⟩ lo = true) := fun h => hc (key.mp ⟨h.1.2, h.2⟩)
      rw [if_neg c2, List.filter_cons, if_neg (by simpa using hc)]
      have := occ_cnt x c k (lo + 1) (st.fst, st.snd) (by show st.snd ≤ lo + 1; omega) (by show st.fst.size ≤ lo + 1; omega) (by omega)
      exact this
omit [Tabs] in
theorem cnt_pos (c : Nat) : ∀ (l : List Nat) (n : Nat), l.length ≤ n → ((List.range n).filter fun i => decide (l[i]? = some c)).length = (l.filter fun z => Nat.beq z c).length
  | [], n, _ => by
    rw [List.filter_nil, List.length_nil, List.length_eq_zero_iff, List.filter_eq_nil_iff]
    intro i _; simp
  | x :: l, 0, h => by simp at h
  | x :: l, n + 1, h => by
    rw [List.range_succ_eq_map, List.filter_cons, List.filter_cons, List.filter_map]
    have ih := cnt_pos c l n (by simpa using h)
    have e : ((List.range n).filter ((fun i => decide ((x :: l)[i]? = some c)) ∘ Nat.succ)) = (List.range n).filter fun i => decide (l[i]? = some c) := by
      refine List.filter_congr fun i _ => ?_
      simp
    rw [e]
    by_cases hx : x = c
    · subst hx
      rw [if_pos (by simp), if_pos (Nat.beq_refl x), List.length_cons, List.length_cons, List.length_map, ih]
    · rw [if_neg (by simpa using hx), if_neg (by simpa using fun z => hx z), List.length_map, ih]
omit [Tabs] in
theorem count_txt (x : Str) (c : Nat) : PySem.Txt.count x (txt [c]) = (((x.cps.toList.filter fun z => Nat.beq z c).length : Nat) : Int) := by
  unfold PySem.Txt.count
  rw [StrLaws.occ_eq]
  have h := occ_cnt x c (x.length + 1) 0 (#[], 0) (Nat.le_refl _) (Nat.le_refl _) (by omega)
  have e : (forIn (List.range' 0 (x.length + 1 - 0)) ((#[] : Array Nat), 0) (StrLaws.occBody x (txt [c]) x.length (x.length + 1))).run.fst.toList.length = (forIn (List.range' 0 (x.length + 1)) ((#[] : Array Nat), 0) (StrLaws.occBody x ⟨#[c]⟩ x.length (x.length + 1))).run.fst.size := rfl
  rw [e, h]
  rw [← List.range_eq_range', cnt_pos c x.cps.toList (x.length + 1) (by show x.cps.toList.length ≤ x.cps.size + 1; simp)]
  simp
section
variable {X : Cx}
theorem q_count {o e : Expr} {to te : Ex} {apos pos : Pos} (ho : QE X o to) (he : QE X e te) (hs : starEach [e] X.env = [(false, eval e X.env)] := by rfl) (hbase : attributeBase o "count" X.env (eval o X.env) = eval o X.env := by rfl) (hline : (apos.endLine == pos.line) = true := by rfl) :
    QE X (.Call (.Attribute o "count" apos) [e] [] pos) (eCount to te) :=
  imp_PE (pe_m1 PySem.F.slot_str_count PySem.F.type_str_count mt_count ho he hs hbase hline) fun σ H Q h => by
    obtain ⟨F0, B, F, δ, Qd, S, h, k⟩ := h
    refine ⟨F0, B, F, δ, _, S, h, fun v F1 H1 d x1 r1 q1 => ?_⟩
    cases d with
    | str a =>
      cases r1.strI
      refine ⟨⟨a, rfl⟩, F0, B, F1, δ, _, S.mono x1, q1, fun u F2 H2 d2 x2 r2 q2 => ?_⟩
      cases d2 with
      | str b =>
        cases r2.strI
        obtain ⟨c, rfl, q3⟩ := q2
        refine ⟨a, _, rfl, rfl, ?_⟩
        rw [count_txt]
        exact k _ F2 H2 _ (x1.trans x2) (.int _) q3
      | _ => exact q2.elim
    | _ => exact q1.elim
theorem k_ltX (hu : X.A.units + 64 < cLine) : OpR X (compareOp .Lt) (fun x y H Q => (∃ i j, x = .str i ∧ y = .str j ∧ Q (.bl (decide (i.cps.toList < j.cps.toList))) H) ∨ rTT X.K (fun a b => lexGt b a) x y H Q) ∧ V2 X.K (fun x y H Q => (∃ i j, x = .str i ∧ y = .str j ∧ Q (.bl (decide (i.cps.toList < j.cps.toList))) H) ∨ rTT X.K (fun a b => lexGt b a) x y H Q) oLtX := by
  refine ⟨op_lt_str.or (k_ltT hu).1, ?_⟩
  intro F H x y v u Qd Q s rx ry h k
  cases x <;> cases y <;> first | exact h.elim | skip
  · cases rx.strI
    cases ry.strI
    exact .inl ⟨_, _, rfl, rfl, k _ F H _ (.refl s) (.bl _) h⟩
  · exact .inr ((k_ltT hu).2 F H _ _ v u Qd Q s rx ry h k)
end
end PL

set_option Elab.async false
set_option linter.all false
set_option maxRecDepth 100000
/-! PLS26: max and min of three ints. -/
namespace PL
variable [Tabs]
open PySem PySem.Spec PySem.W PyProof.Rows L2
section
variable {X : Cx}
theorem vals3 {x y z : V} {us : List Value} (r : Vals [x, y, z] us) : ∃ u v w, us = [u, v, w] ∧ RelV x u ∧ RelV y v ∧ RelV z w := by
  cases r with
  | cons r1 r =>
    cases r with
    | cons r2 r =>
      cases r with
      | cons r3 r => cases r; exact ⟨_, _, _, rfl, r1, r2, r3⟩
theorem call_max3 (hc : X.calm = true) : CallR X (.builtin "max") (fun xs H Q => ∃ i j l, xs = [.int i, .int j, .int l] ∧ Q (.int (if j > i then (if l > j then l else j) else (if l > i then l else i))) H) := by
  intro pins s σ H xs us Q I r h
  obtain ⟨i, j, l, rfl, q⟩ := h
  obtain ⟨u, v, w', rfl, ⟨t, rfl⟩, ⟨t', rfl⟩, ⟨t'', rfl⟩⟩ := vals3 r
  refine max_three_ints (I.ok.hd hc) fun h' tk k => ⟨_, H, I.kept k, ?_, q⟩
  split <;> split <;> exact ⟨_, rfl⟩
theorem call_min3 (hc : X.calm = true) : CallR X (.builtin "min") (fun xs H Q => ∃ i j l, xs = [.int i, .int j, .int l] ∧ Q (.int (if j < i then (if l < j then l else j) else (if l < i then l else i))) H) := by
  intro pins s σ H xs us Q I r h
  obtain ⟨i, j, l, rfl, q⟩ := h
  obtain ⟨u, v, w', rfl, ⟨t, rfl⟩, ⟨t', rfl⟩, ⟨t'', rfl⟩⟩ := vals3 r
  refine min_three_ints (I.ok.hd hc) fun h' tk k => ⟨_, H, I.kept k, ?_, q⟩
  split <;> split <;> exact ⟨_, rfl⟩
theorem b_max3 (hc : X.calm = true) : CallR X (.builtin "max") (fun xs H Q => ∃ i j l, xs = [.int i, .int j, .int l] ∧ Q (.int (if j > i then (if l > j then l else j) else (if l > i then l else i))) H) ∧ VC X.K (fun xs H Q => ∃ i j l, xs = [.int i, .int j, .int l] ∧ Q (.int (if j > i then (if l > j then l else j) else (if l > i then l else i))) H) pMax3 := ⟨call_max3 hc, fun F H ds vs Qd Q s r h k => by
  unfold pMax3 at h
  split at h
  · obtain ⟨v, q1, rfl, r1, t1⟩ := RpL.inv r
    obtain ⟨u, w', rfl, r2, r3⟩ := t1.two
    cases r1.intI; cases r2.intI; cases r3.intI
    exact ⟨_, _, _, rfl, k _ F H _ (.refl s) (.int _) h⟩
  · exact h.elim⟩
theorem b_min3 (hc : X.calm = true) : CallR X (.builtin "min") (fun xs H Q => ∃ i j l, xs = [.int i, .int j, .int l] ∧ Q (.int (if j < i then (if l < j then l else j) else (if l < i then l else i))) H) ∧ VC X.K (fun xs H Q => ∃ i j l, xs = [.int i, .int j, .int l] ∧ Q (.int (if j < i then (if l < j then l else j) else (if l < i then l else i))) H) pMin3 := ⟨call_min3 hc, fun F H ds vs Qd Q s r h k => by
  unfold pMin3 at h
  split at h
  · obtain ⟨v, q1, rfl, r1, t1⟩ := RpL.inv r
    obtain ⟨u, w', rfl, r2, r3⟩ := t1.two
    cases r1.intI; cases r2.intI; cases r3.intI
    exact ⟨_, _, _, rfl, k _ F H _ (.refl s) (.int _) h⟩
  · exact h.elim⟩
end
end PL

namespace G
open PL
open PySem (Str)
local macro_rules | `(tactic| simp_wf) => `(tactic| ((try simp only [↓eTup_w1, ↓eLst_w1, ↓eTup_w2, ↓eLst_w2, ↓eTup_w3, ↓eLst_w3, ↓eTup_w4, ↓eLst_w4, ↓eTup_w5, ↓eLst_w5, ↓eTup_w6, ↓eLst_w6, ↓eTup_w7, ↓eLst_w7, ↓eTup_w8, ↓eLst_w8, sSeq, sNil, sRet, sRetN, sIf, sAsg, sPar, sPar3, sAug, sOwn, sFrz, sFgt, sEnd, sApp, sSet, sDrop, sBrk, sCnt, eVar, eC, e1, e2, eIxS, eLenS, eTupleS, tB, tTru, tAnd, tOr, tNot, eAnd, eOr, eNot, eIf, eChn, eChn3, aNil, aCons, eTup, eLst, eCall, eIsI, oEq, oNe, oIsN, oNotN, frz1, endsOf, iSeq, iEnum, iRng1, iRng2, iRng3, sFor, eLc, eLc2, eAllG, eAnyG, wp, tYes, eSlice, eSliceF, eIdx, eInS, oInB_ft, oInB_fl, oInB_tt, oInB_tl, oNo, oSome, startP, oIn_t, oIn_l, oNin_t, oNin_l, flatD_i, flatD_b, flatD_n, flatD_s, any_int, flat_ints, oRev_l, oRev_t, oStep_l, oInG_t, oInG_l, pSortR_l, pMinG_l, pMinG_t, pMaxG_l, pMaxG_t, pSortG_l, pSortG_t, pMax_l, pMax_t, pMin_l, pMin_t, pSumS_l, pSumS_t, oRepL_, oRepT_, oCatL_, rep_one, pSortX_l, pSortX_t, oIndex_l, oIsB_, oNotB_, asVal_, asOwn_, asB_, asI_, asSeq_t, asSeq_l, asLst_, frzS_, sDic, eDIn, eDGet, iStrD, iEnumS, eJoin, pMax3_, pMin3_, eCount, eSliceS, asStr_, txt_cps, txt_len, sAppPop, sSetPop, oLtX_s, oLtX_t, sDSet, asDic_, frzS_dic, keyOk_i, keyOk_s, keyOk_t, isKey_i, xor_f, xor_t, truD_b, truD_i, truD_n, truD_t, truD_l, truD_s, oAdd_ii, oAddI_ii, oSub_ii, oMul_ii, oFdiv_ii, oFdivX_ii, oTT_tt, sAugS, sRetS, endsN, eLendN, iZipX, iRev, eLstRg, eTupRg, eLend, tLend, eLendF, noL_n, noL_i, noL_b, noL_s, noL_t, noLL_nil, noLL_cons, rng_lenP, oMulX_ii, oFdivN_ii, oMod_ii, oModN_ii, oPow_ii, oLt_ii, oLe_ii, oGt_ii, oGe_ii, oAdd_tt, oAdd_ll, oAdd_ss, oNeg_i, oIx_t, oIx_l, oIx_s, oCut_t, oCut_l, pLen_t, pLen_l, pLen_s, pAbs_, pInt_i, pInt_b, pMax2_, pMin2_, pTuple_t, pTuple_l, pList_t, pList_l, pAllL_, pAnyL_, pSumL_, isTy_nint, isTy_nbool, isTy_nstr, isTy_ntuple, isTy_nlist, isTy_bint, isTy_bbool, isTy_bstr, isTy_btuple, isTy_blist, isTy_iint, isTy_ibool, isTy_istr, isTy_ituple, isTy_ilist, isTy_sint, isTy_sbool, isTy_sstr, isTy_stuple, isTy_slist, isTy_tint, isTy_tbool, isTy_tstr, isTy_ttuple, isTy_tlist, isTy_lint, isTy_lbool, isTy_lstr, isTy_ltuple, isTy_llist, tg_nm, tg_tp, tg_tpl, tgL_nil, tgL_cons, shp_n, shp_b, shp_i, shp_t, shp_l, shpL_nil, shpL_cons, eqv_non_int, eqv_int_non, eqv_str_int, eqv_int_str, eqv_tup_int, eqv_int_tup, eqv_lst_int, eqv_int_lst, eqv_bb, eqv_nn, eqv_tt, eqv_ll, eqvL_nn, eqvL_cc, eqvL_nc, eqvL_cn, gt_zero, gt_succ, st_zero, st_succ, List.map_cons, List.map_nil, List.length_cons, List.length_nil, Nat.reduceAdd, Nat.reduceSub, List.replicate, List.cons_append, List.nil_append, eqv_int, if_true, ite_ff, Bool.false_eq_true, if_false, decide_eq_true_eq, true_and, and_true, and_self, beq_iff_eq, Bool.not_eq_true', decide_eq_false_iff_not, bne_iff_ne, ne_eq, reduceIte, Bool.true_and, Bool.and_true, Bool.and_self, reduceCtorEq, decide_true, decide_false, Bool.not_true, Bool.not_false, Nat.reduceLeDiff, Int.reduceLE, Int.reducePow, Int.reduceNeg, Int.reduceLT, Int.reduceToNat, Nat.reduceMul, Int.reduceAdd, Int.reduceMul, Int.reduceSub, Nat.reduceLT, mulB_l, mulB_r, Int.reduceEq, Nat.reduceEqDiff, Int.reduceMod, Int.reduceDiv, eq_self, beq_self_eq_true, Bool.true_beq, Bool.false_beq, not_true_eq_false, not_false_eq_true]); (repeat ((with_reducible refine nxt ?_); (try simp only [↓eTup_w1, ↓eLst_w1, ↓eTup_w2, ↓eLst_w2, ↓eTup_w3, ↓eLst_w3, ↓eTup_w4, ↓eLst_w4, ↓eTup_w5, ↓eLst_w5, ↓eTup_w6, ↓eLst_w6, ↓eTup_w7, ↓eLst_w7, ↓eTup_w8, ↓eLst_w8, sSeq, sNil, sRet, sRetN, sIf, sAsg, sPar, sPar3, sAug, sOwn, sFrz, sFgt, sEnd, sApp, sSet, sDrop, sBrk, sCnt, eVar, eC, e1, e2, eIxS, eLenS, eTupleS, tB, tTru, tAnd, tOr, tNot, eAnd, eOr, eNot, eIf, eChn, eChn3, aNil, aCons, eTup, eLst, eCall, eIsI, oEq, oNe, oIsN, oNotN, frz1, endsOf, iSeq, iEnum, iRng1, iRng2, iRng3, sFor, eLc, eLc2, eAllG, eAnyG, wp, tYes, eSlice, eSliceF, eIdx, eInS, oInB_ft, oInB_fl, oInB_tt, oInB_tl, oNo, oSome, startP, oIn_t, oIn_l, oNin_t, oNin_l, flatD_i, flatD_b, flatD_n, flatD_s, any_int, flat_ints, oRev_l, oRev_t, oStep_l, oInG_t, oInG_l, pSortR_l, pMinG_l, pMinG_t, pMaxG_l, pMaxG_t, pSortG_l, pSortG_t, pMax_l, pMax_t, pMin_l, pMin_t, pSumS_l, pSumS_t, oRepL_, oRepT_, oCatL_, rep_one, pSortX_l, pSortX_t, oIndex_l, oIsB_, oNotB_, asVal_, asOwn_, asB_, asI_, asSeq_t, asSeq_l, asLst_, frzS_, sDic, eDIn, eDGet, iStrD, iEnumS, eJoin, pMax3_, pMin3_, eCount, eSliceS, asStr_, txt_cps, txt_len, sAppPop, sSetPop, oLtX_s, oLtX_t, sDSet, asDic_, frzS_dic, keyOk_i, keyOk_s, keyOk_t, isKey_i, xor_f, xor_t, truD_b, truD_i, truD_n, truD_t, truD_l, truD_s, oAdd_ii, oAddI_ii, oSub_ii, oMul_ii, oFdiv_ii, oFdivX_ii, oTT_tt, sAugS, sRetS, endsN, eLendN, iZipX, iRev, eLstRg, eTupRg, eLend, tLend, eLendF, noL_n, noL_i, noL_b, noL_s, noL_t, noLL_nil, noLL_cons, rng_lenP, oMulX_ii, oFdivN_ii, oMod_ii, oModN_ii, oPow_ii, oLt_ii, oLe_ii, oGt_ii, oGe_ii, oAdd_tt, oAdd_ll, oAdd_ss, oNeg_i, oIx_t, oIx_l, oIx_s, oCut_t, oCut_l, pLen_t, pLen_l, pLen_s, pAbs_, pInt_i, pInt_b, pMax2_, pMin2_, pTuple_t, pTuple_l, pList_t, pList_l, pAllL_, pAnyL_, pSumL_, isTy_nint, isTy_nbool, isTy_nstr, isTy_ntuple, isTy_nlist, isTy_bint, isTy_bbool, isTy_bstr, isTy_btuple, isTy_blist, isTy_iint, isTy_ibool, isTy_istr, isTy_ituple, isTy_ilist, isTy_sint, isTy_sbool, isTy_sstr, isTy_stuple, isTy_slist, isTy_tint, isTy_tbool, isTy_tstr, isTy_ttuple, isTy_tlist, isTy_lint, isTy_lbool, isTy_lstr, isTy_ltuple, isTy_llist, tg_nm, tg_tp, tg_tpl, tgL_nil, tgL_cons, shp_n, shp_b, shp_i, shp_t, shp_l, shpL_nil, shpL_cons, eqv_non_int, eqv_int_non, eqv_str_int, eqv_int_str, eqv_tup_int, eqv_int_tup, eqv_lst_int, eqv_int_lst, eqv_bb, eqv_nn, eqv_tt, eqv_ll, eqvL_nn, eqvL_cc, eqvL_nc, eqvL_cn, gt_zero, gt_succ, st_zero, st_succ, List.map_cons, List.map_nil, List.length_cons, List.length_nil, Nat.reduceAdd, Nat.reduceSub, List.replicate, List.cons_append, List.nil_append, eqv_int, if_true, ite_ff, Bool.false_eq_true, if_false, decide_eq_true_eq, true_and, and_true, and_self, beq_iff_eq, Bool.not_eq_true', decide_eq_false_iff_not, bne_iff_ne, ne_eq, reduceIte, Bool.true_and, Bool.and_true, Bool.and_self, reduceCtorEq, decide_true, decide_false, Bool.not_true, Bool.not_false, Nat.reduceLeDiff, Int.reduceLE, Int.reducePow, Int.reduceNeg, Int.reduceLT, Int.reduceToNat, Nat.reduceMul, Int.reduceAdd, Int.reduceMul, Int.reduceSub, Nat.reduceLT, mulB_l, mulB_r, Int.reduceEq, Nat.reduceEqDiff, Int.reduceMod, Int.reduceDiv, eq_self, beq_self_eq_true, Bool.true_beq, Bool.false_beq, not_true_eq_false, not_false_eq_true])))))

/-! sums -/
def sumN : Nat → (Nat → Int) → Int
  | 0, _ => 0
  | n + 1, f => sumN n f + f n
theorem sumN_congr : ∀ {n : Nat} {f g : Nat → Int}, (∀ i, i < n → f i = g i) → sumN n f = sumN n g
  | 0, _, _, _ => rfl
  | n + 1, f, g, h => by rw [sumN, sumN, sumN_congr fun i hi => h i (by omega), h n (by omega)]
theorem sumN_add : ∀ (n : Nat) (f g : Nat → Int), sumN n (fun i => f i + g i) = sumN n f + sumN n g
  | 0, _, _ => rfl
  | n + 1, f, g => by simp only [sumN]; rw [sumN_add n f g]; omega
theorem sumN_mul : ∀ (n : Nat) (a : Int) (f : Nat → Int), sumN n (fun i => a * f i) = a * sumN n f
  | 0, a, _ => by simp [sumN]
  | n + 1, a, f => by simp only [sumN]; rw [sumN_mul n a f, Int.mul_add]
theorem sumN_zero : ∀ (n : Nat), sumN n (fun _ => 0) = 0
  | 0 => rfl
  | n + 1 => by simp only [sumN]; rw [sumN_zero n]; rfl
theorem sumN_split : ∀ (a b : Nat) (f : Nat → Int), sumN (a + b) f = sumN a f + sumN b (fun i => f (a + i))
  | a, 0, f => by simp [sumN]
  | a, b + 1, f => by rw [← Nat.add_assoc, sumN, sumN_split a b f, sumN]; omega
theorem sumN_one {n j : Nat} (h : j < n) (g : Nat → Int) : sumN n (fun i => if i = j then g i else 0) = g j := by
  induction n with
  | zero => omega
  | succ n ih =>
    rw [sumN]
    by_cases c : j = n
    · subst c
      rw [if_pos rfl, sumN_congr (g := fun _ => 0) fun i hi => if_neg (by omega), sumN_zero]; omega
    · rw [ih (by omega), if_neg (by omega)]; omega
theorem sumN_swap : ∀ (n m : Nat) (f : Nat → Nat → Int), sumN n (fun i => sumN m fun j => f i j) = sumN m fun j => sumN n fun i => f i j
  | 0, m, f => by simp only [sumN]; rw [sumN_zero]
  | n + 1, m, f => by simp only [sumN]; rw [sumN_swap n m f, sumN_add m (fun j => sumN n fun i => f i j) (fun j => f n j)]
theorem sumN_const (c : Int) : ∀ n : Nat, sumN n (fun _ => c) = n * c
  | 0 => by simp [sumN]
  | n + 1 => by rw [sumN, sumN_const c n]; rw [Int.natCast_add, Int.add_mul]; simp
/-! the companion's powers -/
def vc (n : Nat) (c : Nat → Int) : Nat → Nat → Int
  | 0, j => if j = 0 then 1 else 0
  | m + 1, j => (if j = 0 then 0 else vc n c m (j - 1)) - c j * vc n c m (n - 1)
theorem vc_low {n : Nat} {c : Nat → Int} : ∀ m, m < n → ∀ j, j < n → vc n c m j = if m = j then 1 else 0
  | 0, _, j, _ => by
    rw [vc]
    by_cases h : j = 0
    · rw [if_pos h, if_pos h.symm]
    · rw [if_neg h, if_neg (fun z => h z.symm)]
  | m + 1, hm, j, hj => by
    rw [vc, vc_low m (by omega) (n - 1) (by omega), if_neg (show ¬m = n - 1 by omega), Int.mul_zero, Int.sub_zero]
    by_cases h : j = 0
    · rw [if_pos h, if_neg (by omega)]
    · rw [if_neg h, vc_low m (by omega) (j - 1) (by omega)]
      by_cases e : m = j - 1
      · rw [if_pos e, if_pos (by omega)]
      · rw [if_neg e, if_neg (by omega)]
/-- the curve at the companion -/
def Fc (n : Nat) (c : Nat → Int) (m j : Nat) : Int := sumN (n + 1) fun u => c (n - u) * vc n c (m - u) j
theorem Fc_zero {n : Nat} {c : Nat → Int} (hn : 1 ≤ n) (hc : c n = 1) : ∀ t j, j < n → Fc n c (n + t) j = 0
  | 0, j, hj => by
    unfold Fc
    rw [show n + 1 = 1 + n by omega, sumN_split]
    have e1 : sumN 1 (fun u => c (n - u) * vc n c (n + 0 - u) j) = -c j := by
      simp only [sumN]
      rw [Nat.sub_zero, Nat.sub_zero, hc, Nat.add_zero, show n = (n - 1) + 1 by omega, vc]
      rw [show n - 1 + 1 - 1 = n - 1 by omega, show n - 1 + 1 = n by omega]
      rw [vc_low (n - 1) (by omega) (n - 1) (by omega), if_pos rfl]
      by_cases h : j = 0
      · rw [if_pos h]; omega
      · rw [if_neg h, vc_low (n - 1) (by omega) (j - 1) (by omega), if_neg (by omega)]; omega
    have e2 : sumN n (fun i => c (n - (1 + i)) * vc n c (n + 0 - (1 + i)) j) = c j := by
      rw [sumN_congr (g := fun i => if i = n - 1 - j then c (n - (1 + i)) else 0) fun i hi => ?_, sumN_one (by omega)]
      · congr 1; omega
      · rw [vc_low _ (by omega) j hj]
        by_cases h : i = n - 1 - j
        · rw [if_pos h, if_pos (by omega), Int.mul_one]
        · rw [if_neg h, if_neg (by omega), Int.mul_zero]
    rw [e1, e2]; omega
  | t + 1, j, hj => by
    have e : Fc n c (n + (t + 1)) j = (if j = 0 then 0 else Fc n c (n + t) (j - 1)) + -c j * Fc n c (n + t) (n - 1) := by
      unfold Fc
      by_cases h : j = 0
      · rw [if_pos h, ← sumN_mul, Int.zero_add]
        refine sumN_congr fun u hu => ?_
        rw [show n + (t + 1) - u = (n + t - u) + 1 by omega, vc, if_pos h]
        grind
      · rw [if_neg h, ← sumN_mul, ← sumN_add]
        refine sumN_congr fun u hu => ?_
        rw [show n + (t + 1) - u = (n + t - u) + 1 by omega, vc, if_neg h]
        grind
    rw [e, Fc_zero hn hc t (n - 1) (by omega)]
    by_cases h : j = 0
    · rw [if_pos h]; simp
    · rw [if_neg h, Fc_zero hn hc t (j - 1) (by omega)]; simp
/-- the trace of a power -/
def pc (n : Nat) (c : Nat → Int) (t : Nat) : Int := sumN n fun i => vc n c (t + i) i
theorem newton_low {n : Nat} {c : Nat → Int} (hn : 1 ≤ n) (hc : c n = 1) {k : Nat} (k1 : 1 ≤ k) (kn : k ≤ n) : sumN k (fun u => c (n - u) * pc n c (k - u)) = -(k * c (n - k)) := by
  have e : sumN k (fun u => c (n - u) * pc n c (k - u)) = sumN n fun i => sumN k fun u => c (n - u) * vc n c (k - u + i) i := by
    rw [sumN_swap]
    refine sumN_congr fun u _ => ?_
    unfold pc
    rw [sumN_mul]
  rw [e]
  have r : ∀ i, i < n → (sumN k fun u => c (n - u) * vc n c (k - u + i) i) = if k + i < n then 0 else -c (n - k) := fun i hi => by
    by_cases h : k + i < n
    · rw [if_pos h, sumN_congr (g := fun _ => 0) fun u hu => ?_, sumN_zero]
      rw [vc_low _ (by omega) i hi, if_neg (by omega), Int.mul_zero]
    · rw [if_neg h]
      have f := Fc_zero hn hc (k + i - n) i hi
      rw [show n + (k + i - n) = k + i by omega] at f
      unfold Fc at f
      rw [show n + 1 = k + (n + 1 - k) by omega, sumN_split] at f
      have e2 : sumN (n + 1 - k) (fun u => c (k + (n + 1 - k) - 1 - (k + u)) * vc n c (k + i - (k + u)) i) = c (n - k) := by
        rw [sumN_congr (g := fun u => if u = 0 then c (n - k) else 0) fun u hu => ?_, sumN_one (by omega)]
        rw [vc_low _ (by omega) i hi]
        by_cases z : u = 0
        · subst z
          rw [if_pos rfl, if_pos (by omega), Int.mul_one]
          congr 1; omega
        · rw [if_neg z, if_neg (by omega), Int.mul_zero]
      have e3 : sumN k (fun u => c (n - u) * vc n c (k + i - u) i) = sumN k fun u => c (n - u) * vc n c (k - u + i) i := sumN_congr fun u hu => by rw [show k + i - u = k - u + i by omega]
      have e4 : sumN (n + 1 - k) (fun u => c (n - (k + u)) * vc n c (k + i - (k + u)) i) = c (n - k) := by
        rw [← e2]
        exact sumN_congr fun u hu => by rw [show k + (n + 1 - k) - 1 - (k + u) = n - (k + u) by omega]
      rw [e3, e4] at f
      omega
  rw [sumN_congr r]
  rw [show n = (n - k) + k by omega, sumN_split]
  rw [sumN_congr (g := fun _ => 0) fun i hi => if_pos (by omega), sumN_zero]
  rw [sumN_congr (n := k) (g := fun _ => -c (n - k)) fun i hi => by rw [if_neg (by omega)]; congr 2; omega]
  rw [sumN_const, show n - k + k - k = n - k by omega]
  grind
theorem newton_high {n : Nat} {c : Nat → Int} (hn : 1 ≤ n) (hc : c n = 1) {k : Nat} (kn : n < k) : sumN (n + 1) (fun u => c (n - u) * pc n c (k - u)) = 0 := by
  have e : sumN (n + 1) (fun u => c (n - u) * pc n c (k - u)) = sumN n fun i => Fc n c (n + (k + i - n)) i := by
    unfold Fc
    rw [sumN_swap]
    refine sumN_congr fun u hu => ?_
    unfold pc
    rw [← sumN_mul]
    refine sumN_congr fun i hi => ?_
    rw [show n + (k + i - n) - u = k - u + i by omega]
  rw [e, sumN_congr (g := fun _ => 0) fun i hi => Fc_zero hn hc _ i hi, sumN_zero]
/-- the sums step by step -/
theorem newton {n : Nat} {c : Nat → Int} (hn : 1 ≤ n) (hc : c n = 1) (k : Nat) : pc n c (k + 1) = -((if k + 1 ≤ n then ((k + 1 : Nat) : Int) * c (n - (k + 1)) else 0) + sumN (min k n) fun u => c (n - (u + 1)) * pc n c (k - u)) := by
  by_cases h : k + 1 ≤ n
  · rw [if_pos h, show min k n = k by omega]
    have a := newton_low hn hc (k := k + 1) (by omega) h
    rw [show k + 1 = 1 + k by omega, sumN_split] at a
    simp only [sumN] at a
    rw [Nat.sub_zero, Nat.sub_zero, hc, show 1 + k = k + 1 by omega] at a
    have e : sumN k (fun i => c (n - (1 + i)) * pc n c (k + 1 - (1 + i))) = sumN k fun u => c (n - (u + 1)) * pc n c (k - u) := sumN_congr fun u _ => by rw [show 1 + u = u + 1 by omega, show k + 1 - (u + 1) = k - u by omega]
    rw [e] at a
    omega
  · rw [if_neg h, show min k n = n by omega]
    have a := newton_high hn hc (k := k + 1) (by omega)
    rw [show n + 1 = 1 + n by omega, sumN_split] at a
    simp only [sumN] at a
    rw [Nat.sub_zero, Nat.sub_zero] at a
    have e0 : c (1 + n - 1) = 1 := by rw [show 1 + n - 1 = n by omega, hc]
    have e : sumN n (fun i => c (n - (1 + i)) * pc n c (k + 1 - (1 + i))) = sumN n fun u => c (n - (u + 1)) * pc n c (k - u) := sumN_congr fun u _ => by rw [show 1 + u = u + 1 by omega, show k + 1 - (u + 1) = k - u by omega]
    rw [hc, e] at a
    omega
/-! curves as lists -/
def cofL (c : List Int) : Nat → Int := fun s => c.getD s 0
def psum (c : List Int) (t : Nat) : Int := pc (c.length - 1) (cofL c) t
def rsL (c : List Int) (k : Nat) : List Int := (List.range k).map fun t => psum c (t + 1)
structure Mon (c : List Int) : Prop where
  len : 2 ≤ c.length
  one : c.getD (c.length - 1) 0 = 1
theorem rsL_len (c : List Int) (k : Nat) : (rsL c k).length = k := by unfold rsL; rw [List.length_map, List.length_range]
theorem rsL_get {c : List Int} {k t : Nat} (h : t < k) : (rsL c k).getD t 0 = psum c (t + 1) := by
  unfold rsL
  rw [List.getD_eq_getElem?_getD, List.getElem?_map, List.getElem?_range h]; rfl
theorem rsL_next (c : List Int) (k : Nat) : rsL c (k + 1) = rsL c k ++ [psum c (k + 1)] := by
  unfold rsL
  rw [List.range_succ, List.map_append]; rfl
theorem psum_next {c : List Int} (h : Mon c) (k : Nat) : psum c (k + 1) = -((if k + 1 ≤ c.length - 1 then ((k + 1 : Nat) : Int) * c.getD (c.length - 1 - (k + 1)) 0 else 0) + sumN (min k (c.length - 1)) fun u => c.getD (c.length - 1 - (u + 1)) 0 * psum c (k - u)) :=
  newton (by have := h.len; omega) h.one k
/-- by the steps alone, to be reckoned with -/
def rsR (c : List Int) : Nat → List Int
  | 0 => []
  | k + 1 => rsR c k ++ [-((if k + 1 ≤ c.length - 1 then ((k + 1 : Nat) : Int) * c.getD (c.length - 1 - (k + 1)) 0 else 0) + sumN (min k (c.length - 1)) fun u => c.getD (c.length - 1 - (u + 1)) 0 * (rsR c k).getD (k - u - 1) 0)]
theorem rsR_eq {c : List Int} (h : Mon c) : ∀ k, rsR c k = rsL c k
  | 0 => rfl
  | k + 1 => by
    rw [rsR, rsR_eq h k, rsL_next, psum_next h k]
    rw [sumN_congr (g := fun u => c.getD (c.length - 1 - (u + 1)) 0 * psum c (k - u)) fun u hu => ?_]
    rw [rsL_get (by omega), show k - u - 1 + 1 = k - u by omega]
/-! the curve from the sums -/
def totC (it s : List Int) (k : Nat) : Int := sumN k fun u => it.getD u 0 * s.getD (k - u - 1) 0
def cfL (s : List Int) : Nat → Option (List Int)
  | 0 => some [1]
  | k + 1 => match cfL s k with
    | none => none
    | some it => if totC it s (k + 1) % ((k + 1 : Nat) : Int) = 0 then some (it ++ [-(totC it s (k + 1) / ((k + 1 : Nat) : Int))]) else none
def cfD (s : List Int) : D := match cfL s s.length with
  | none => .non
  | some it => .tup (it.reverse.map .int)
theorem getD_app {l m : List Int} {i : Nat} (h : i < l.length) : (l ++ m).getD i 0 = l.getD i 0 := by
  rw [List.getD_eq_getElem?_getD, List.getD_eq_getElem?_getD, List.getElem?_append_left h]
theorem getD_end {l : List Int} {x : Int} : (l ++ [x]).getD l.length 0 = x := by
  rw [List.getD_eq_getElem?_getD, List.getElem?_append_right (by omega)]; simp
theorem getD_rev {c : List Int} {i : Nat} (h : i < c.length) : c.reverse.getD i 0 = c.getD (c.length - 1 - i) 0 := by
  rw [List.getD_eq_getElem?_getD, List.getElem?_reverse h, List.getD_eq_getElem?_getD]
theorem cfL_len {s : List Int} : ∀ {k : Nat} {it : List Int}, cfL s k = some it → it.length = k + 1 ∧ it.getD 0 0 = 1
  | 0, it, h => by
    rw [cfL] at h
    injection h with h
    subst h
    exact ⟨rfl, rfl⟩
  | k + 1, it, h => by
    rw [cfL] at h
    cases e : cfL s k with
    | none => rw [e] at h; cases h
    | some i2 =>
      rw [e] at h
      simp only at h
      have ih := cfL_len e
      split at h
      · injection h with h
        subst h
        refine ⟨by rw [List.length_append, ih.1]; rfl, ?_⟩
        rw [getD_app (by omega)]; exact ih.2
      · cases h
/-- the curve comes back -/
theorem cf_back {c : List Int} (h : Mon c) : ∀ k, k ≤ c.length - 1 → cfL (rsL c (c.length - 1)) k = some (c.reverse.take (k + 1))
  | 0, _ => by
    rw [cfL]
    have l := h.len
    have e : c.reverse.getD 0 0 = 1 := by rw [getD_rev (by omega)]; exact h.one
    cases hr : c.reverse with
    | nil => have : c.reverse.length = c.length := List.length_reverse; rw [hr] at this; simp at this; omega
    | cons x r =>
      rw [hr] at e
      simp only [List.getD_cons_zero] at e
      subst e
      rfl
  | k + 1, hk => by
    rw [cfL, cf_back h k (by omega)]
    simp only
    have l := h.len
    have et : totC (c.reverse.take (k + 1)) (rsL c (c.length - 1)) (k + 1) = -(((k + 1 : Nat) : Int) * c.getD (c.length - 1 - (k + 1)) 0) := by
      have := newton_low (n := c.length - 1) (c := cofL c) (by omega) h.one (k := k + 1) (by omega) hk
      unfold totC
      rw [← show cofL c (c.length - 1 - (k + 1)) = c.getD (c.length - 1 - (k + 1)) 0 from rfl, ← this]
      refine sumN_congr fun u hu => ?_
      rw [rsL_get (by omega), show k + 1 - u - 1 + 1 = k + 1 - u by omega]
      congr 1
      rw [List.getD_eq_getElem?_getD, List.getElem?_take_of_lt hu, ← List.getD_eq_getElem?_getD, getD_rev (by omega)]
      rfl
    have e1 : totC (c.reverse.take (k + 1)) (rsL c (c.length - 1)) (k + 1) % ((k + 1 : Nat) : Int) = 0 := by
      rw [et]; exact Int.emod_eq_zero_of_dvd ⟨-c.getD (c.length - 1 - (k + 1)) 0, by grind⟩
    rw [if_pos e1, et]
    congr 1
    rw [List.take_succ (i := k + 1)]
    congr 1
    have hlt : k + 1 < c.reverse.length := by rw [List.length_reverse]; omega
    rw [List.getElem?_eq_getElem hlt]
    show _ = [_]
    congr 1
    have e2 := getD_rev (c := c) (i := k + 1) (by omega)
    rw [List.getD_eq_getElem?_getD, List.getElem?_eq_getElem hlt] at e2
    simp only [Option.getD_some] at e2
    rw [e2, ← Int.mul_neg, Int.mul_ediv_cancel_left _ (by omega), Int.neg_neg]
/-- what the search tells of its items -/
theorem cf_rel {s : List Int} : ∀ {k : Nat} {it : List Int}, cfL s k = some it → ∀ j, j < k → totC it s (j + 1) = -(((j + 1 : Nat) : Int) * it.getD (j + 1) 0)
  | 0, it, _, j, hj => by omega
  | k + 1, it, h, j, hj => by
    rw [cfL] at h
    cases e : cfL s k with
    | none => rw [e] at h; cases h
    | some i2 =>
      rw [e] at h
      simp only at h
      have il := (cfL_len e).1
      split at h
      · rename_i hm
        injection h with h
        subst h
        have te : ∀ j, j < k + 1 → totC (i2 ++ [-(totC i2 s (k + 1) / ((k + 1 : Nat) : Int))]) s (j + 1) = totC i2 s (j + 1) := fun j hj => by
          unfold totC
          exact sumN_congr fun u hu => by rw [getD_app (by omega)]
        rw [te j hj]
        by_cases c : j = k
        · subst c
          rw [show (i2 ++ [-(totC i2 s (j + 1) / ((j + 1 : Nat) : Int))]).getD (j + 1) 0 = -(totC i2 s (j + 1) / ((j + 1 : Nat) : Int)) from by rw [← il]; exact getD_end]
          have := Int.mul_ediv_add_emod (totC i2 s (j + 1)) ((j + 1 : Nat) : Int)
          rw [hm] at this
          rw [Int.mul_neg]
          omega
        · rw [getD_app (by omega)]
          exact cf_rel e j (by omega)
      · cases h
theorem cf_mon {s it : List Int} {k : Nat} (hk : 1 ≤ k) (h : cfL s k = some it) : Mon it.reverse := by
  obtain ⟨l, o⟩ := cfL_len h
  refine ⟨by rw [List.length_reverse]; omega, ?_⟩
  rw [getD_rev (by rw [List.length_reverse]; omega), List.length_reverse, show it.length - 1 - (it.length - 1) = 0 by omega]
  exact o
/-- and its sums are the given ones -/
theorem cf_sums {s it : List Int} (hk : 1 ≤ s.length) (h : cfL s s.length = some it) : rsL it.reverse s.length = s := by
  obtain ⟨l, o⟩ := cfL_len h
  have m := cf_mon hk h
  have rel := cf_rel h
  have key : ∀ j, j < s.length → psum it.reverse (j + 1) = s.getD j 0 := by
    intro j
    induction j using Nat.strongRecOn with
    | _ j ih =>
      intro hj
      rw [psum_next m j, List.length_reverse, l]
      rw [if_pos (by omega), show s.length + 1 - 1 = s.length by omega, show min j s.length = j by omega]
      have r := rel j hj
      unfold totC at r
      rw [show j + 1 = 1 + j by omega, sumN_split] at r
      simp only [sumN] at r
      rw [o] at r
      have e : sumN j (fun i => it.getD (1 + i) 0 * s.getD (1 + j - (1 + i) - 1) 0) = sumN j fun u => it.reverse.getD (s.length - (u + 1)) 0 * psum it.reverse (j - u) := sumN_congr fun u hu => by
        have a := ih (j - u - 1) (by omega) (by omega)
        rw [show j - u - 1 + 1 = j - u by omega] at a
        rw [a, getD_rev (by omega), l, show s.length + 1 - 1 - (s.length - (u + 1)) = 1 + u by omega, show 1 + j - (1 + u) - 1 = j - u - 1 by omega]
      rw [e] at r
      rw [getD_rev (by omega), l, show s.length + 1 - 1 - (s.length - (j + 1)) = 1 + j by omega]
      rw [show 1 + j - 0 - 1 = j by omega] at r
      rw [show j + 1 = 1 + j by omega]
      omega
  refine List.ext_getElem (by rw [rsL_len]) fun i h1 h2 => ?_
  have a := key i h2
  have b := rsL_get (c := it.reverse) (k := s.length) (t := i) h2
  rw [List.getD_eq_getElem?_getD, List.getElem?_eq_getElem h1] at b
  rw [List.getD_eq_getElem?_getD (l := s), List.getElem?_eq_getElem h2] at a
  simp only [Option.getD_some] at a b
  rw [b, a]
/-- how big the items are -/
theorem sumN_abs {B : Nat} : ∀ (n : Nat) (f : Nat → Int), (∀ i, i < n → (f i).natAbs ≤ B) → (sumN n f).natAbs ≤ n * B
  | 0, _, _ => by simp [sumN]
  | n + 1, f, h => by
    rw [sumN, Nat.add_mul, Nat.one_mul]
    have := sumN_abs n f fun i hi => h i (by omega)
    have := h n (by omega)
    omega
/-! own parts -/
def muT (i : Nat) : Int := [0, 1, -1, -1, 0, -1, 1].getD i 0
def ownK (s : List Int) (k : Nat) : Int := sumN k fun d => if k % (d + 1) = 0 then muT (k / (d + 1)) * s.getD d 0 else 0
def ownL (s : List Int) : List Int := (List.range s.length).map fun k => ownK s (k + 1)
theorem r2 (a : Int) : a % 2 = 0 ∨ a % 2 = 1 := by omega
theorem r3 (a : Int) : a % 3 = 0 ∨ a % 3 = 1 ∨ a % 3 = 2 := by omega
theorem r4 (a : Int) : a % 4 = 0 ∨ a % 4 = 1 ∨ a % 4 = 2 ∨ a % 4 = 3 := by omega
theorem r5 (a : Int) : a % 5 = 0 ∨ a % 5 = 1 ∨ a % 5 = 2 ∨ a % 5 = 3 ∨ a % 5 = 4 := by omega
theorem d2 (a : Int) : (a * a + a) % 2 = 0 := by
  rcases r2 a with h | h <;> simp [Int.add_emod, Int.mul_emod, h]
theorem d3 (a : Int) : (a * a * a - a) % 3 = 0 := by
  rcases r3 a with h | h | h <;> simp [Int.sub_emod, Int.mul_emod, h]
theorem d4 (a b : Int) : (a * a - a * a * a * a - 2 * (b * b + b)) % 4 = 0 := by
  have k : (2 * (b * b + b)) % 4 = 0 := by
    have := d2 b
    omega
  have j : (a * a - a * a * a * a) % 4 = 0 := by
    rcases r4 a with h | h | h | h <;> simp [Int.sub_emod, Int.mul_emod, h]
  omega
theorem d5 (a : Int) : (a * a * a * a * a - a) % 5 = 0 := by
  rcases r5 a with h | h | h | h | h <;> simp [Int.sub_emod, Int.mul_emod, h]
def g6 (a b c : Int) : Int := a + a * a - a * a * a - a * a * a * a * a * a - 9 * (a * a * (b * b)) + 2 * (b * b * b) - 2 * b + 3 * (a * b) - 3 * (c * c) - 3 * c
theorem d6 (a b c : Int) : g6 a b c % 6 = 0 := by
  have h2 : g6 a b c % 2 = 0 := by
    unfold g6
    rcases r2 a with h | h <;> rcases r2 b with k | k <;> rcases r2 c with j | j <;> simp [Int.sub_emod, Int.add_emod, Int.mul_emod, h, k, j]
  have h3 : g6 a b c % 3 = 0 := by
    unfold g6
    rcases r3 a with h | h | h <;> rcases r3 b with k | k | k <;> rcases r3 c with j | j | j <;> simp [Int.sub_emod, Int.add_emod, Int.mul_emod, h, k, j]
  omega
theorem emod_iff {k x y : Int} (h : (x - y) % k = 0) : x % k = 0 ↔ y % k = 0 := by
  obtain ⟨q, hq⟩ := Int.dvd_of_emod_eq_zero h
  have e : x = y + k * q := by omega
  rw [e, Int.add_mul_emod_self_left]
theorem mu1 : muT 1 = 1 := rfl
theorem mu2 : muT 2 = -1 := rfl
theorem mu3 : muT 3 = -1 := rfl
theorem mu4 : muT 4 = 0 := rfl
theorem mu5 : muT 5 = -1 := rfl
theorem mu6 : muT 6 = 1 := rfl
theorem own_1 (s : List Int) : ownK s 1 = s.getD 0 0 := by simp [ownK, sumN, mu1]
theorem own_2 (s : List Int) : ownK s 2 = s.getD 1 0 - s.getD 0 0 := by simp [ownK, sumN, mu1, mu2]; omega
theorem own_3 (s : List Int) : ownK s 3 = s.getD 2 0 - s.getD 0 0 := by simp [ownK, sumN, mu1, mu3]; omega
theorem own_4 (s : List Int) : ownK s 4 = s.getD 3 0 - s.getD 1 0 := by simp [ownK, sumN, mu1, mu2, mu4]; omega
theorem own_5 (s : List Int) : ownK s 5 = s.getD 4 0 - s.getD 0 0 := by simp [ownK, sumN, mu1, mu5]; omega
theorem own_6 (s : List Int) : ownK s 6 = s.getD 5 0 - s.getD 2 0 - s.getD 1 0 + s.getD 0 0 := by simp [ownK, sumN, mu1, mu2, mu3, mu6]; omega
theorem p2 {a1 s0 s1 : Int} (e0 : s0 = -a1) : (s1 + a1 * s0 - (s1 - s0)) % 2 = 0 := by
  subst e0
  have := d2 a1
  have e : s1 + a1 * -a1 - (s1 - -a1) = -(a1 * a1 + a1) := by grind
  rw [e]; omega
theorem p3 {a1 a2 s0 s1 s2 : Int} (e0 : s0 = -a1) (e1 : s1 + a1 * s0 = -(2 * a2)) : (s2 + a1 * s1 + a2 * s0 - (s2 - s0)) % 3 = 0 := by
  subst e0
  have h1 : s1 = a1 * a1 - 2 * a2 := by grind
  subst h1
  have := d3 a1
  have e : s2 + a1 * (a1 * a1 - 2 * a2) + a2 * -a1 - (s2 - -a1) = (a1 * a1 * a1 - a1) - 3 * (a1 * a2) := by grind
  rw [e]; omega
theorem p4 {a1 a2 a3 s0 s1 s2 s3 : Int} (e0 : s0 = -a1) (e1 : s1 + a1 * s0 = -(2 * a2)) (e2 : s2 + a1 * s1 + a2 * s0 = -(3 * a3)) : (s3 + a1 * s2 + a2 * s1 + a3 * s0 - (s3 - s1)) % 4 = 0 := by
  subst e0
  have h1 : s1 = a1 * a1 - 2 * a2 := by grind
  subst h1
  have h2 : s2 = -(a1 * a1 * a1) + 3 * (a1 * a2) - 3 * a3 := by grind
  subst h2
  have := d4 a1 a2
  have e : s3 + a1 * (-(a1 * a1 * a1) + 3 * (a1 * a2) - 3 * a3) + a2 * (a1 * a1 - 2 * a2) + a3 * -a1 - (s3 - (a1 * a1 - 2 * a2)) = (a1 * a1 - a1 * a1 * a1 * a1 - 2 * (a2 * a2 + a2)) + 4 * (a1 * a1 * a2 - a1 * a3) := by grind
  rw [e]; omega
theorem p5 {a1 a2 a3 a4 s0 s1 s2 s3 s4 : Int} (e0 : s0 = -a1) (e1 : s1 + a1 * s0 = -(2 * a2)) (e2 : s2 + a1 * s1 + a2 * s0 = -(3 * a3)) (e3 : s3 + a1 * s2 + a2 * s1 + a3 * s0 = -(4 * a4)) : (s4 + a1 * s3 + a2 * s2 + a3 * s1 + a4 * s0 - (s4 - s0)) % 5 = 0 := by
  subst e0
  have h1 : s1 = a1 * a1 - 2 * a2 := by grind
  subst h1
  have h2 : s2 = -(a1 * a1 * a1) + 3 * (a1 * a2) - 3 * a3 := by grind
  subst h2
  have h3 : s3 = a1 * a1 * a1 * a1 - 4 * (a1 * a1 * a2) + 2 * (a2 * a2) + 4 * (a1 * a3) - 4 * a4 := by grind
  subst h3
  have := d5 a1
  have e : s4 + a1 * (a1 * a1 * a1 * a1 - 4 * (a1 * a1 * a2) + 2 * (a2 * a2) + 4 * (a1 * a3) - 4 * a4) + a2 * (-(a1 * a1 * a1) + 3 * (a1 * a2) - 3 * a3) + a3 * (a1 * a1 - 2 * a2) + a4 * -a1 - (s4 - -a1) = (a1 * a1 * a1 * a1 * a1 - a1) + 5 * (a1 * a2 * a2 + a1 * a1 * a3 - a1 * a1 * a1 * a2 - a1 * a4 - a2 * a3) := by grind
  rw [e]; omega
theorem p6 {a1 a2 a3 a4 a5 s0 s1 s2 s3 s4 s5 : Int} (e0 : s0 = -a1) (e1 : s1 + a1 * s0 = -(2 * a2)) (e2 : s2 + a1 * s1 + a2 * s0 = -(3 * a3)) (e3 : s3 + a1 * s2 + a2 * s1 + a3 * s0 = -(4 * a4)) (e4 : s4 + a1 * s3 + a2 * s2 + a3 * s1 + a4 * s0 = -(5 * a5)) : (s5 + a1 * s4 + a2 * s3 + a3 * s2 + a4 * s1 + a5 * s0 - (s5 - s2 - s1 + s0)) % 6 = 0 := by
  subst e0
  have h1 : s1 = a1 * a1 - 2 * a2 := by grind
  subst h1
  have h2 : s2 = -(a1 * a1 * a1) + 3 * (a1 * a2) - 3 * a3 := by grind
  subst h2
  have h3 : s3 = a1 * a1 * a1 * a1 - 4 * (a1 * a1 * a2) + 2 * (a2 * a2) + 4 * (a1 * a3) - 4 * a4 := by grind
  subst h3
  have h4 : s4 = -(a1 * a1 * a1 * a1 * a1) + 5 * (a1 * a1 * a1 * a2) - 5 * (a1 * a2 * a2) - 5 * (a1 * a1 * a3) + 5 * (a1 * a4) + 5 * (a2 * a3) - 5 * a5 := by grind
  subst h4
  have := d6 a1 a2 a3
  have e : s5 + a1 * (-(a1 * a1 * a1 * a1 * a1) + 5 * (a1 * a1 * a1 * a2) - 5 * (a1 * a2 * a2) - 5 * (a1 * a1 * a3) + 5 * (a1 * a4) + 5 * (a2 * a3) - 5 * a5) + a2 * (a1 * a1 * a1 * a1 - 4 * (a1 * a1 * a2) + 2 * (a2 * a2) + 4 * (a1 * a3) - 4 * a4) + a3 * (-(a1 * a1 * a1) + 3 * (a1 * a2) - 3 * a3) + a4 * (a1 * a1 - 2 * a2) + a5 * -a1 - (s5 - (-(a1 * a1 * a1) + 3 * (a1 * a2) - 3 * a3) - (a1 * a1 - 2 * a2) + -a1) = g6 a1 a2 a3 + 6 * (a1 * a1 * a1 * a1 * a2 - a1 * a1 * a1 * a3 + a1 * a1 * a4 + 2 * (a1 * a2 * a3) - a2 * a4 - a1 * a5) := by unfold g6; grind
  rw [e]; omega
theorem gauss {s it : List Int} {k : Nat} (hk : k < 6) (h : cfL s k = some it) : totC it s (k + 1) % ((k + 1 : Nat) : Int) = 0 ↔ ownK s (k + 1) % ((k + 1 : Nat) : Int) = 0 := by
  have o := (cfL_len h).2
  have rel := cf_rel h
  refine emod_iff ?_
  have hk : k = 0 ∨ k = 1 ∨ k = 2 ∨ k = 3 ∨ k = 4 ∨ k = 5 := by omega
  clear h
  have R : ∀ j, j < k → totC it s (j + 1) = -(((j + 1 : Nat) : Int) * it.getD (j + 1) 0) := rel
  have t1 : totC it s 1 = s.getD 0 0 := by simp only [totC, sumN, o]; simp
  have t2 : totC it s 2 = s.getD 1 0 + it.getD 1 0 * s.getD 0 0 := by simp only [totC, sumN, o]; simp
  have t3 : totC it s 3 = s.getD 2 0 + it.getD 1 0 * s.getD 1 0 + it.getD 2 0 * s.getD 0 0 := by simp only [totC, sumN, o]; simp
  have t4 : totC it s 4 = s.getD 3 0 + it.getD 1 0 * s.getD 2 0 + it.getD 2 0 * s.getD 1 0 + it.getD 3 0 * s.getD 0 0 := by simp only [totC, sumN, o]; simp
  have t5 : totC it s 5 = s.getD 4 0 + it.getD 1 0 * s.getD 3 0 + it.getD 2 0 * s.getD 2 0 + it.getD 3 0 * s.getD 1 0 + it.getD 4 0 * s.getD 0 0 := by simp only [totC, sumN, o]; simp
  have t6 : totC it s 6 = s.getD 5 0 + it.getD 1 0 * s.getD 4 0 + it.getD 2 0 * s.getD 3 0 + it.getD 3 0 * s.getD 2 0 + it.getD 4 0 * s.getD 1 0 + it.getD 5 0 * s.getD 0 0 := by simp only [totC, sumN, o]; simp
  have E0 : 0 < k → s.getD 0 0 = -it.getD 1 0 := fun h => by
    have : totC it s 1 = -(1 * it.getD 1 0) := R 0 h
    rw [t1] at this
    omega
  have E1 : 1 < k → s.getD 1 0 + it.getD 1 0 * s.getD 0 0 = -(2 * it.getD 2 0) := fun h => by rw [← t2]; exact R 1 h
  have E2 : 2 < k → s.getD 2 0 + it.getD 1 0 * s.getD 1 0 + it.getD 2 0 * s.getD 0 0 = -(3 * it.getD 3 0) := fun h => by rw [← t3]; exact R 2 h
  have E3 : 3 < k → s.getD 3 0 + it.getD 1 0 * s.getD 2 0 + it.getD 2 0 * s.getD 1 0 + it.getD 3 0 * s.getD 0 0 = -(4 * it.getD 4 0) := fun h => by rw [← t4]; exact R 3 h
  have E4 : 4 < k → s.getD 4 0 + it.getD 1 0 * s.getD 3 0 + it.getD 2 0 * s.getD 2 0 + it.getD 3 0 * s.getD 1 0 + it.getD 4 0 * s.getD 0 0 = -(5 * it.getD 5 0) := fun h => by rw [← t5]; exact R 4 h
  rcases hk with rfl | rfl | rfl | rfl | rfl | rfl
  · rw [t1, own_1]; simp
  · rw [t2, own_2]; exact p2 (E0 (by omega))
  · rw [t3, own_3]; exact p3 (E0 (by omega)) (E1 (by omega))
  · rw [t4, own_4]; exact p4 (E0 (by omega)) (E1 (by omega)) (E2 (by omega))
  · rw [t5, own_5]; exact p5 (E0 (by omega)) (E1 (by omega)) (E2 (by omega)) (E3 (by omega))
  · rw [t6, own_6]; exact p6 (E0 (by omega)) (E1 (by omega)) (E2 (by omega)) (E3 (by omega)) (E4 (by omega))
/-- there is a curve exactly if no own part is faulty -/
theorem cf_none {s : List Int} : ∀ {k : Nat}, k ≤ 6 → (cfL s k = none ↔ ∃ j, j < k ∧ ownK s (j + 1) % ((j + 1 : Nat) : Int) ≠ 0)
  | 0, _ => by
    rw [cfL]
    exact ⟨fun z => (by cases z), fun ⟨j, hj, _⟩ => by omega⟩
  | k + 1, hk => by
    have ih := cf_none (s := s) (k := k) (by omega)
    rw [cfL]
    cases e : cfL s k with
    | none =>
      simp only [true_iff]
      obtain ⟨j, hj, h⟩ := ih.mp e
      exact ⟨j, by omega, h⟩
    | some it =>
      have g := gauss (by omega) e
      simp only
      constructor
      · intro h
        split at h
        · cases h
        · rename_i c
          exact ⟨k, by omega, fun z => c (g.mpr z)⟩
      · rintro ⟨j, hj, h⟩
        by_cases c : j = k
        · subst c
          rw [if_neg fun z => h (g.mp z)]
        · have := ih.mpr ⟨j, by omega, h⟩
          rw [e] at this
          cases this
theorem cf_big {s : List Int} (hs : ∀ j, (s.getD j 0).natAbs ≤ 1000000) : ∀ {k : Nat} {it : List Int}, k ≤ 9 → cfL s k = some it → ∀ u, (it.getD u 0).natAbs ≤ 10000000 ^ k
  | 0, it, _, h, u => by
    rw [cfL] at h
    injection h with h
    subst h
    match u with
    | 0 => decide
    | u + 1 => simp
  | k + 1, it, hk, h, u => by
    rw [cfL] at h
    cases e : cfL s k with
    | none => rw [e] at h; cases h
    | some i2 =>
      rw [e] at h
      simp only at h
      have ih := cf_big hs (by omega) e
      have il := (cfL_len e).1
      have pw : 10000000 ^ (k + 1) = 10000000 ^ k * 10000000 := Nat.pow_succ ..
      split at h
      · injection h with h
        subst h
        rw [pw]
        by_cases c : u < i2.length
        · rw [getD_app c]
          have := ih u
          omega
        · by_cases d : u = i2.length
          · subst d
            rw [getD_end]
            have t : (totC i2 s (k + 1)).natAbs ≤ (k + 1) * (10000000 ^ k * 1000000) := sumN_abs _ _ fun i hi => by
              rw [Int.natAbs_mul]
              exact Nat.mul_le_mul (ih i) (hs _)
            have q : (totC i2 s (k + 1) / ((k + 1 : Nat) : Int)).natAbs ≤ (totC i2 s (k + 1)).natAbs + 1 := by
              have a := Int.mul_ediv_add_emod (totC i2 s (k + 1)) ((k + 1 : Nat) : Int)
              have b := Int.emod_nonneg (totC i2 s (k + 1)) (show ((k + 1 : Nat) : Int) ≠ 0 by omega)
              have c := Int.emod_lt_of_pos (totC i2 s (k + 1)) (show (0 : Int) < ((k + 1 : Nat) : Int) by omega)
              generalize totC i2 s (k + 1) / ((k + 1 : Nat) : Int) = q at *
              rcases Int.lt_or_le q 0 with z | z
              · have w := Int.mul_le_mul_of_nonneg_right (show (1 : Int) ≤ ((k + 1 : Nat) : Int) by omega) (show 0 ≤ -q - 1 by omega)
                have w' : ((k + 1 : Nat) : Int) * (-q - 1) = -(((k + 1 : Nat) : Int) * q) - ((k + 1 : Nat) : Int) := by grind
                omega
              · have w := Int.mul_le_mul_of_nonneg_right (show (1 : Int) ≤ ((k + 1 : Nat) : Int) by omega) z
                omega
            rw [Int.natAbs_neg]
            have m : (k + 1) * (10000000 ^ k * 1000000) ≤ 9 * (10000000 ^ k * 1000000) := Nat.mul_le_mul_right _ (by omega)
            have z : 0 < 10000000 ^ k := Nat.pow_pos (by omega)
            omega
          · rw [List.getD_eq_getElem?_getD, List.getElem?_eq_none (by rw [List.length_append]; simp only [List.length_cons, List.length_nil]; omega)]
            simp
      · cases h
theorem vc_big {n : Nat} {c : Nat → Int} {B : Nat} (hc : ∀ j, (c j).natAbs ≤ B) : ∀ m j, (vc n c m j).natAbs ≤ (B + 1) ^ m
  | 0, j => by rw [vc]; split <;> simp
  | m + 1, j => by
    rw [vc, Nat.pow_succ, Nat.mul_add, Nat.mul_one]
    have a := vc_big (n := n) hc m (j - 1)
    have b := vc_big (n := n) hc m (n - 1)
    have e : (c j * vc n c m (n - 1)).natAbs ≤ B * (B + 1) ^ m := by rw [Int.natAbs_mul]; exact Nat.mul_le_mul (hc j) b
    rw [Nat.mul_comm ((B + 1) ^ m) B]
    split <;> omega
theorem seq_hide {t u : Sm} {E : En} {δ : PSt} (h : ∀ N : PSt → Prop, (∀ δ', u E δ' → N δ') → t { nx := N, rt := E.rt, rn := E.rn, bk := E.bk, ct := E.ct } δ) : sSeq t u E δ := h _ fun _ => nxt
theorem end_hide {vs : List Nat} {t : Sm} {E : En} {δ : PSt} (h : ∀ E' : En, E'.nx = (fun δ' => E.nx (wp δ' vs)) → E'.rt = E.rt → t E' δ) : sEnd vs t E δ := h _ rfl rfl
def isum : List Int → Int
  | [] => 0
  | x :: r => x + isum r
theorem max_ex : ∀ ns : List Int, ns ≠ [] → ∃ m, m ∈ ns ∧ ∀ y ∈ ns, y ≤ m
  | [], h => absurd rfl h
  | [x], _ => ⟨x, List.mem_cons_self, fun y hy => by rw [List.mem_singleton] at hy; omega⟩
  | x :: y :: l, _ => by
    obtain ⟨m, hm, h⟩ := max_ex (y :: l) (by simp)
    by_cases c : x ≤ m
    · exact ⟨m, List.mem_cons_of_mem _ hm, fun z hz => by
        rcases List.mem_cons.mp hz with rfl | hz
        · exact c
        · exact h z hz⟩
    · exact ⟨x, List.mem_cons_self, fun z hz => by
        rcases List.mem_cons.mp hz with rfl | hz
        · omega
        · have := h z hz; omega⟩
def cutS (l : List Int) : Nat := (((List.range l.length).filter fun k => decide (l.getD k 0 ≠ 0)).map (· + 1)).foldl max 0
def cutL (l : List Int) : List Int := l.take (cutS l)

def p_root_sums : Pm := fun ds Q => ∃ (c : List Int) (k : Nat), ds = [.tup (c.map .int), .int k] ∧ Mon c ∧ c.length ≤ 10 ∧ k ≤ 100 ∧ (∀ x ∈ c, -1000000000 ≤ x ∧ x ≤ 1000000000) ∧ Q (.tup ((rsL c k).map .int))
def p_own_parts : Pm := fun ds Q => ∃ s : List Int, ds = [.tup (s.map .int)] ∧ s.length ≤ 6 ∧ Q (.tup ((ownL s).map .int))
def faultL (s : List Int) : List Nat := ((List.range s.length).filter fun k => decide (ownK s (k + 1) % ((k + 1 : Nat) : Int) ≠ 0)).map (· + 1)
def faultD (s : List Int) : D := match faultL s with
  | [] => .non
  | k :: _ => .int k
def p_sums_fault : Pm := fun ds Q => ∃ s : List Int, ds = [.tup (s.map .int)] ∧ s.length ≤ 6 ∧ Q (faultD s)
def p_curve_from_sums : Pm := fun ds Q => ∃ s : List Int, ds = [.tup (s.map .int)] ∧ s.length ≤ 9 ∧ (∀ x ∈ s, -1000000 ≤ x ∧ x ≤ 1000000) ∧ Q (cfD s)
def p__law_cell : Pm := fun ds Q => ∃ (ns : List Int) (k : Int), ds = [.lst (ns.map .int), .int k] ∧ 0 ≤ k ∧ k ≤ 1000 ∧ ∀ i : Int, Q (.int i)
def p__law_draws : Pm := fun ds Q => ∃ c n : Int, ds = [.int c, .int n] ∧ 0 ≤ n ∧ n ≤ 1000000 ∧ ∀ xs : List Int, (xs.length : Int) = n → (∀ x ∈ xs, 0 ≤ x ∧ x < 5040) → Q (.lst (xs.map .int))
def isInt : D → Bool
  | .int _ => true
  | _ => false
def p__law_is_integer : Pm := fun ds Q => ∃ v, ds = [v] ∧ Q (.bl (isInt v))
mutual
/-- what a due datum may be: no list; tuples short; texts of true signs -/
def dueOk : Nat → D → Bool
  | _, .non => true
  | _, .bl _ => true
  | _, .int _ => true
  | _, .str x => strOkD x
  | 0, .tup _ => false
  | n + 1, .tup xs => decide (xs.length ≤ 1000000) && dueOkL n xs
  | _, .lst _ => false
def dueOkL : Nat → List D → Bool
  | _, [] => true
  | n, x :: xs => dueOk n x && dueOkL n xs
end
theorem dueOk_n {n : Nat} : dueOk n .non = true := by cases n <;> simp only [dueOk]
theorem dueOk_b {n : Nat} {b : Bool} : dueOk n (.bl b) = true := by cases n <;> simp only [dueOk]
theorem dueOk_i {n : Nat} {i : Int} : dueOk n (.int i) = true := by cases n <;> simp only [dueOk]
theorem dueOk_t {n : Nat} {xs : List D} : dueOk (n + 1) (.tup xs) = (decide (xs.length ≤ 1000000) && dueOkL n xs) := by simp only [dueOk]
theorem dueOkL_nil {n : Nat} : dueOkL n [] = true := by simp only [dueOkL]
theorem dueOkL_cons {n : Nat} {x : D} {xs : List D} : dueOkL n (x :: xs) = (dueOk n x && dueOkL n xs) := by simp only [dueOkL]
theorem dueOkL_all {n : Nat} {xs : List D} : dueOkL n xs = xs.all (dueOk n) := by
  induction xs with
  | nil => simp only [dueOkL, List.all_nil]
  | cons x xs ih => simp only [dueOkL, List.all_cons, ih]
mutual
/-- the texts within are of true signs -/
def txtOk : D → Bool
  | .str x => strOkD x
  | .tup xs => txtOkL xs
  | .lst xs => txtOkL xs
  | _ => true
def txtOkL : List D → Bool
  | [] => true
  | x :: xs => txtOk x && txtOkL xs
end
theorem txtOk_i {i : Int} : txtOk (.int i) = true := by simp only [txtOk]
theorem txtOk_b {b : Bool} : txtOk (.bl b) = true := by simp only [txtOk]
theorem txtOk_n : txtOk .non = true := by simp only [txtOk]
theorem txtOk_t {xs : List D} : txtOk (.tup xs) = txtOkL xs := by simp only [txtOk]
theorem txtOkL_nil : txtOkL [] = true := by simp only [txtOkL]
theorem txtOkL_cons {x : D} {xs : List D} : txtOkL (x :: xs) = (txtOk x && txtOkL xs) := by simp only [txtOkL]
theorem txtOkL_all {xs : List D} : txtOkL xs = xs.all txtOk := by
  induction xs with
  | nil => simp only [txtOkL, List.all_nil]
  | cons x xs ih => simp only [txtOkL, List.all_cons, ih]
theorem iD_txt (l : List Int) : txtOk (.tup (l.map .int)) = true := by
  rw [txtOk_t, txtOkL_all, List.all_map]; exact List.all_eq_true.mpr fun _ _ => txtOk_i
theorem iD_due (k : Nat) (l : List Int) (h : l.length ≤ 1000000) : dueOk (k + 1) (.tup (l.map .int)) = true := by
  rw [dueOk_t, dueOkL_all, List.all_map, List.length_map, decide_eq_true h, Bool.true_and]; exact List.all_eq_true.mpr fun _ _ => dueOk_i
theorem nD_txt (l : List Nat) : txtOk (.tup (PL.numL l)) = true := by rw [PL.numL_ints]; exact iD_txt _
theorem nD_due (k : Nat) (l : List Nat) (h : l.length ≤ 1000000) : dueOk (k + 1) (.tup (PL.numL l)) = true := by rw [PL.numL_ints]; exact iD_due k _ (by rw [List.length_map]; exact h)
theorem encs_txt {α : Type} (enc : α → D) (l : List α) (h : ∀ x ∈ l, txtOk (enc x) = true) : txtOk (.tup (l.map enc)) = true := by
  rw [txtOk_t, txtOkL_all, List.all_map]; exact List.all_eq_true.mpr h
theorem encs_due {α : Type} (k : Nat) (enc : α → D) (l : List α) (hl : l.length ≤ 1000000) (h : ∀ x ∈ l, dueOk k (enc x) = true) : dueOk (k + 1) (.tup (l.map enc)) = true := by
  rw [dueOk_t, dueOkL_all, List.all_map, List.length_map, decide_eq_true hl, Bool.true_and]; exact List.all_eq_true.mpr h
def pr__law_is : Nat → Pm
  | 0 => fun _ _ => False
  | n + 1 => fun ds Q => ∃ v due, ds = [v, due] ∧ txtOk v = true ∧ dueOk n due = true ∧ Q (.bl (decide (v = due)))
def p__law_is : Pm := fun ds Q => ∃ v due, ds = [v, due] ∧ txtOk v = true ∧ dueOk 11 due = true ∧ Q (.bl (decide (v = due)))
def areInts : D → Bool
  | .tup xs => xs.all isInt
  | _ => false
theorem areInts_t {xs : List D} : areInts (.tup xs) = xs.all isInt := rfl
theorem isInt_i {i : Int} : isInt (.int i) = true := rfl
theorem all_isInt (ns : List Int) : (ns.map D.int).all isInt = true := by
  rw [List.all_map]; exact List.all_eq_true.mpr fun _ _ => rfl
def p__law_is_integers : Pm := fun ds Q => ∃ v, ds = [v] ∧ (∀ xs, v = .tup xs → xs.length ≤ 16777216) ∧ Q (.bl (areInts v))
def rowC (a b : List Int) (i : Nat) (it : List Int) (j : Nat) : List Int := (List.range j).foldl (fun it u => it.set (i + u) (it.getD (i + u) 0 + a.getD i 0 * b.getD u 0)) it
def convC (a b : List Int) (i : Nat) : List Int := (List.range i).foldl (fun it u => rowC a b u it b.length) (List.replicate (a.length + b.length) 0)
def timesL (a b : List Int) : List Int := cutL (convC a b a.length)
def p__law_times : Pm := fun ds Q => ∃ a b : List Int, ds = [.tup (a.map .int), .tup (b.map .int)] ∧ a.length ≤ 100 ∧ b.length ≤ 100 ∧ (∀ x ∈ a, -1000000000 ≤ x ∧ x ≤ 1000000000) ∧ Q (.tup ((timesL a b).map .int))
def p__law_cut : Pm := fun ds Q => ∃ l : List Int, ds = [.lst (l.map .int)] ∧ l.length ≤ 1000 ∧ Q (.tup ((cutL l).map .int))
def p__law_height : Pm := fun ds Q => ∃ l : List Int, ds = [.tup (l.map .int)] ∧ l.length ≤ 1000 ∧ ∀ m : Int, 0 ≤ m → (∀ x ∈ l, -m ≤ x ∧ x ≤ m) → Q (.int m)
def p__law_traces : Pm := fun ds Q => ∃ (c : List Int) (k : Nat), ds = [.tup (c.map .int), .int k] ∧ Mon c ∧ c.length ≤ 10 ∧ k ≤ 20 ∧ (∀ j, (c.getD j 0).natAbs ≤ 10000000 ^ 9) ∧ Q (.tup ((rsL c k).map .int))
def p__law_drawn : Pm := fun ds Q => ∃ (ps : List Int) (n : Nat) (w : Int), ds = [.lst (ps.map .int), .int n, .int w] ∧ n ≤ ps.length ∧ n ≤ 1000 ∧ 1 ≤ w ∧ w ≤ 1000000 ∧ ∀ l : List Int, l.length = n → (∀ x ∈ l, -w ≤ x ∧ x ≤ w) → Q (.tup (l.map .int))
def p__law_own : Pm := fun ds Q => ∃ s : List Int, ds = [.tup (s.map .int)] ∧ s.length ≤ 6 ∧ Q (.tup ((ownL s).map .int))
def powL (rs : List Int) (k : Nat) : List Int := (List.range k).map fun t => isum (rs.map fun r => r ^ (t + 1))
def p__law_powers : Pm := fun ds Q => ∃ (rs : List Int) (k : Nat), ds = [.tup (rs.map .int), .int k] ∧ rs.length ≤ 10 ∧ k ≤ 100 ∧ (∀ x ∈ rs, -1000 ≤ x ∧ x ≤ 1000) ∧ Q (.tup ((powL rs k).map .int))
def p_law : Pm := pLaw
def curveOf (rs : List Int) : List Int := rs.foldl (fun c r => timesL c [0 - r, 1]) [1]
def allR : Nat → List (List Int)
  | 0 => [[]]
  | k + 1 => (allR k).flatMap fun l => [-2, -1, 0, 1, 2].map fun x => l ++ [x]
def okOne (k : Nat) (rs : List Int) : Bool := decide ((curveOf rs).length = k + 1) && (decide ((curveOf rs).getD k 0 = 1) && ((curveOf rs).all (fun x => decide (-1000 ≤ x ∧ x ≤ 1000)) && decide (rsR (curveOf rs) 12 = powL rs 12)))
def okBase (k : Nat) (rs : List Int) : Bool := decide ((curveOf rs).length = k + 1) && ((curveOf rs).all (fun x => decide (-1000 ≤ x ∧ x ≤ 1000)))
def b_root_sums : Sm :=
  (sSeq (sAsg (e2 oSub (eCall pLen (aCons (eVar 0) aNil)) (eC (.int 1))) (.nm 2))
    (sSeq (sAsg (e1 oRev (eVar 0)) (.nm 3))
    (sSeq (sOwn 4 (eLst aNil))
    (sSeq (sFor [0, 1, 5, 6, 7] (iRng2 (eC (.int 1)) (e2 oAdd (eVar 1) (eC (.int 1)))) (.nm 5) (sEnd [0, 1, 5, 6, 7] (sCut [0, 1, 7] (sAsg (eIf (tB (e2 oLe (eVar 5) (eVar 2))) (e2 oMul (eVar 5) (e2 oIx (eVar 3) (eVar 5))) (eC (.int 0))) (.nm 6))
    (sSeq (sFor [0, 1, 7] (iRng2 (eC (.int 1)) (e2 oAdd (eCall pMin2 (aCons (e2 oSub (eVar 5) (eC (.int 1))) (aCons (eVar 2) aNil))) (eC (.int 1)))) (.nm 7) (sEnd [0, 1, 7] (sAug 6 oAddI (e2 oMul (e2 oIx (eVar 3) (eVar 7)) (eIxS 4 (e2 oSub (e2 oSub (eVar 5) (eVar 7)) (eC (.int 1))))))))
    (sApp 4 (e1 oNeg (eVar 6)))))))
    (sRet (eTupleS 4))))))
def b_own_parts : Sm :=
  (sSeq (sOwn 1 (eLst aNil))
    (sSeq (sFor [2, 3] (iRng2 (eC (.int 1)) (e2 oAdd (eCall pLen (aCons (eVar 0) aNil)) (eC (.int 1)))) (.nm 2) (sEnd [2, 3] (sApp 1 (e2 oSub (e2 oIx (eVar 0) (e2 oSub (eVar 2) (eC (.int 1)))) (eCall pSumS (aCons (eLc (iRng2 (eC (.int 1)) (eVar 2)) [3] (.nm 3) (tB (e2 oEq (e2 oMod (eVar 2) (eVar 3)) (eC (.int 0)))) (eIxS 1 (e2 oSub (eVar 3) (eC (.int 1))))) aNil))))))
    (sRet (eTupleS 1))))
def b_sums_fault : Sm :=
  (sSeq (sFor [0, 1, 2] (iEnum (eCall p_own_parts (aCons (eVar 0) aNil))) (.tp [.nm 1, .nm 2]) (sEnd [0, 1, 2] (sIf (tB (e2 oNe (e2 oMod (eVar 2) (e2 oAdd (eVar 1) (eC (.int 1)))) (eC (.int 0)))) (sRet (e2 oAdd (eVar 1) (eC (.int 1)))) sNil)))
    (sRet (eC .non)))
def b_curve_from_sums : Sm :=
  (sSeq (sOwn 1 (eLst (aCons (eC (.int 1)) aNil)))
    (sSeq (sFor [2, 3, 4] (iRng2 (eC (.int 1)) (e2 oAdd (eCall pLen (aCons (eVar 0) aNil)) (eC (.int 1)))) (.nm 2) (sEnd [2, 3, 4] (sSeq (sAsg (eCall pSumS (aCons (eLc (iRng1 (eVar 2)) [4] (.nm 4) tYes (e2 oMul (eIxS 1 (eVar 4)) (e2 oIx (eVar 0) (e2 oSub (e2 oSub (eVar 2) (eVar 4)) (eC (.int 1)))))) aNil)) (.nm 3))
    (sSeq (sIf (tB (e2 oNe (e2 oMod (eVar 3) (eVar 2)) (eC (.int 0)))) (sRet (eC .non)) sNil)
    (sApp 1 (e1 oNeg (e2 oFdiv (eVar 3) (eVar 2))))))))
    (sFrz 1 (sRet (eCall pTuple (aCons (e1 oRev (eVar 1)) aNil))))))
def b__law_cell : Sm :=
  (sSeq (sIf (tB (e2 oLt (eVar 1) (eCall pLen (aCons (eVar 0) aNil)))) (sRet (e2 oIx (eVar 0) (eVar 1))) sNil)
    (sRet (e2 oAdd (e2 oMul (eC (.int 5)) (eVar 1)) (eC (.int 3)))))
def b__law_draws : Sm :=
  (sSeq (sAsg (eCall pAbs (aCons (eCall pInt (aCons (eVar 0) aNil)) aNil)) (.nm 2))
    (sSeq (sAsg (e2 oGe (eVar 2) (e2 oPow (eC (.int 10)) (eC (.int 18)))) (.nm 3))
    (sSeq (sAsg (eVar 2) (.nm 4))
    (sSeq (sOwn 5 (eLst aNil))
    (sSeq (sFor [0, 1, 6, 7] (iRng1 (eVar 1)) (.nm 6) (sEnd [0, 1, 6, 7] (sIf (tAnd (tTru (eVar 3)) (tB (e2 oGt (eVar 2) (eC (.int 0))))) (sSeq (sApp 5 (e2 oMod (eCall pInt (aCons (eVar 2) aNil)) (eC (.int 5040))))
    (sAsg (e2 oFdiv (eVar 2) (eC (.int 5040))) (.nm 2))) (sSeq (sAsg (e2 oMod (eCall pInt (aCons (e2 oAdd (e2 oAdd (e2 oMul (eVar 4) (eC (.int 48271))) (e2 oMul (e2 oAdd (eVar 6) (eC (.int 1))) (eC (.int 69621)))) (eC (.int 11))) aNil)) (eC (.int 2147483647))) (.nm 7))
    (sSeq (sAsg (e2 oMod (eCall pInt (aCons (e2 oAdd (e2 oMul (eVar 7) (eVar 7)) (e2 oMul (eC (.int 40692)) (e2 oAdd (eVar 6) (eC (.int 3))))) aNil)) (eC (.int 2147483399))) (.nm 7))
    (sApp 5 (e2 oMod (eCall pInt (aCons (e2 oFdiv (eVar 7) (eC (.int 64))) aNil)) (eC (.int 5040)))))))))
    (sFrz 5 (sRet (eVar 5))))))))
def b__law_is_integer : Sm :=
  (sRet (eAnd (eIsI .int (eVar 0)) (eNot (eIsI .bool (eVar 0)))))
def b__law_is (self : Pm) : Sm :=
  (sSeq (sIf (tB (oIsN (eVar 1))) (sRet (oIsN (eVar 0))) sNil)
    (sSeq (sIf (tTru (eIsI .bool (eVar 1))) (sRet (eAnd (eIsI .bool (eVar 0)) (e2 oEq (eVar 0) (eVar 1)))) sNil)
    (sSeq (sIf (tTru (eIsI .int (eVar 1))) (sRet (eAnd (eCall p__law_is_integer (aCons (eVar 0) aNil)) (e2 oEq (eVar 0) (eVar 1)))) sNil)
    (sSeq (sIf (tTru (eIsI .str (eVar 1))) (sRet (eAnd (eIsI .str (eVar 0)) (e2 oEq (eVar 0) (eVar 1)))) sNil)
    (sSeq (sIf (tOr (tNot (tTru (eIsI .tuple (eVar 0)))) (tB (e2 oNe (eCall pLen (aCons (eVar 0) aNil)) (eCall pLen (aCons (eVar 1) aNil))))) (sRet (eC (.bl false))) sNil)
    (sRet (eCall pAllL (aCons (eLc (iRng1 (eCall pLen (aCons (eVar 1) aNil))) [2] (.nm 2) tYes (eCall self (aCons (e2 oIx (eVar 0) (eVar 2)) (aCons (e2 oIx (eVar 1) (eVar 2)) aNil)))) aNil))))))))
def b__law_is_integers : Sm :=
  (sRet (eAnd (eIsI .tuple (eVar 0)) (eCall pAllL (aCons (eLc (iSeq (eVar 0)) [1] (.nm 1) tYes (eCall p__law_is_integer (aCons (eVar 1) aNil))) aNil))))
def b__law_times : Sm :=
  (sSeq (sOwn 2 (e2 oRepL (eLst (aCons (eC (.int 0)) aNil)) (e2 oAdd (eCall pLen (aCons (eVar 0) aNil)) (eCall pLen (aCons (eVar 1) aNil)))))
    (sSeq (sFor [3, 4] (iRng1 (eCall pLen (aCons (eVar 0) aNil))) (.nm 3) (sEnd [3, 4] (sFor [4] (iRng1 (eCall pLen (aCons (eVar 1) aNil))) (.nm 4) (sEnd [4] (sSet 2 (e2 oAdd (eVar 3) (eVar 4)) (e2 oAdd (eIxS 2 (e2 oAdd (eVar 3) (eVar 4))) (e2 oMul (e2 oIx (eVar 0) (eVar 3)) (e2 oIx (eVar 1) (eVar 4)))))))))
    (sFrz 2 (sRet (eCall p__law_cut (aCons (eVar 2) aNil))))))
def b__law_cut : Sm :=
  (sSeq (sAsg (eCall pMax (aCons (e2 oAdd (eLst (aCons (eC (.int 0)) aNil)) (eLc (iRng1 (eCall pLen (aCons (eVar 0) aNil))) [2] (.nm 2) (tB (e2 oNe (e2 oIx (eVar 0) (eVar 2)) (eC (.int 0)))) (e2 oAdd (eVar 2) (eC (.int 1))))) aNil)) (.nm 1))
    (sRet (eCall pTuple (aCons (eSlice (eVar 0) oNo (oSome (eVar 1))) aNil))))
def b__law_height : Sm :=
  (sRet (eCall pMax (aCons (e2 oAdd (eLst (aCons (eC (.int 0)) aNil)) (eLc (iSeq (eVar 0)) [1] (.nm 1) tYes (eCall pAbs (aCons (eVar 1) aNil)))) aNil)))
def b__law_traces : Sm :=
  (sSeq (sAsg (e2 oSub (eCall pLen (aCons (eVar 0) aNil)) (eC (.int 1))) (.nm 2))
    (sSeq (sOwn 3 (eLc (iRng1 (e2 oSub (eVar 2) (eC (.int 1)))) [7] (.nm 7) tYes (eLc (iRng1 (eVar 2)) [8] (.nm 8) tYes (eIf (tB (e2 oEq (eVar 8) (e2 oAdd (eVar 7) (eC (.int 1))))) (eC (.int 1)) (eC (.int 0))))))
    (sSeq (sApp 3 (eLc (iRng1 (eVar 2)) [8] (.nm 8) tYes (e2 oSub (eC (.int 0)) (e2 oIx (eVar 0) (eVar 8)))))
    (sSeq (sAsg (eLc (iRng1 (eVar 2)) [7] (.nm 7) tYes (eLc (iRng1 (eVar 2)) [8] (.nm 8) tYes (eIf (tB (e2 oEq (eVar 8) (eVar 7))) (eC (.int 1)) (eC (.int 0))))) (.nm 4))
    (sSeq (sOwn 5 (eLst aNil))
    (sSeq (sFor [0, 1, 6, 7, 8, 9, 10] (iRng1 (eVar 1)) (.nm 6) (sEnd [0, 1, 6, 7, 8, 9, 10] (sSeq (sAsg (eLc (iSeq (eVar 4)) [9] (.nm 9) tYes (eLc (iRng1 (eVar 2)) [8] (.nm 8) tYes (eCall pSumS (aCons (eLc (iRng1 (eVar 2)) [10] (.nm 10) tYes (e2 oMulX (e2 oIx (eVar 9) (eVar 10)) (e2 oIx (eIxS 3 (eVar 10)) (eVar 8)))) aNil)))) (.nm 4))
    (sApp 5 (eCall pSumS (aCons (eLc (iRng1 (eVar 2)) [7] (.nm 7) tYes (e2 oIx (e2 oIx (eVar 4) (eVar 7)) (eVar 7))) aNil))))))
    (sRet (eTupleS 5))))))))
def b__law_drawn : Sm :=
  (sRet (eCall pTuple (aCons (eLc (iRng1 (eVar 1)) [3] (.nm 3) tYes (e2 oSub (e2 oMod (eCall pInt (aCons (e2 oIx (eVar 0) (eVar 3)) aNil)) (e2 oAdd (e2 oMul (eC (.int 2)) (eVar 2)) (eC (.int 1)))) (eVar 2))) aNil)))
def b__law_own : Sm :=
  (sSeq (sOwn 1 (eLst aNil))
    (sSeq (sFor [2, 3, 4] (iRng2 (eC (.int 1)) (e2 oAdd (eCall pLen (aCons (eVar 0) aNil)) (eC (.int 1)))) (.nm 2) (sEnd [2, 3, 4] (sSeq (sAsg (eC (.int 0)) (.nm 3))
    (sSeq (sFor [4] (iRng2 (eC (.int 1)) (e2 oAdd (eVar 2) (eC (.int 1)))) (.nm 4) (sEnd [4] (sIf (tB (e2 oEq (e2 oMod (eVar 2) (eVar 4)) (eC (.int 0)))) (sAsg (e2 oAdd (eVar 3) (e2 oMul (e2 oIx (eTup (aCons (eC (.int 0)) (aCons (eC (.int 1)) (aCons (e2 oSub (eC (.int 0)) (eC (.int 1))) (aCons (e2 oSub (eC (.int 0)) (eC (.int 1))) (aCons (eC (.int 0)) (aCons (e2 oSub (eC (.int 0)) (eC (.int 1))) (aCons (eC (.int 1)) aNil)))))))) (e2 oFdiv (eVar 2) (eVar 4))) (e2 oIx (eVar 0) (e2 oSub (eVar 4) (eC (.int 1)))))) (.nm 3)) sNil)))
    (sApp 1 (eVar 3))))))
    (sRet (eTupleS 1))))
def b__law_powers : Sm :=
  (sSeq (sOwn 2 (eLst aNil))
    (sSeq (sAsg (eLc (iSeq (eVar 0)) [5] (.nm 5) tYes (eC (.int 1))) (.nm 3))
    (sSeq (sFor [1, 4, 5, 6] (iRng1 (eVar 1)) (.nm 4) (sEnd [1, 4, 5, 6] (sSeq (sAsg (eLc (iRng1 (eCall pLen (aCons (eVar 0) aNil))) [6] (.nm 6) tYes (e2 oMul (e2 oIx (eVar 3) (eVar 6)) (e2 oIx (eVar 0) (eVar 6)))) (.nm 3))
    (sApp 2 (eCall pSumS (aCons (eVar 3) aNil))))))
    (sRet (eTupleS 2)))))
def b_law_1 : Sm :=
  (sEnd [2, 8, 9, 10, 11, 12, 13, 14, 15, 16, 17, 18, 19] (sAsg (eCall p__law_times (aCons (eVar 7) (aCons (eTup (aCons (e2 oSub (eC (.int 0)) (eVar 8)) (aCons (eC (.int 1)) aNil))) aNil))) (.nm 7)))
def b_law_2 : Sm :=
  (sEnd [2, 3, 5, 6, 7, 8, 10, 11, 12, 13, 14, 15, 16, 17, 18, 19] (sSeq (sAsg (e2 oMod (eCall pInt (aCons (e2 oIx (eVar 1) (eVar 10)) aNil)) (eVar 4)) (.nm 11))
    (sSeq (sAsg (e2 oMul (e2 oIx (eTup (aCons (eC (.int 1)) (aCons (eC (.int 2)) (aCons (eC (.int 3)) (aCons (eC (.int 4)) (aCons (eC (.int 5)) (aCons (eC (.int 6)) (aCons (eC (.int 12)) (aCons (eC (.int 60)) (aCons (e2 oSub (eC (.int 0)) (eC (.int 1))) (aCons (e2 oSub (eC (.int 0)) (eC (.int 6))) aNil))))))))))) (e2 oMod (eCall pInt (aCons (e2 oIx (eVar 1) (e2 oAdd (eC (.int 6)) (eVar 10))) aNil)) (eC (.int 10)))) (e2 oAdd (eC (.int 1)) (e2 oMod (eCall pInt (aCons (e2 oIx (eVar 1) (e2 oAdd (eC (.int 12)) (eVar 10))) aNil)) (eC (.int 3))))) (.nm 12))
    (sSeq (sAsg (e2 oAdd (e2 oAdd (eSlice (eVar 9) oNo (oSome (eVar 11))) (eTup (aCons (e2 oAdd (e2 oIx (eVar 9) (eVar 11)) (eVar 12)) aNil))) (eSlice (eVar 9) (oSome (e2 oAdd (eVar 11) (eC (.int 1)))) oNo)) (.nm 13))
    (sCut [2, 3, 5, 6, 7, 8, 11, 12, 14, 15, 16, 17, 18, 19] (sIf (tB (e2 oGt (eVar 10) (eC (.int 3)))) (sAsg (eCall p__law_drawn (aCons (eSlice (eVar 1) (oSome (e2 oSub (e2 oMul (eC (.int 6)) (eVar 10)) (eC (.int 6)))) oNo) (aCons (eC (.int 6)) (aCons (eC (.int 12)) aNil)))) (.nm 13)) sNil)
    (sCut [2, 3, 5, 6, 7, 8, 10, 11, 12, 14, 15, 16, 17, 18, 19] (sAsg (eIf (tB (e2 oLt (eVar 10) (eC (.int 5)))) (eVar 13) (eCall pTuple (aCons (eLc (iSeq (eVar 13)) [19] (.nm 19) tYes (e2 oMul (eC (.int 60)) (eVar 19))) aNil))) (.nm 13))
    (sCut [2, 3, 5, 6, 7, 8, 10, 11, 12, 14, 15, 16, 17, 18, 19] (sAsg (eIf (tB (e2 oLt (eCall p__law_height (aCons (eVar 13) aNil)) (eC (.int 10001)))) (eVar 13) (eCall pTuple (aCons (eLc (iSeq (eVar 13)) [19] (.nm 19) tYes (e2 oMod (eVar 19) (eC (.int 100)))) aNil))) (.nm 13))
    (sSeq (sAsg (eCall p__law_own (aCons (eVar 13) aNil)) (.nm 14))
    (sSeq (sAsg (eLc (iRng2 (eC (.int 1)) (e2 oAdd (eCall pLen (aCons (eVar 13) aNil)) (eC (.int 1)))) [18] (.nm 18) (tB (e2 oNe (e2 oMod (e2 oIx (eVar 14) (e2 oSub (eVar 18) (eC (.int 1)))) (eVar 18)) (eC (.int 0)))) (eVar 18)) (.nm 15))
    (sCut [2, 3, 5, 6, 7, 8, 10, 11, 12, 17, 18, 19] (sAsg (eIf (tB (e2 oGt (eCall pLen (aCons (eVar 15) aNil)) (eC (.int 0)))) (e2 oIx (eVar 15) (eC (.int 0))) (eC .non)) (.nm 16))
    (sSeq (sIf (tOr (tNot (tTru (eCall p__law_is (aCons (eCall p_own_parts (aCons (eVar 13) aNil)) (aCons (eVar 14) aNil))))) (tNot (tTru (eCall p__law_is (aCons (eCall p_sums_fault (aCons (eVar 13) aNil)) (aCons (eVar 16) aNil)))))) (sRet (eC (.bl false))) sNil)
    (sSeq (sAsg (eCall p_curve_from_sums (aCons (eVar 13) aNil)) (.nm 17))
    (sSeq (sIf (tB (e2 oNe (oIsN (eVar 17)) (e2 oGt (eCall pLen (aCons (eVar 15) aNil)) (eC (.int 0))))) (sRet (eC (.bl false))) sNil)
    (sIf (tB (oNotN (eVar 17))) (sSeq (sIf (tOr (tNot (tTru (eCall p__law_is_integers (aCons (eVar 17) aNil)))) (tOr (tB (e2 oNe (eCall pLen (aCons (eVar 17) aNil)) (e2 oAdd (eCall pLen (aCons (eVar 13) aNil)) (eC (.int 1))))) (tB (e2 oNe (e2 oIx (eVar 17) (eCall pLen (aCons (eVar 13) aNil))) (eC (.int 1)))))) (sRet (eC (.bl false))) sNil)
    (sIf (tB (e2 oNe (eCall p__law_traces (aCons (eVar 17) (aCons (eCall pLen (aCons (eVar 13) aNil)) aNil))) (eVar 13))) (sRet (eC (.bl false))) sNil)) sNil))))))))))))))
def b_law_3 : Sm :=
  (sSeq (sIf (tNot (tTru (eCall p__law_is (aCons (eCall p_root_sums (aCons (eVar 7) (aCons (eVar 5) aNil))) (aCons (eCall p__law_powers (aCons (eVar 6) (aCons (eVar 5) aNil))) aNil))))) (sRet (eC (.bl false))) sNil)
    (sSeq (sAsg (e2 oAdd (eCall p__law_drawn (aCons (eSlice (eVar 3) (oSome (eC (.int 7))) oNo) (aCons (eVar 4) (aCons (e2 oIx (eTup (aCons (eC (.int 2)) (aCons (eC (.int 6)) (aCons (eC (.int 100)) aNil)))) (e2 oMod (eCall pInt (aCons (e2 oIx (eVar 3) (eC (.int 13))) aNil)) (eC (.int 3)))) aNil)))) (eTup (aCons (eC (.int 1)) aNil))) (.nm 7))
    (sSeq (sIf (tNot (tTru (eCall p__law_is (aCons (eCall p_root_sums (aCons (eVar 7) (aCons (eVar 5) aNil))) (aCons (eCall p__law_traces (aCons (eVar 7) (aCons (eVar 5) aNil))) aNil))))) (sRet (eC (.bl false))) sNil)
    (sSeq (sAsg (eCall p__law_traces (aCons (eVar 7) (aCons (eVar 4) aNil))) (.nm 9))
    (sSeq (sIf (tNot (tTru (eCall p__law_is (aCons (eIf (tB (e2 oLt (eCall p__law_height (aCons (eVar 9) aNil)) (eC (.int 10001)))) (eCall p_curve_from_sums (aCons (eVar 9) aNil)) (eVar 7)) (aCons (eVar 7) aNil))))) (sRet (eC (.bl false))) sNil)
    (sFor [2, 3, 5, 6, 7, 8, 10, 11, 12, 13, 14, 15, 16, 17, 18, 19] (iRng1 (eC (.int 6))) (.nm 10) b_law_2))))))
def b_law_4 : Sm :=
  (sEnd [2, 3, 4, 5, 6, 7, 8, 9, 10, 11, 12, 13, 14, 15, 16, 17, 18, 19] (sSeq (sAsg (eCall p__law_draws (aCons (eCall p__law_cell (aCons (eVar 0) (aCons (e2 oAdd (eC (.int 1)) (eVar 2)) aNil))) (aCons (eC (.int 20)) aNil))) (.nm 3))
    (sSeq (sAsg (e2 oAdd (eC (.int 1)) (e2 oMod (eCall pInt (aCons (e2 oIx (eVar 3) (eC (.int 0))) aNil)) (eC (.int 5)))) (.nm 4))
    (sSeq (sAsg (e2 oAdd (eC (.int 1)) (e2 oMod (eCall pInt (aCons (e2 oIx (eVar 3) (eC (.int 1))) aNil)) (eC (.int 12)))) (.nm 5))
    (sSeq (sAsg (eCall p__law_drawn (aCons (eSlice (eVar 3) (oSome (eC (.int 2))) oNo) (aCons (eCall pMin2 (aCons (eVar 4) (aCons (eC (.int 4)) aNil))) (aCons (eC (.int 2)) aNil)))) (.nm 6))
    (sSeq (sAsg (eTup (aCons (eC (.int 1)) aNil)) (.nm 7))
    (sSeq (sFor [2, 8, 9, 10, 11, 12, 13, 14, 15, 16, 17, 18, 19] (iSeq (eVar 6)) (.nm 8) b_law_1)
    b_law_3)))))))
def b_law_5 : Sm :=
  (sRet (eAnd (eCall p__law_is (aCons (eCall p_curve_from_sums (aCons (eTup (aCons (eC (.int 1)) (aCons (eC (.int 2)) aNil))) aNil)) (aCons (eC .non) aNil))) (eAnd (eCall p__law_is (aCons (eCall p_sums_fault (aCons (eTup (aCons (eC (.int 1)) (aCons (eC (.int 2)) aNil))) aNil)) (aCons (eC (.int 2)) aNil))) (e2 oEq (eCall p_own_parts (aCons (eTup (aCons (eC (.int 3)) (aCons (eC (.int 3)) aNil))) aNil)) (eTup (aCons (eC (.int 3)) (aCons (eC (.int 0)) aNil)))))))
def b_law : Sm :=
  (sSeq (sAsg (eCall p__law_draws (aCons (eCall p__law_cell (aCons (eVar 0) (aCons (eC (.int 0)) aNil))) (aCons (eC (.int 40)) aNil))) (.nm 1))
    (sSeq (sFor [2, 3, 4, 5, 6, 7, 8, 9, 10, 11, 12, 13, 14, 15, 16, 17, 18, 19] (iRng1 (eC (.int 3))) (.nm 2) b_law_4)
    b_law_5))

theorem len_root_sums : ∀ ds Q, p_root_sums ds Q → ds.length = 2 := by
  rintro _ Q ⟨_, _, rfl, _⟩; rfl
theorem getD_small {c : List Int} (h : ∀ x ∈ c, -1000000000 ≤ x ∧ x ≤ 1000000000) (i : Nat) : -1000000000 ≤ c.getD i 0 ∧ c.getD i 0 ≤ 1000000000 := by
  rw [List.getD_eq_getElem?_getD]
  by_cases hi : i < c.length
  · rw [List.getElem?_eq_getElem hi]; exact h _ (List.getElem_mem hi)
  · rw [List.getElem?_eq_none (by omega)]; exact ⟨by decide, by decide⟩
theorem pure_root_sums : ∀ ds Q, p_root_sums ds Q → b_root_sums (endsOf Q) (startP 8 ds) := by
  rintro _ Q ⟨c, k, rfl, hm, hl, hk, hs, q⟩
  unfold b_root_sums
  have l2 := hm.len
  simp_wf
  rw [List.length_map]
  have sm := getD_small hs
  obtain ⟨n, hn⟩ : ∃ n, c.length = n + 1 := ⟨c.length - 1, by omega⟩
  have en : (c.length : Int) - 1 = (n : Nat) := by omega
  rw [en]
  intro ad
  refine nxt ?_
  simp_wf
  refine ⟨by omega, ?_⟩
  have ek : ((k : Int) + 1 - 1).toNat = k := by omega
  rw [ek, ← List.map_reverse]
  have gr : ∀ u, u ≤ n → c.reverse.getD u 0 = c.getD (n - u) 0 := fun u hu => by rw [getD_rev (by omega), hn, Nat.add_sub_cancel]
  have rl : c.reverse.length = n + 1 := by rw [List.length_reverse, hn]
  refine for_rngI (fun i δ => δ = [.no, .no, .val (.int n), .val (.tup (c.reverse.map .int)), .own ad ((rsL c i).map .int), .no, .no, .no]) rfl ?_ ?_
  · rintro i _ hi rfl
    have pn := psum_next hm i
    rw [hn, Nat.add_sub_cancel] at pn
    have rn := rsL_next c i
    have gl := rsL_len c i
    have gg : ∀ t, t < i → (rsL c i).getD t 0 = psum c (t + 1) := fun t ht => rsL_get ht
    rw [rn]
    generalize rsL c i = L at *
    simp_wf
    simp only [sCut]
    refine ⟨fun δ => δ = [.no, .no, .val (.int n), .val (.tup (c.reverse.map .int)), .own ad (L.map .int), .val (.int (1 + i)), .val (.int (if i + 1 ≤ n then ((i + 1 : Nat) : Int) * c.getD (n - (i + 1)) 0 else 0)), .no], ?_, ?_⟩
    · simp_wf
      by_cases h : i + 1 ≤ n
      · rw [if_pos (by omega)]
        refine at_k (ns := c.reverse) (k := 1 + i) (by omega) (by omega) ?_
        simp_wf
        rw [gr (1 + i) (by omega), Nat.add_comm 1 i]
        refine ⟨.inl ⟨by omega, by omega⟩, ?_⟩
        rw [if_pos h, show (1 : Int) + i = ((i + 1 : Nat) : Int) by omega]
      · rw [if_neg (by omega), if_neg h]
    rintro _ rfl
    simp_wf
    have em : (if (n : Int) < 1 + (i : Int) - 1 then (n : Int) else 1 + (i : Int) - 1) + 1 - 1 = ((min i n : Nat) : Int) := by
      split <;> omega
    have em2 : (if (n : Int) < 1 + (i : Int) - 1 then (n : Int) else 1 + (i : Int) - 1) = ((min i n : Nat) : Int) := by
      split <;> omega
    refine ⟨by rw [em2]; omega, ?_⟩
    rw [em, Int.toNat_natCast]
    refine for_rngI (fun j δ => δ = [.no, .no, .val (.int n), .val (.tup (c.reverse.map .int)), .own ad (L.map .int), .val (.int (1 + i)), .val (.int ((if i + 1 ≤ n then ((i + 1 : Nat) : Int) * c.getD (n - (i + 1)) 0 else 0) + sumN j fun u => c.getD (n - (u + 1)) 0 * psum c (i - u))), .no]) (by simp [sumN]) ?_ ?_
    · rintro j _ hj rfl
      simp_wf
      refine at_k (ns := c.reverse) (k := 1 + j) (by omega) (by omega) ?_
      refine at_k (ns := L) (k := i - j - 1) (by omega) (by omega) ?_
      rw [gr (1 + j) (by omega), gg _ (by omega), show i - j - 1 + 1 = i - j by omega]
      simp_wf
      refine ⟨.inl ⟨by have := sm (n - (1 + j)); omega, by have := sm (n - (1 + j)); omega⟩, ?_⟩
      rw [sumN, show 1 + j = j + 1 by omega]
      simp only [Int.add_assoc]
    · rintro _ rfl
      simp_wf
      rw [List.length_map]
      refine ⟨by omega, ?_⟩
      rw [pn, List.map_append]
      rfl
  · rintro _ rfl
    dsimp only
    refine nxt ?_
    simp_wf
    exact q
theorem len_own_parts : ∀ ds Q, p_own_parts ds Q → ds.length = 1 := by
  rintro _ Q ⟨_, rfl, _⟩; rfl
theorem ownL_len (s : List Int) : (ownL s).length = s.length := by unfold ownL; rw [List.length_map, List.length_range]
def ownT (s : List Int) (k : Nat) : List Int := (List.range k).map fun i => ownK s (i + 1)
theorem sumD_isum : ∀ ns : List Int, sumD (ns.map D.int) = some (isum ns)
  | [] => rfl
  | n :: ns => by rw [List.map_cons]; simp only [sumD, sumD_isum ns, isum]; rfl
theorem mob (s : List Int) : ∀ k, k < 6 → s.getD k 0 - isum (((List.range k).filter fun d => decide ((k + 1) % (d + 1) = 0)).map fun d => ownK s (d + 1)) = ownK s (k + 1) := by
  intro k hk
  have : k = 0 ∨ k = 1 ∨ k = 2 ∨ k = 3 ∨ k = 4 ∨ k = 5 := by omega
  rcases this with rfl | rfl | rfl | rfl | rfl | rfl
  · rw [show ((List.range 0).filter fun d => decide ((0 + 1) % (d + 1) = 0)) = [] from by decide, own_1]; simp [isum]
  · rw [show ((List.range 1).filter fun d => decide ((1 + 1) % (d + 1) = 0)) = [0] from by decide, own_2]; simp [isum, own_1]
  · rw [show ((List.range 2).filter fun d => decide ((2 + 1) % (d + 1) = 0)) = [0] from by decide, own_3]; simp [isum, own_1]
  · rw [show ((List.range 3).filter fun d => decide ((3 + 1) % (d + 1) = 0)) = [0, 1] from by decide, own_4]; simp [isum, own_1, own_2]; omega
  · rw [show ((List.range 4).filter fun d => decide ((4 + 1) % (d + 1) = 0)) = [0] from by decide, own_5]; simp [isum, own_1]
  · rw [show ((List.range 5).filter fun d => decide ((5 + 1) % (d + 1) = 0)) = [0, 1, 2] from by decide, own_6]; simp [isum, own_1, own_2, own_3]; omega
theorem pure_own_parts : ∀ ds Q, p_own_parts ds Q → b_own_parts (endsOf Q) (startP 4 ds) := by
  rintro _ Q ⟨s, rfl, hl, q⟩
  unfold b_own_parts
  simp_wf
  intro ad
  refine nxt ?_
  simp_wf
  rw [List.length_map]
  refine ⟨by omega, ?_⟩
  rw [show ((s.length : Int) + 1 - 1).toNat = s.length by omega]
  refine for_rngI (fun i δ => δ = [.val (.tup (s.map .int)), .own ad ((ownT s i).map .int), .no, .no]) rfl ?_ ?_
  · rintro i _ hi rfl
    have tl : (ownT s i).length = i := by unfold ownT; rw [List.length_map, List.length_range]
    have tg : ∀ d, d < i → (ownT s i).getD d 0 = ownK s (d + 1) := fun d hd => by
      unfold ownT
      rw [List.getD_eq_getElem?_getD, List.getElem?_map, List.getElem?_range hd]; rfl
    have tn : ownT s (i + 1) = ownT s i ++ [ownK s (i + 1)] := by unfold ownT; rw [List.range_succ, List.map_append]; rfl
    have mb := mob s i (by omega)
    rw [tn]
    generalize ownT s i = L at *
    simp_wf
    refine at_k (ns := s) (k := i) (by omega) (by omega) ?_
    simp_wf
    refine ⟨by omega, ?_⟩
    rw [show ((1 : Int) + i - 1).toNat = i by omega]
    refine lc_rng_filter (fun d => decide ((i + 1) % (d + 1) = 0)) (fun d => .int (ownK s (d + 1))) (by omega) (fun d hd R R0 r1 r2 => ?_) ?_
    · simp_wf
      refine ⟨by omega, ?_⟩
      rw [show ((1 : Int) + i) % (1 + d) = (((i + 1) % (d + 1) : Nat) : Int) from by rw [show (1 : Int) + i = ((i + 1 : Nat) : Int) by omega, show (1 : Int) + d = ((d + 1 : Nat) : Int) by omega, Int.natCast_emod]]
      by_cases e : (i + 1) % (d + 1) = 0
      · rw [if_pos (by omega)]
        refine at_k (ns := L) (k := d) (by omega) (by omega) ?_
        rw [tg d hd]
        exact r1 (decide_eq_true e)
      · rw [if_neg (by omega)]
        exact r2 (decide_eq_false e)
    · simp_wf
      refine ⟨_, by rw [show (((List.range i).filter fun d => decide ((i + 1) % (d + 1) = 0)).map fun d => D.int (ownK s (d + 1))) = (((List.range i).filter fun d => decide ((i + 1) % (d + 1) = 0)).map fun d => ownK s (d + 1)).map D.int from by rw [List.map_map]; rfl]; exact sumD_isum _, ?_⟩
      simp_wf
      rw [List.length_map]
      refine ⟨by omega, ?_⟩
      rw [mb, List.map_append]
      rfl
  · rintro _ rfl
    dsimp only
    refine nxt ?_
    simp_wf
    exact q
theorem len_sums_fault : ∀ ds Q, p_sums_fault ds Q → ds.length = 1 := by
  rintro _ Q ⟨_, rfl, _⟩; rfl
theorem range_first (p : Nat → Bool) : ∀ n i, i < n → (∀ j, j < i → p j = false) → p i = true → ∃ r, (List.range n).filter p = i :: r := by
  intro n i hi h0 h1
  obtain ⟨m, rfl⟩ : ∃ m, n = i + (1 + m) := ⟨n - i - 1, by omega⟩
  rw [List.range_add, List.filter_append, List.filter_eq_nil_iff.mpr fun j hj => by rw [h0 j (List.mem_range.mp hj)]; simp]
  rw [Nat.add_comm 1 m, List.range_succ_eq_map, List.map_cons, List.filter_cons_of_pos (by simpa using h1)]
  exact ⟨_, rfl⟩
theorem pure_sums_fault : ∀ ds Q, p_sums_fault ds Q → b_sums_fault (endsOf Q) (startP 3 ds) := by
  rintro _ Q ⟨s, rfl, hl, q⟩
  unfold b_sums_fault
  simp_wf
  refine ⟨s, rfl, hl, ?_⟩
  simp_wf
  rw [enumD_map]
  refine for_enc (fun p : Int × Nat => D.tup [.int (p.2 : Nat), .int p.1]) (fun i δ => δ = [.no, .no, .no] ∧ ∀ j, j < i → decide (ownK s (j + 1) % ((j + 1 : Nat) : Int) ≠ 0) = false) ⟨rfl, fun j hj => by omega⟩ ?_ ?_
  · rintro i ⟨x, j⟩ _ hi ⟨rfl, h0⟩
    rw [List.getElem?_zipIdx] at hi
    obtain ⟨x', hx, e⟩ := Option.map_eq_some_iff.mp hi
    rw [Nat.zero_add] at e
    injection e with e1 e2
    subst e1
    subst e2
    have ilt := (List.getElem?_eq_some_iff.mp hx).1
    rw [ownL_len] at ilt
    have ex : x' = ownK s (i + 1) := by
      unfold ownL at hx
      rw [List.getElem?_map, List.getElem?_range ilt] at hx
      injection hx with hx
      exact hx.symm
    subst ex
    simp_wf
    refine ⟨by omega, ?_⟩
    by_cases c : ownK s (i + 1) % ((i : Int) + 1) = 0
    · rw [if_neg (by rw [Decidable.not_not]; exact c)]
      intro j hj
      by_cases e : j = i
      · subst e; exact fun z => z c
      · have := of_decide_eq_false (h0 j (by omega))
        rw [ne_eq, Decidable.not_not] at this
        exact fun z => z this
    · rw [if_pos c]
      have hc : ownK s (i + 1) % ((i + 1 : Nat) : Int) ≠ 0 := c
      obtain ⟨r, hr⟩ := range_first (fun k => decide (ownK s (k + 1) % ((k + 1 : Nat) : Int) ≠ 0)) s.length i ilt h0 (decide_eq_true hc)
      unfold faultD faultL at q
      rw [hr] at q
      exact q
  · rintro _ ⟨rfl, h0⟩
    dsimp only
    refine nxt ?_
    simp_wf
    rw [List.length_zipIdx, ownL_len] at h0
    unfold faultD faultL at q
    rw [List.filter_eq_nil_iff.mpr fun j hj => by rw [h0 j (List.mem_range.mp hj)]; simp] at q
    exact q
theorem len_curve_from_sums : ∀ ds Q, p_curve_from_sums ds Q → ds.length = 1 := by
  rintro _ Q ⟨_, rfl, _⟩; rfl
theorem isum_range (f : Nat → Int) : ∀ n, isum ((List.range n).map f) = sumN n f
  | 0 => rfl
  | n + 1 => by
    rw [List.range_succ, List.map_append, sumN, ← isum_range f n]
    have : ∀ a : List Int, ∀ x, isum (a ++ [x]) = isum a + x := fun a x => by
      induction a with
      | nil => simp [isum]
      | cons y a ih => simp only [List.cons_append, isum, ih]; omega
    exact this _ _
theorem getD_sm {s : List Int} {B : Int} (hB : 0 ≤ B) (h : ∀ x ∈ s, -B ≤ x ∧ x ≤ B) (i : Nat) : -B ≤ s.getD i 0 ∧ s.getD i 0 ≤ B := by
  rw [List.getD_eq_getElem?_getD]
  by_cases hi : i < s.length
  · rw [List.getElem?_eq_getElem hi]; exact h _ (List.getElem_mem hi)
  · rw [List.getElem?_eq_none (by omega)]; exact ⟨by show _ ≤ (0 : Int); omega, hB⟩
theorem cf_none_up {s : List Int} {k : Nat} (h : cfL s k = none) : ∀ m, k ≤ m → cfL s m = none := by
  intro m
  induction m with
  | zero => intro hk; rw [show k = 0 by omega] at h; exact h
  | succ m ih =>
    intro hk
    by_cases c : k = m + 1
    · rw [← c]; exact h
    · rw [cfL, ih (by omega)]
theorem pure_curve_from_sums : ∀ ds Q, p_curve_from_sums ds Q → b_curve_from_sums (endsOf Q) (startP 5 ds) := by
  rintro _ Q ⟨s, rfl, hl, hs, q⟩
  unfold b_curve_from_sums
  simp_wf
  intro ad
  refine nxt ?_
  simp_wf
  rw [List.length_map]
  refine ⟨by omega, ?_⟩
  rw [show ((s.length : Int) + 1 - 1).toNat = s.length by omega]
  refine for_rngI (fun i δ => ∃ it, cfL s i = some it ∧ δ = [.val (.tup (s.map .int)), .own ad (it.map .int), .no, .no, .no]) ⟨[1], rfl, rfl⟩ ?_ ?_
  · rintro i _ hi ⟨it, hit, rfl⟩
    have il := (cfL_len hit).1
    simp_wf
    refine ⟨by omega, ?_⟩
    rw [show ((1 : Int) + i).toNat = i + 1 by omega]
    refine lc_rng (fun u => .int (it.getD u 0 * s.getD (i + 1 - u - 1) 0)) (by omega) (fun u hu R hR => ?_) ?_
    · simp_wf
      rw [Int.zero_add]
      refine at_k (ns := it) (k := u) rfl (by omega) ?_
      refine at_k (ns := s) (k := i + 1 - u - 1) (by omega) (by omega) ?_
      simp_wf
      have := getD_sm (by omega) hs (i + 1 - u - 1)
      exact ⟨.inr ⟨by omega, by omega⟩, hR⟩
    · simp_wf
      refine ⟨totC it s (i + 1), ?_, ?_⟩
      · rw [show (List.range (i + 1)).map (fun u => D.int (it.getD u 0 * s.getD (i + 1 - u - 1) 0)) = ((List.range (i + 1)).map fun u => it.getD u 0 * s.getD (i + 1 - u - 1) 0).map D.int from by rw [List.map_map]; rfl]
        rw [sumD_isum, isum_range]
        rfl
      have hn : cfL s (i + 1) = if totC it s (i + 1) % ((i + 1 : Nat) : Int) = 0 then some (it ++ [-(totC it s (i + 1) / ((i + 1 : Nat) : Int))]) else none := by rw [cfL, hit]
      rw [show (1 : Int) + i = ((i + 1 : Nat) : Int) by omega]
      generalize totC it s (i + 1) = t at *
      refine nxt ?_
      simp_wf
      refine ⟨by omega, ?_⟩
      by_cases c : t % ((i + 1 : Nat) : Int) = 0
      · rw [if_neg (by rw [Decidable.not_not]; exact c)]
        rw [if_pos c] at hn
        refine nxt ?_
        simp_wf
        refine ⟨by omega, ?_⟩
        rw [List.length_map]
        exact ⟨by omega, _, hn, by rw [List.map_append]; rfl⟩
      · rw [if_pos c]
        rw [if_neg c] at hn
        unfold cfD at q
        rw [cf_none_up hn s.length (by omega)] at q
        exact q
  · rintro _ ⟨it, hit, rfl⟩
    dsimp only
    refine nxt ?_
    unfold cfD at q
    rw [hit] at q
    simp_wf
    rw [← List.map_reverse]
    exact q
theorem len__law_cell : ∀ ds Q, p__law_cell ds Q → ds.length = 2 := by
  rintro _ Q ⟨ns, k, rfl, _⟩; rfl
theorem pure__law_cell : ∀ ds Q, p__law_cell ds Q → b__law_cell (endsOf Q) (startP 2 ds) := by
  rintro _ Q ⟨ns, k, rfl, h0, h1, q⟩
  unfold b__law_cell
  simp_wf
  split
  · rename_i h
    exact atD_ints h0 (by simpa using h) fun x _ => q x
  · simp_wf
    exact q _
theorem len__law_draws : ∀ ds Q, p__law_draws ds Q → ds.length = 2 := by
  rintro _ Q ⟨c, n, rfl, _⟩; rfl
theorem pure__law_draws : ∀ ds Q, p__law_draws ds Q → b__law_draws (endsOf Q) (startP 8 ds) := by
  rintro _ Q ⟨c, n, rfl, h0, h1, q⟩
  unfold b__law_draws
  simp_wf
  refine fun p => ⟨by omega, ?_⟩
  refine for_rngI (fun i δ => ∃ (r : Int) (ds : List D), δ = [.no, .no, .val (.int r), .val (.bl (decide (1000000000000000000 ≤ if c < 0 then -c else c))), .val (.int (if c < 0 then -c else c)), .own p ds, .no, .no] ∧ ∃ xs : List Int, ds = xs.map .int ∧ xs.length = i ∧ ∀ x ∈ xs, 0 ≤ x ∧ x < 5040)
    ⟨_, _, rfl, [], rfl, rfl, by simp⟩ ?_ ?_
  · rintro i _ hi ⟨r, _, rfl, xs, rfl, hl, hx⟩
    have fin : ∀ y : Int, ∀ x ∈ xs ++ [y % 5040], 0 ≤ x ∧ x < 5040 := by
      intro y x hm
      rcases List.mem_append.mp hm with h | h
      · exact hx x h
      · have : x = y % 5040 := by simpa using h
        omega
    have e5 : (xs.map D.int).length < 16777216 := by rw [List.length_map]; omega
    simp_wf
    have o5 : MulB (((if c < 0 then -c else c) * 48271 + (0 + (i : Int) + 1) * 69621 + 11) % 2147483647) (((if c < 0 then -c else c) * 48271 + (0 + (i : Int) + 1) * 69621 + 11) % 2147483647) := .inl (by omega)
    by_cases hd : (1000000000000000000 : Int) ≤ (if c < 0 then -c else c)
    · rw [if_pos hd]
      by_cases hr : 0 < r
      · rw [if_pos hr]
        refine ⟨e5, ?_⟩
        simp_wf
        exact ⟨_, _, rfl, xs ++ [r % 5040], by simp, by simp [hl], fin r⟩
      · rw [if_neg hr]
        simp_wf
        refine ⟨o5, ?_⟩
        simp_wf
        exact ⟨e5, _, _, rfl, xs ++ [_], by simp; rfl, by simp [hl], fin _⟩
    · rw [if_neg hd]
      simp_wf
      refine ⟨o5, ?_⟩
      simp_wf
      exact ⟨e5, _, _, rfl, xs ++ [_], by simp; rfl, by simp [hl], fin _⟩
  · rintro _ ⟨r, _, rfl, xs, rfl, hl, hx⟩
    simp_wf
    exact q xs (by omega) hx
theorem len__law_is_integer : ∀ ds Q, p__law_is_integer ds Q → ds.length = 1 := by
  rintro _ Q ⟨v, rfl, _⟩; rfl
theorem pure__law_is_integer : ∀ ds Q, p__law_is_integer ds Q → b__law_is_integer (endsOf Q) (startP 1 ds) := by
  rintro _ Q ⟨v, rfl, q⟩
  unfold b__law_is_integer
  simp_wf
  cases v <;> (simp_wf; exact q)
theorem len__law_is {n : Nat} : ∀ ds Q, pr__law_is n ds Q → ds.length = 2 := by
  intro ds Q h
  cases n with
  | zero => exact h.elim
  | succ n => obtain ⟨a, b, rfl, _⟩ := h; rfl
theorem zero__law_is : ∀ ds Q, pr__law_is 0 ds Q → False := fun _ _ h => h
theorem from__law_is : ∀ ds Q, p__law_is ds Q → pr__law_is 12 ds Q := fun _ _ h => h
theorem all_eq_tup (xs ys : List D) (h : xs.length = ys.length) : (List.range ys.length).all (fun k => decide (xs.getD k .non = ys.getD k .non)) = decide (xs = ys) := by
  rw [Bool.eq_iff_iff, List.all_eq_true, decide_eq_true_eq]
  constructor
  · intro hh
    apply List.ext_getElem h
    intro i h1 h2
    have := hh i (List.mem_range.mpr h2)
    simpa [List.getD, h1, h2] using this
  · rintro rfl k _
    simp
theorem pure__law_is (n : Nat) : ∀ ds Q, pr__law_is (n + 1) ds Q → b__law_is (pr__law_is n) (endsOf Q) (startP 3 ds) := by
  rintro _ Q ⟨v, due, rfl, hv, hd, q⟩
  unfold b__law_is
  simp_wf
  cases due with
  | non => simp_wf; exact q
  | lst xs => simp [dueOk] at hd
  | bl b =>
    simp_wf
    cases v with
    | bl c =>
      simp_wf
      have e : (c == b) = decide (D.bl c = D.bl b) := by cases c <;> cases b <;> rfl
      rw [e]; exact q
    | _ => (simp_wf; simpa using q)
  | int i =>
    simp_wf
    refine ⟨v, rfl, ?_⟩
    cases v with
    | int c =>
      simp only [isInt]
      simp_wf
      have e : decide (c = i) = decide (D.int c = D.int i) := by simp
      rw [e]; exact q
    | _ => (simp only [isInt]; simp_wf; simpa using q)
  | str x =>
    simp_wf
    cases v with
    | str c =>
      simp_wf
      have h1 : strOkD c = true := by simpa only [txtOk] using hv
      have h2 : strOkD x = true := by cases n <;> simpa only [dueOk] using hd
      refine ⟨⟨by simpa only [shp] using h1, by simpa only [shp] using h2⟩, ?_⟩
      have e : D.eqv (.str c) (.str x) = decide (D.str c = D.str x) := by
        simp only [D.eqv]; rw [Bool.eq_iff_iff]; simp
      rw [e]; exact q
    | _ => (simp_wf; simpa using q)
  | tup ys =>
    simp_wf
    cases n with
    | zero => simp [dueOk] at hd
    | succ n =>
      rw [dueOk_t, dueOkL_all] at hd
      simp only [Bool.and_eq_true, decide_eq_true_eq, List.all_eq_true] at hd
      obtain ⟨hl, hd⟩ := hd
      cases v with
      | tup xs =>
        simp_wf
        rw [txtOk_t, txtOkL_all, List.all_eq_true] at hv
        split
        · rename_i hne
          have e : decide (D.tup xs = D.tup ys) = false := by
            simp only [D.tup.injEq, decide_eq_false_iff_not]
            intro h; subst h; exact hne rfl
          rw [e] at q; exact q
        · rename_i he
          have he : xs.length = ys.length := by omega
          refine ⟨by omega, ?_⟩
          refine lc_rng (fun k => .bl (decide (xs.getD k .non = ys.getD k .non))) (by omega) (fun k hk R hR => ?_) ?_
          · simp_wf
            have h2 : k < ys.length := by omega
            have h1 : k < xs.length := by omega
            refine atD_at (j := k) (d := xs.getD k .non) (by omega) (by simp [List.getD, h1]) (atD_at (j := k) (d := ys.getD k .non) (by omega) (by simp [List.getD, h2]) ?_)
            refine ⟨_, _, rfl, hv _ ?_, hd _ ?_, hR⟩
            · simp [List.getD, h1]
            · simp [List.getD, h2]
          · refine ⟨_, allB_map _ _, ?_⟩
            rw [show (ys.length : Int).toNat = ys.length by omega, all_eq_tup xs ys he]
            have e : decide (xs = ys) = decide (D.tup xs = D.tup ys) := by simp
            rw [e]; exact q
      | _ => (simp_wf; simpa using q)
theorem len__law_is_integers : ∀ ds Q, p__law_is_integers ds Q → ds.length = 1 := by
  rintro _ Q ⟨v, rfl, _⟩; rfl
theorem pure__law_is_integers : ∀ ds Q, p__law_is_integers ds Q → b__law_is_integers (endsOf Q) (startP 2 ds) := by
  rintro _ Q ⟨v, rfl, hl, q⟩
  unfold b__law_is_integers
  simp_wf
  cases v with
  | tup xs =>
    simp_wf
    refine lc_map (fun d => .bl (isInt d)) (hl xs rfl) (fun d _ R hR => ?_) ?_
    · simp_wf
      exact ⟨d, rfl, hR⟩
    · exact ⟨_, allB_map xs isInt, q⟩
  | _ => (simp_wf; exact q)
theorem len__law_times : ∀ ds Q, p__law_times ds Q → ds.length = 2 := by
  rintro _ Q ⟨_, _, rfl, _⟩; rfl
theorem rowC_next (a b : List Int) (i : Nat) (it : List Int) (j : Nat) : rowC a b i it (j + 1) = (rowC a b i it j).set (i + j) ((rowC a b i it j).getD (i + j) 0 + a.getD i 0 * b.getD j 0) := by
  unfold rowC
  rw [List.range_succ, List.foldl_append]; rfl
theorem rowC_len (a b : List Int) (i : Nat) (it : List Int) : ∀ j, (rowC a b i it j).length = it.length
  | 0 => rfl
  | j + 1 => by rw [rowC_next, List.length_set, rowC_len a b i it j]
theorem convC_next (a b : List Int) (i : Nat) : convC a b (i + 1) = rowC a b i (convC a b i) b.length := by
  unfold convC
  rw [List.range_succ, List.foldl_append]; rfl
theorem convC_len (a b : List Int) : ∀ i, (convC a b i).length = a.length + b.length
  | 0 => by show (List.replicate (a.length + b.length) 0).length = _; rw [List.length_replicate]
  | i + 1 => by rw [convC_next, rowC_len, convC_len a b i]
theorem own_rep {i : Nat} {b : Ex} {E : En} {δ : PSt} {n : Int} (hb : ∀ Q : D → Prop, Q (.int n) → b δ Q) (h0 : 0 ≤ n) (h1 : n ≤ 1000) (h : ∀ p, E.nx (st δ i (.own p (List.replicate n.toNat (.int 0))))) : sOwn i (e2 oRepL (eLst (aCons (eC (.int 0)) aNil)) b) E δ := by
  simp only [sOwn, e2, eLst_w1, eC]
  refine hb _ ?_
  simp_wf
  exact ⟨⟨by omega, by omega⟩, h⟩
theorem pure__law_times : ∀ ds Q, p__law_times ds Q → b__law_times (endsOf Q) (startP 5 ds) := by
  rintro _ Q ⟨a, b, rfl, la, lb, hs, q⟩
  unfold b__law_times
  refine seq_hide fun N1 g1 => ?_
  refine own_rep (n := (a.length : Int) + b.length) (fun Q hQ => ?_) (by omega) (by omega) fun ad => ?_
  · simp_wf
    rw [List.length_map, List.length_map]
    exact hQ
  refine g1 _ (seq_hide fun N2 g2 => ?_)
  simp_wf
  rw [List.length_map]
  refine ⟨by omega, ?_⟩
  rw [Int.toNat_natCast]
  refine for_rngI (fun i δ => δ = [.val (.tup (a.map .int)), .val (.tup (b.map .int)), .own ad ((convC a b i).map .int), .no, .no]) ?_ ?_ ?_
  · rw [show convC a b 0 = List.replicate (a.length + b.length) 0 from rfl, List.map_replicate]
    rw [show ((a.length : Int) + b.length).toNat = a.length + b.length by omega]
  · rintro i _ hi rfl
    have cn := convC_next a b i
    have cl := convC_len a b i
    rw [cn]
    generalize convC a b i = it at *
    simp_wf
    rw [List.length_map]
    refine ⟨by omega, ?_⟩
    rw [Int.toNat_natCast]
    refine for_rngI (fun j δ => δ = [.val (.tup (a.map .int)), .val (.tup (b.map .int)), .own ad ((rowC a b i it j).map .int), .val (.int i), .no]) (by rw [Int.zero_add]; rfl) ?_ ?_
    · rintro j _ hj rfl
      have rl := rowC_len a b i it j
      rw [rowC_next]
      generalize rowC a b i it j = L at *
      rw [Int.zero_add]
      simp_wf
      refine at_k (ns := L) (k := i + j) (by omega) (by omega) ?_
      refine at_k (ns := a) (k := i) rfl hi ?_
      refine at_k (ns := b) (k := j) rfl hj ?_
      simp_wf
      have sm := getD_small hs i
      refine ⟨.inl ⟨by omega, by omega⟩, ?_⟩
      refine ⟨i + j, ?_, ?_⟩
      · rw [show (i : Int) + j = ((i + j : Nat) : Int) by omega]
        exact ixP_nat (by rw [List.length_map]; omega)
      · rw [List.map_set]
    · rintro _ rfl
      simp_wf
  · rintro _ rfl
    refine g2 _ ?_
    simp_wf
    exact ⟨_, rfl, by rw [convC_len]; omega, q⟩
theorem len__law_cut : ∀ ds Q, p__law_cut ds Q → ds.length = 1 := by
  rintro _ Q ⟨_, rfl, _⟩; rfl
theorem foldl_max : ∀ (l : List Nat) (a : Nat), a ≤ l.foldl max a ∧ (∀ x ∈ l, x ≤ l.foldl max a) ∧ (l.foldl max a = a ∨ l.foldl max a ∈ l)
  | [], a => ⟨Nat.le_refl _, fun x h => absurd h List.not_mem_nil, .inl rfl⟩
  | y :: l, a => by
    obtain ⟨h1, h2, h3⟩ := foldl_max l (max a y)
    rw [List.foldl_cons]
    refine ⟨by omega, fun x hx => ?_, ?_⟩
    · rcases List.mem_cons.mp hx with rfl | hx
      · omega
      · exact h2 x hx
    · rcases h3 with h | h
      · rw [h]
        by_cases c : a ≤ y
        · rw [Nat.max_eq_right c]; exact .inr List.mem_cons_self
        · rw [Nat.max_eq_left (by omega)]; exact .inl rfl
      · exact .inr (List.mem_cons_of_mem _ h)
theorem pure__law_cut : ∀ ds Q, p__law_cut ds Q → b__law_cut (endsOf Q) (startP 3 ds) := by
  rintro _ Q ⟨l, rfl, hl, q⟩
  unfold b__law_cut
  simp_wf
  rw [List.length_map]
  refine ⟨by omega, ?_⟩
  rw [Int.toNat_natCast]
  refine lc_rng_filter (fun k => decide (l.getD k 0 ≠ 0)) (fun k => .int ((k + 1 : Nat) : Int)) (by omega) (fun k hk R R0 r1 r2 => ?_) ?_
  · rw [Int.zero_add]
    simp_wf
    refine at_k (ns := l) (k := k) rfl hk ?_
    simp_wf
    by_cases c : l.getD k 0 = 0
    · rw [if_neg (by rw [Decidable.not_not]; exact c)]
      exact r2 (decide_eq_false fun z => z c)
    · rw [if_pos c]
      exact r1 (decide_eq_true c)
  have fl : ((List.range l.length).filter fun k => decide (l.getD k 0 ≠ 0)).length ≤ l.length := Nat.le_trans (List.length_filter_le _ _) (by rw [List.length_range]; omega)
  rw [List.length_map]
  refine ⟨by omega, ?_⟩
  obtain ⟨h1, h2, h3⟩ := foldl_max (((List.range l.length).filter fun k => decide (l.getD k 0 ≠ 0)).map (· + 1)) 0
  have hc : cutS l = (((List.range l.length).filter fun k => decide (l.getD k 0 ≠ 0)).map (· + 1)).foldl max 0 := rfl
  rw [← hc] at h1 h2 h3
  refine ⟨0 :: (((List.range l.length).filter fun k => decide (l.getD k 0 ≠ 0)).map (· + 1)).map (fun k : Nat => (k : Int)), (cutS l : Nat), ?_, ?_, ?_, ?_⟩
  · rw [List.map_cons, List.map_map, List.map_map]; rfl
  · rcases h3 with h | h
    · rw [h]; exact List.mem_cons_self
    · exact List.mem_cons_of_mem _ (List.mem_map.mpr ⟨_, h, rfl⟩)
  · intro y hy
    rcases List.mem_cons.mp hy with rfl | hy
    · omega
    · obtain ⟨k, hk, rfl⟩ := List.mem_map.mp hy
      have := h2 k hk
      omega
  · refine nxt ?_
    simp_wf
    rw [cut_take (l.map D.int) (k := cutS l) rfl, ← List.map_take]
    exact q
theorem len__law_height : ∀ ds Q, p__law_height ds Q → ds.length = 1 := by
  rintro _ Q ⟨_, rfl, _⟩; rfl
theorem pure__law_height : ∀ ds Q, p__law_height ds Q → b__law_height (endsOf Q) (startP 2 ds) := by
  rintro _ Q ⟨l, rfl, hl, q⟩
  unfold b__law_height
  simp_wf
  refine lc_encX D.int (fun x => if x < 0 then -x else x) D.int (by omega) (fun x hx R hR => ?_) ?_
  · simp_wf
    exact hR
  rw [List.length_map, List.length_map]
  refine ⟨by omega, ?_⟩
  obtain ⟨m, hm, h⟩ := max_ex (0 :: l.map fun x => if x < 0 then -x else x) (by simp)
  refine ⟨0 :: l.map fun x => if x < 0 then -x else x, m, rfl, hm, h, q m (h 0 List.mem_cons_self) fun x hx => ?_⟩
  have := h _ (List.mem_cons_of_mem _ (List.mem_map.mpr ⟨x, hx, rfl⟩))
  split at this <;> omega
theorem len__law_traces : ∀ ds Q, p__law_traces ds Q → ds.length = 2 := by
  rintro _ Q ⟨_, _, rfl, _⟩; rfl
def stE (n : Nat) (c : Nat → Int) (k j : Nat) : Int := if k + 1 < n then (if j = k + 1 then 1 else 0) else 0 - c j
theorem row_step {n : Nat} {c : Nat → Int} (hn : 1 ≤ n) (m : Nat) {j : Nat} (hj : j < n) : sumN n (fun k => vc n c m k * stE n c k j) = vc n c (m + 1) j := by
  obtain ⟨r, rfl⟩ : ∃ r, n = r + 1 := ⟨n - 1, by omega⟩
  rw [sumN, vc, Nat.add_sub_cancel]
  have e1 : stE (r + 1) c r j = -c j := by unfold stE; rw [if_neg (by omega)]; omega
  rw [e1]
  by_cases h : j = 0
  · subst h
    rw [if_pos rfl, sumN_congr (g := fun _ => 0) fun k hk => ?_, sumN_zero]
    · grind
    · unfold stE
      rw [if_pos (by omega), if_neg (by omega), Int.mul_zero]
  · rw [if_neg h, sumN_congr (g := fun k => if k = j - 1 then vc (r + 1) c m k else 0) fun k hk => ?_, sumN_one (by omega)]
    · grind
    · unfold stE
      rw [if_pos (by omega)]
      by_cases e : j = k + 1
      · rw [if_pos e, if_pos (by omega), Int.mul_one]
      · rw [if_neg e, if_neg (by omega), Int.mul_zero]
def rowD (n : Nat) (f : Nat → Int) : D := .lst ((List.range n).map fun j => .int (f j))
theorem rowD_at {n : Nat} {f : Nat → Int} {k : Nat} {c : Int} (e : c = k) (hk : k < n) {Q : D → Prop} (q : Q (.int (f k))) : oIx (rowD n f) (.int c) Q := by
  refine atD_at (j := k) (d := .int (f k)) e ?_ q
  rw [List.getElem?_map, List.getElem?_range hk]; rfl
theorem stE_sm {n : Nat} {c : Nat → Int} (hc : ∀ j, (c j).natAbs ≤ 10000000 ^ 9) (k j : Nat) : (stE n c k j).natAbs < 2 ^ 250 := by
  have a := hc j
  have b : 10000000 ^ 9 < 2 ^ 250 := by decide +kernel
  have z : (1 : Nat) < 2 ^ 250 := by decide +kernel
  unfold stE
  split
  · split
    · exact z
    · exact Nat.lt_trans (by decide) z
  · rw [Int.zero_sub, Int.natAbs_neg]
    exact Nat.lt_of_le_of_lt a b
theorem vc_sm {n : Nat} {c : Nat → Int} (hc : ∀ j, (c j).natAbs ≤ 10000000 ^ 9) {m : Nat} (hm : m ≤ 40) (j : Nat) : (vc n c m j).natAbs < 2 ^ 10001 := by
  have a := vc_big (n := n) hc m j
  have b : 10000000 ^ 9 + 1 ≤ 2 ^ 250 := by decide +kernel
  have c1 : (10000000 ^ 9 + 1) ^ m ≤ (2 ^ 250) ^ m := Nat.pow_le_pow_left b m
  have c2 : (2 ^ 250) ^ m ≤ (2 ^ 250) ^ 40 := Nat.pow_le_pow_right (Nat.pow_pos (by omega)) hm
  have c3 : (2 ^ 250) ^ 40 < 2 ^ 10001 := by rw [← Nat.pow_mul]; exact Nat.pow_lt_pow_right (by omega) (by omega)
  exact Nat.lt_of_le_of_lt (Nat.le_trans a (Nat.le_trans c1 c2)) c3
theorem pure__law_traces : ∀ ds Q, p__law_traces ds Q → b__law_traces (endsOf Q) (startP 11 ds) := by
  rintro _ Q ⟨c, k, rfl, hm, hl, hk, hs, q⟩
  unfold b__law_traces
  have l2 := hm.len
  obtain ⟨n, hn⟩ : ∃ n, c.length = n + 1 := ⟨c.length - 1, by omega⟩
  have pe : ∀ t, psum c t = sumN n fun i => vc n (cofL c) (t + i) i := fun t => by unfold psum pc; rw [hn, Nat.add_sub_cancel]
  have vs := fun m hm j => vc_sm (n := n) (c := cofL c) hs (m := m) hm j
  have ss := fun k j => stE_sm (n := n) (c := cofL c) hs k j
  have rs := fun m j hj => row_step (n := n) (c := cofL c) (by omega) m (j := j) hj
  have v0 := fun m hm j hj => vc_low (n := n) (c := cofL c) m hm j hj
  refine seq_hide fun N1 g1 => ?_
  simp_wf
  rw [List.length_map, show (c.length : Int) - 1 = (n : Nat) by omega]
  refine g1 _ (seq_hide fun N2 g2 => ?_)
  simp_wf
  refine ⟨by omega, ?_⟩
  rw [show ((n : Int) - 1).toNat = n - 1 by omega]
  refine lc_rng (fun i => rowD n (stE n (cofL c) i)) (by omega) (fun i hi R hR => ?_) ?_
  · simp_wf
    refine ⟨by omega, ?_⟩
    rw [Int.toNat_natCast]
    refine lc_rng (fun j => .int (stE n (cofL c) i j)) (by omega) (fun j hj R2 hR2 => ?_) ?_
    · simp_wf
      unfold stE at hR2
      rw [if_pos (by omega)] at hR2
      by_cases e : j = i + 1
      · rw [if_pos (by omega)]
        rw [if_pos e] at hR2
        exact hR2
      · rw [if_neg (by omega)]
        rw [if_neg e] at hR2
        exact hR2
    · exact hR
  intro ad
  refine g2 _ (seq_hide fun N3 g3 => ?_)
  simp_wf
  refine ⟨by omega, ?_⟩
  rw [Int.toNat_natCast]
  refine lc_rng (fun j => .int (stE n (cofL c) (n - 1) j)) (by omega) (fun j hj R hR => ?_) ?_
  · simp_wf
    rw [Int.zero_add]
    refine at_k (ns := c) (k := j) rfl (by omega) ?_
    simp_wf
    unfold stE at hR
    rw [if_neg (by omega)] at hR
    exact hR
  simp_wf
  rw [List.length_map, List.length_range]
  refine ⟨by omega, ?_⟩
  have es : (List.range (n - 1)).map (fun i => rowD n (stE n (cofL c) i)) ++ [D.lst ((List.range n).map fun j => .int (stE n (cofL c) (n - 1) j))] = (List.range n).map fun i => rowD n (stE n (cofL c) i) := by
    obtain ⟨r, rfl⟩ : ∃ r, n = r + 1 := ⟨n - 1, by omega⟩
    rw [Nat.add_sub_cancel]
    conv => rhs; rw [List.range_succ, List.map_append]
    rfl
  rw [es]
  refine g3 _ (seq_hide fun N4 g4 => ?_)
  clear g1 g2 g3 es
  simp_wf
  refine ⟨by omega, ?_⟩
  rw [Int.toNat_natCast]
  refine lc_rng (fun i => rowD n (vc n (cofL c) (0 + i))) (by omega) (fun i hi R hR => ?_) ?_
  · simp_wf
    refine ⟨by omega, ?_⟩
    rw [Int.toNat_natCast]
    refine lc_rng (fun j => .int (vc n (cofL c) (0 + i) j)) (by omega) (fun j hj R2 hR2 => ?_) ?_
    · simp_wf
      rw [Nat.zero_add, v0 i hi j hj] at hR2
      by_cases e : i = j
      · rw [if_pos (by omega)]
        rw [if_pos e] at hR2
        exact hR2
      · rw [if_neg (by omega)]
        rw [if_neg e] at hR2
        exact hR2
    · exact hR
  refine g4 _ (seq_hide fun N5 g5 => ?_)
  clear g4
  simp_wf
  intro ae
  refine g5 _ (seq_hide fun N6 g6 => ?_)
  clear g5
  simp_wf
  refine ⟨by omega, ?_⟩
  rw [Int.toNat_natCast]
  refine for_rngI (fun t δ => δ = [.no, .no, .val (.int n), .own ad ((List.range n).map fun i => rowD n (stE n (cofL c) i)), .val (.lst ((List.range n).map fun i => rowD n (vc n (cofL c) (t + i)))), .own ae ((rsL c t).map .int), .no, .no, .no, .no, .no]) rfl ?_ ?_
  · rintro t _ ht rfl
    have rn := rsL_next c t
    have rl := rsL_len c t
    rw [pe] at rn
    rw [rn]
    generalize rsL c t = L at *
    simp_wf
    refine lc_encX (fun i => rowD n (vc n (cofL c) (t + i))) (fun i => i) (fun i => rowD n (vc n (cofL c) (t + 1 + i))) (by rw [List.length_range]; omega) (fun i hi R hR => ?_) ?_
    · rw [List.mem_range] at hi
      simp_wf
      refine ⟨by omega, ?_⟩
      rw [Int.toNat_natCast]
      refine lc_rng (fun j => .int (vc n (cofL c) (t + 1 + i) j)) (by omega) (fun j hj R2 hR2 => ?_) ?_
      · simp_wf
        refine ⟨by omega, ?_⟩
        rw [Int.toNat_natCast]
        refine lc_rng (fun u => .int (vc n (cofL c) (t + i) u * stE n (cofL c) u j)) (by omega) (fun u hu R3 hR3 => ?_) ?_
        · simp_wf
          refine rowD_at (k := u) (by omega) hu ?_
          simp_wf
          refine atD_at (j := u) (d := rowD n (stE n (cofL c) u)) (by omega) (by rw [List.getElem?_map, List.getElem?_range hu]; rfl) ?_
          refine rowD_at (k := j) (by omega) hj ?_
          simp_wf
          exact ⟨⟨10001, 250, vs (t + i) (by omega) u, ss u j, by omega⟩, hR3⟩
        · simp_wf
          refine ⟨_, by rw [show (List.range n).map (fun u => D.int (vc n (cofL c) (t + i) u * stE n (cofL c) u j)) = ((List.range n).map fun u => vc n (cofL c) (t + i) u * stE n (cofL c) u j).map D.int from by rw [List.map_map]; rfl]; exact sumD_isum _, ?_⟩
          rw [isum_range, rs (t + i) j hj, show t + i + 1 = t + 1 + i by omega]
          exact hR2
      · exact hR
    rw [List.map_id']
    refine nxt ?_
    simp_wf
    refine ⟨by omega, ?_⟩
    rw [Int.toNat_natCast]
    refine lc_rng (fun i => .int (vc n (cofL c) (t + 1 + i) i)) (by omega) (fun i hi R hR => ?_) ?_
    · simp_wf
      rw [Int.zero_add]
      refine atD_at (j := i) (d := rowD n (vc n (cofL c) (t + 1 + i))) (by omega) (by rw [List.getElem?_map, List.getElem?_range hi]; rfl) ?_
      exact rowD_at (k := i) rfl hi hR
    · simp_wf
      refine ⟨_, by rw [show (List.range n).map (fun i => D.int (vc n (cofL c) (t + 1 + i) i)) = ((List.range n).map fun i => vc n (cofL c) (t + 1 + i) i).map D.int from by rw [List.map_map]; rfl]; exact sumD_isum _, ?_⟩
      rw [isum_range]
      simp_wf
      rw [List.length_map]
      refine ⟨by omega, ?_⟩
      rw [List.map_append]
      rfl
  · rintro _ rfl
    refine g6 _ ?_
    simp_wf
    exact q
theorem len__law_drawn : ∀ ds Q, p__law_drawn ds Q → ds.length = 3 := by
  rintro _ Q ⟨_, _, _, rfl, _⟩; rfl
theorem pure__law_drawn : ∀ ds Q, p__law_drawn ds Q → b__law_drawn (endsOf Q) (startP 4 ds) := by
  rintro _ Q ⟨ps, n, w, rfl, hn, hn2, w1, w2, q⟩
  unfold b__law_drawn
  simp_wf
  refine ⟨by omega, ?_⟩
  rw [Int.toNat_natCast]
  refine lc_rng (fun i => .int (ps.getD i 0 % (2 * w + 1) - w)) (by omega) (fun i hi R hR => ?_) ?_
  · rw [Int.zero_add]
    simp_wf
    refine at_k (ns := ps) (k := i) rfl (by omega) ?_
    simp_wf
    exact ⟨by omega, hR⟩
  simp_wf
  have := q ((List.range n).map fun i => ps.getD i 0 % (2 * w + 1) - w) (by rw [List.length_map, List.length_range]) fun x hx => by
    obtain ⟨i, _, rfl⟩ := List.mem_map.mp hx
    have h1 := Int.emod_nonneg (ps.getD i 0) (show 2 * w + 1 ≠ 0 by omega)
    have h2 := Int.emod_lt_of_pos (ps.getD i 0) (show 0 < 2 * w + 1 by omega)
    omega
  rw [List.map_map] at this
  exact this
theorem len__law_own : ∀ ds Q, p__law_own ds Q → ds.length = 1 := by
  rintro _ Q ⟨_, rfl, _⟩; rfl
theorem pure__law_own : ∀ ds Q, p__law_own ds Q → b__law_own (endsOf Q) (startP 5 ds) := by
  rintro _ Q ⟨s, rfl, hl, q⟩
  unfold b__law_own
  simp_wf
  intro ad
  refine nxt ?_
  simp_wf
  rw [List.length_map]
  refine ⟨by omega, ?_⟩
  rw [show ((s.length : Int) + 1 - 1).toNat = s.length by omega]
  refine for_rngI (fun i δ => δ = [.val (.tup (s.map .int)), .own ad ((ownT s i).map .int), .no, .no, .no]) rfl ?_ ?_
  · rintro i _ hi rfl
    have tl : (ownT s i).length = i := by unfold ownT; rw [List.length_map, List.length_range]
    have tn : ownT s (i + 1) = ownT s i ++ [ownK s (i + 1)] := by unfold ownT; rw [List.range_succ, List.map_append]; rfl
    rw [tn]
    generalize ownT s i = L at *
    simp_wf
    refine ⟨by omega, ?_⟩
    rw [show ((1 : Int) + i + 1 - 1).toNat = i + 1 by omega]
    refine for_rngI (fun j δ => δ = [.val (.tup (s.map .int)), .own ad (L.map .int), .val (.int (1 + i)), .val (.int (sumN j fun d => if (i + 1) % (d + 1) = 0 then muT ((i + 1) / (d + 1)) * s.getD d 0 else 0)), .no]) rfl ?_ ?_
    · rintro j _ hj rfl
      rw [sumN]
      simp_wf
      refine ⟨by omega, ?_⟩
      rw [show ((1 : Int) + i) % (1 + j) = (((i + 1) % (j + 1) : Nat) : Int) from by rw [show (1 : Int) + i = ((i + 1 : Nat) : Int) by omega, show (1 : Int) + j = ((j + 1 : Nat) : Int) by omega, Int.natCast_emod]]
      by_cases e : (i + 1) % (j + 1) = 0
      · rw [if_pos (by omega), if_pos e]
        refine ⟨by omega, ?_⟩
        rw [show ((1 : Int) + i) / (1 + j) = (((i + 1) / (j + 1) : Nat) : Int) from by rw [show (1 : Int) + i = ((i + 1 : Nat) : Int) by omega, show (1 : Int) + j = ((j + 1 : Nat) : Int) by omega, Int.natCast_ediv]]
        have dl : (i + 1) / (j + 1) ≤ 6 := by
          have := Nat.div_le_self (i + 1) (j + 1)
          omega
        generalize (i + 1) / (j + 1) = w at *
        refine atD_at (j := w) (d := .int (muT w)) rfl ?_ ?_
        · have : w = 0 ∨ w = 1 ∨ w = 2 ∨ w = 3 ∨ w = 4 ∨ w = 5 ∨ w = 6 := by omega
          rcases this with rfl | rfl | rfl | rfl | rfl | rfl | rfl <;> rfl
        refine at_k (ns := s) (k := j) (by omega) (by omega) ?_
        simp_wf
        have mu : -1 ≤ muT w ∧ muT w ≤ 1 := by
          have : w = 0 ∨ w = 1 ∨ w = 2 ∨ w = 3 ∨ w = 4 ∨ w = 5 ∨ w = 6 := by omega
          rcases this with rfl | rfl | rfl | rfl | rfl | rfl | rfl <;> decide
        exact .inl ⟨by omega, by omega⟩
      · rw [if_neg (by omega), if_neg e, Int.add_zero]
    · rintro _ rfl
      simp_wf
      rw [List.length_map]
      refine ⟨by omega, ?_⟩
      rw [List.map_append]
      rfl
  · rintro _ rfl
    dsimp only
    refine nxt ?_
    simp_wf
    exact q
theorem len__law_powers : ∀ ds Q, p__law_powers ds Q → ds.length = 2 := by
  rintro _ Q ⟨_, _, rfl, _⟩; rfl
theorem pure__law_powers : ∀ ds Q, p__law_powers ds Q → b__law_powers (endsOf Q) (startP 7 ds) := by
  rintro _ Q ⟨rs, k, rfl, hl, hk, hs, q⟩
  unfold b__law_powers
  simp_wf
  intro ad
  refine nxt ?_
  simp_wf
  refine lc_encX D.int (fun x => x ^ 0) D.int (by omega) (fun x hx R hR => ?_) ?_
  · simp_wf
    rw [Int.pow_zero] at hR
    exact hR
  refine nxt ?_
  simp_wf
  refine ⟨by omega, ?_⟩
  rw [Int.toNat_natCast]
  refine for_rngI (fun i δ => δ = [.val (.tup (rs.map .int)), .no, .own ad ((powL rs i).map .int), .val (.lst ((rs.map fun x => x ^ i).map .int)), .no, .no, .no]) rfl ?_ ?_
  · rintro i _ hi rfl
    have pn : powL rs (i + 1) = powL rs i ++ [isum (rs.map fun r => r ^ (i + 1))] := by unfold powL; rw [List.range_succ, List.map_append]; rfl
    have pl : (powL rs i).length = i := by unfold powL; rw [List.length_map, List.length_range]
    rw [pn]
    generalize powL rs i = L at *
    simp_wf
    rw [List.length_map]
    refine ⟨by omega, ?_⟩
    rw [Int.toNat_natCast]
    refine lc_rng (fun j => .int (rs.getD j 0 ^ (i + 1))) (by omega) (fun j hj R hR => ?_) ?_
    · rw [Int.zero_add]
      simp_wf
      refine atD_at (j := j) (d := .int (rs.getD j 0 ^ i)) rfl ?_ ?_
      · rw [List.getElem?_map, List.getElem?_map, List.getElem?_eq_getElem hj, List.getD_eq_getElem?_getD, List.getElem?_eq_getElem hj]; rfl
      refine at_k (ns := rs) (k := j) rfl hj ?_
      simp_wf
      have := getD_sm (by omega) hs j
      rw [Int.pow_succ] at hR
      exact ⟨.inr ⟨by omega, by omega⟩, hR⟩
    rw [show (List.range rs.length).map (fun j => D.int (rs.getD j 0 ^ (i + 1))) = (rs.map fun x => x ^ (i + 1)).map D.int from by
      rw [List.map_map]
      refine List.ext_getElem (by simp) fun j h1 h2 => ?_
      rw [List.getElem_map, List.getElem_map, List.getElem_range, List.getD_eq_getElem?_getD, List.getElem?_eq_getElem (by simpa using h1)]; rfl]
    refine nxt ?_
    simp_wf
    refine ⟨_, sumD_isum _, ?_⟩
    simp_wf
    rw [List.length_map]
    refine ⟨by omega, ?_⟩
    rw [List.map_append]
    rfl
  · rintro _ rfl
    dsimp only
    refine nxt ?_
    simp_wf
    exact q
theorem len_law : ∀ ds Q, p_law ds Q → ds.length = 1 := fun ds Q h => by obtain ⟨ns, rfl, _⟩ := h; rfl
theorem ok1 : (allR 1).all (okOne 1) = true := by decide +kernel
theorem ok2 : (allR 2).all (okOne 2) = true := by decide +kernel
theorem ok3 : (allR 3).all (okOne 3) = true := by decide +kernel
theorem ok4 : (allR 4).all (okOne 4) = true := by decide +kernel
theorem allR_mem : ∀ (k : Nat) (rs : List Int), rs.length = k → (∀ x ∈ rs, -2 ≤ x ∧ x ≤ 2) → rs ∈ allR k
  | 0, rs, h, _ => by rw [List.length_eq_zero_iff.mp h]; exact List.mem_cons_self
  | k + 1, rs, h, hx => by
    obtain ⟨l, x, rfl⟩ : ∃ l x, rs = l ++ [x] := by
      rcases List.eq_nil_or_concat rs with e | ⟨l, x, e⟩
      · rw [e] at h; simp at h
      · exact ⟨l, x, by rw [e, List.concat_eq_append]⟩
    have b := hx x (List.mem_append_right _ List.mem_cons_self)
    refine List.mem_flatMap.mpr ⟨l, allR_mem k l (by rw [List.length_append] at h; simpa using h) fun y hy => hx y (List.mem_append_left _ hy), List.mem_map.mpr ⟨x, ?_, rfl⟩⟩
    simp only [List.mem_cons, List.not_mem_nil, or_false]
    omega
theorem roots_ok {rs : List Int} (h1 : 1 ≤ rs.length) (h4 : rs.length ≤ 4) (hx : ∀ x ∈ rs, -2 ≤ x ∧ x ≤ 2) : okOne rs.length rs = true := by
  have m := allR_mem rs.length rs rfl hx
  have : rs.length = 1 ∨ rs.length = 2 ∨ rs.length = 3 ∨ rs.length = 4 := by omega
  rcases this with e | e | e | e
  · rw [e] at m ⊢; exact List.all_eq_true.mp ok1 rs m
  · rw [e] at m ⊢; exact List.all_eq_true.mp ok2 rs m
  · rw [e] at m ⊢; exact List.all_eq_true.mp ok3 rs m
  · rw [e] at m ⊢; exact List.all_eq_true.mp ok4 rs m
theorem roots_mon {rs : List Int} (h1 : 1 ≤ rs.length) (h4 : rs.length ≤ 4) (hx : ∀ x ∈ rs, -2 ≤ x ∧ x ≤ 2) : Mon (curveOf rs) ∧ (curveOf rs).length ≤ 5 ∧ (∀ x ∈ curveOf rs, -1000 ≤ x ∧ x ≤ 1000) ∧ ∀ k, k ≤ 12 → rsL (curveOf rs) k = powL rs k := by
  have ok := roots_ok h1 h4 hx
  unfold okOne at ok
  rw [Bool.and_eq_true, Bool.and_eq_true, Bool.and_eq_true, decide_eq_true_eq, decide_eq_true_eq, decide_eq_true_eq] at ok
  obtain ⟨e1, e2, e3, e4⟩ := ok
  have m : Mon (curveOf rs) := ⟨by omega, by rw [e1, Nat.add_sub_cancel]; exact e2⟩
  refine ⟨m, by omega, fun x hx => of_decide_eq_true (List.all_eq_true.mp e3 x hx), fun k hk => ?_⟩
  rw [rsR_eq m] at e4
  have t : ∀ f : Nat → Int, (List.range k).map f = ((List.range 12).map f).take k := fun f => by
    rw [← List.map_take, List.take_range, show min k 12 = k by omega]
  unfold rsL powL at e4 ⊢
  rw [t, t, e4]
theorem prefix_sm {rs : List Int} (h4 : rs.length ≤ 4) (hx : ∀ x ∈ rs, -2 ≤ x ∧ x ≤ 2) : (curveOf rs).length ≤ 5 ∧ ∀ x ∈ curveOf rs, -1000000000 ≤ x ∧ x ≤ 1000000000 := by
  by_cases c : rs.length = 0
  · rw [List.length_eq_zero_iff.mp c]
    refine ⟨by decide, fun x h => ?_⟩
    have : x = 1 := by
      have h' : x ∈ [(1 : Int)] := h
      simpa using h'
    rw [this]; exact ⟨by decide, by decide⟩
  · have := roots_mon (by omega) h4 hx
    exact ⟨this.2.1, fun x h => by have := this.2.2.1 x h; omega⟩
theorem fault_iff {s : List Int} (h : s.length ≤ 6) : decide (cfD s = .non) = decide (0 < (faultL s).length) := by
  have c := cf_none (s := s) h
  refine decide_eq_decide.mpr ?_
  have e : cfD s = .non ↔ cfL s s.length = none := by
    unfold cfD
    cases cfL s s.length with
    | none => simp
    | some it => simp
  rw [e, c]
  unfold faultL
  rw [List.length_map, List.length_pos_iff_exists_mem]
  constructor
  · rintro ⟨j, hj, hn⟩
    exact ⟨j, List.mem_filter.mpr ⟨List.mem_range.mpr hj, decide_eq_true hn⟩⟩
  · rintro ⟨j, hj⟩
    have := List.mem_filter.mp hj
    exact ⟨j, List.mem_range.mp this.1, of_decide_eq_true this.2⟩
theorem law_2 {a : D} {xs good : List Int} {i : Nat} {E : En} (hx : xs.length = 40) (hi : i < 6) (g1 : 1 ≤ good.length) (g5 : good.length ≤ 5)
    (hE : E.nx [.val a, .val (.lst (xs.map .int)), .no, .no, .val (.int good.length), .no, .no, .no, .no, .val (.tup (good.map .int)), .no, .no, .no, .no, .no, .no, .no, .no, .no, .no]) :
    b_law_2 E [.val a, .val (.lst (xs.map .int)), .no, .no, .val (.int good.length), .no, .no, .no, .no, .val (.tup (good.map .int)), .val (.int (0 + (i : Int))), .no, .no, .no, .no, .no, .no, .no, .no, .no] := by
  unfold b_law_2
  rw [Int.zero_add]
  refine end_hide fun E' e1 _ => ?_
  refine seq_hide fun N1 g1' => ?_
  simp_wf
  refine at_k (ns := xs) (k := i) (by omega) (by omega) ?_
  simp_wf
  refine ⟨by omega, ?_⟩
  have m1 := Int.emod_nonneg (xs.getD i 0) (show (good.length : Int) ≠ 0 by omega)
  have m2 := Int.emod_lt_of_pos (xs.getD i 0) (show (0 : Int) < good.length by omega)
  obtain ⟨p, ep⟩ : ∃ p : Nat, xs.getD i 0 % (good.length : Int) = p := ⟨(xs.getD i 0 % (good.length : Int)).toNat, by omega⟩
  rw [ep] at m1 m2 ⊢
  refine g1' _ (seq_hide fun N2 g2 => ?_)
  clear g1' ep
  simp_wf
  refine at_k (ns := xs) (k := 6 + i) (by omega) (by omega) ?_
  simp_wf
  refine atD_mem (by omega) (by simp only [List.length_cons, List.length_nil]; omega) fun d hd => ?_
  obtain ⟨st0, rfl, s1, s2⟩ : ∃ s : Int, d = .int s ∧ -100 ≤ s ∧ s ≤ 100 := by
    simp only [List.mem_cons, List.not_mem_nil, or_false] at hd
    rcases hd with rfl | rfl | rfl | rfl | rfl | rfl | rfl | rfl | rfl | rfl <;> exact ⟨_, rfl, by omega, by omega⟩
  refine at_k (ns := xs) (k := 12 + i) (by omega) (by omega) ?_
  simp_wf
  refine ⟨.inl ⟨by omega, by omega⟩, ?_⟩
  generalize st0 * (1 + xs.getD (12 + i) 0 % 3) = stp
  refine g2 _ (seq_hide fun N3 g3 => ?_)
  clear g2 hd
  simp_wf
  refine at_k (ns := good) (k := p) rfl (by omega) ?_
  simp_wf
  rw [cut_take (good.map D.int) (k := p) rfl, cut_drop (good.map D.int) (c := (p : Int) + 1) (k := p + 1) (by omega), ← List.map_take, ← List.map_drop]
  rw [show (good.take p).map D.int ++ [D.int (good.getD p 0 + stp)] = (good.take p ++ [good.getD p 0 + stp]).map D.int from by rw [List.map_append]; rfl]
  rw [show (good.take p ++ [good.getD p 0 + stp]).map D.int ++ (good.drop (p + 1)).map D.int = (good.take p ++ [good.getD p 0 + stp] ++ good.drop (p + 1)).map D.int from by rw [List.map_append, List.map_append, List.map_append]]
  have al : (good.take p ++ [good.getD p 0 + stp] ++ good.drop (p + 1)).length = good.length := by
    rw [List.length_append, List.length_append, List.length_take, List.length_drop]
    simp only [List.length_cons, List.length_nil]
    omega
  try simp only [List.length_map]
  have al2 := al
  rw [List.length_append] at al2
  refine ⟨by rw [List.length_take]; omega, by omega, ?_⟩
  generalize good.take p ++ [good.getD p 0 + stp] ++ good.drop (p + 1) = asked0 at *
  refine g3 _ ?_
  clear g3 al2 m1 m2
  simp only [sCut]
  refine ⟨fun δ => ∃ l : List Int, δ = [.val a, .val (.lst (xs.map .int)), .no, .no, .val (.int good.length), .no, .no, .no, .no, .val (.tup (good.map .int)), .val (.int i), .no, .no, .val (.tup (l.map .int)), .no, .no, .no, .no, .no, .no] ∧ 1 ≤ l.length ∧ l.length ≤ 6, ?_, ?_⟩
  · simp_wf
    by_cases c : (3 : Int) < i
    · rw [if_pos c]
      rw [cut_drop (xs.map D.int) (c := 6 * (i : Int) - 6) (k := 6 * i - 6) (by omega), ← List.map_drop]
      refine ⟨xs.drop (6 * i - 6), 6, 12, rfl, by rw [List.length_drop]; omega, by omega, by omega, by omega, fun l hl _ => ?_⟩
      exact ⟨l, rfl, by omega, by omega⟩
    · rw [if_neg c]
      exact ⟨asked0, rfl, by omega, by omega⟩
  clear al asked0
  rintro _ ⟨l, rfl, l1, l6⟩
  refine ⟨fun δ => ∃ l : List Int, δ = [.val a, .val (.lst (xs.map .int)), .no, .no, .val (.int good.length), .no, .no, .no, .no, .val (.tup (good.map .int)), .no, .no, .no, .val (.tup (l.map .int)), .no, .no, .no, .no, .no, .no] ∧ 1 ≤ l.length ∧ l.length ≤ 6, ?_, ?_⟩
  · simp_wf
    by_cases c : (i : Int) < 5
    · rw [if_pos c]
      exact ⟨l, rfl, l1, l6⟩
    · rw [if_neg c]
      refine lc_encX D.int (fun x => 60 * x) D.int (by omega) (fun x hx R hR => ?_) ?_
      · simp_wf
        exact hR
      · simp_wf
        exact ⟨_, rfl, by rw [List.length_map]; exact l1, by rw [List.length_map]; exact l6⟩
  clear l1 l6 l
  rintro _ ⟨l, rfl, l1, l6⟩
  refine ⟨fun δ => ∃ l : List Int, δ = [.val a, .val (.lst (xs.map .int)), .no, .no, .val (.int good.length), .no, .no, .no, .no, .val (.tup (good.map .int)), .no, .no, .no, .val (.tup (l.map .int)), .no, .no, .no, .no, .no, .no] ∧ 1 ≤ l.length ∧ l.length ≤ 6 ∧ ∀ x ∈ l, -10000 ≤ x ∧ x ≤ 10000, ?_, ?_⟩
  · simp_wf
    refine ⟨l, rfl, by omega, fun m m0 hm => ?_⟩
    simp_wf
    by_cases c : m < 10001
    · rw [if_pos c]
      exact ⟨l, rfl, l1, l6, fun x hx => by have := hm x hx; omega⟩
    · rw [if_neg c]
      refine lc_encX D.int (fun x => x % 100) D.int (by omega) (fun x hx R hR => ?_) ?_
      · simp_wf
        exact hR
      · simp_wf
        refine ⟨_, rfl, by rw [List.length_map]; exact l1, by rw [List.length_map]; exact l6, fun x hx => ?_⟩
        obtain ⟨y, _, rfl⟩ := List.mem_map.mp hx
        omega
  clear l1 l6 l
  rintro _ ⟨l, rfl, l1, l6, ls⟩
  have oL : (ownL l).length = l.length := ownL_len l
  have fi := fault_iff (s := l) l6
  refine seq_hide fun N4 g4 => ?_
  simp_wf
  refine ⟨l, rfl, l6, ?_⟩
  refine g4 _ (seq_hide fun N5 g5' => ?_)
  clear g4
  simp_wf
  rw [List.length_map]
  refine ⟨by omega, ?_⟩
  rw [show ((l.length : Int) + 1 - 1).toNat = l.length by omega]
  refine lc_rng_filter (fun k => decide (ownK l (k + 1) % ((k + 1 : Nat) : Int) ≠ 0)) (fun k => .int ((k + 1 : Nat) : Int)) (by omega) (fun k hk R R0 r1 r2 => ?_) ?_
  · simp_wf
    rw [show (1 : Int) + k = ((k + 1 : Nat) : Int) by omega]
    refine at_k (ns := ownL l) (k := k) (by omega) (by omega) ?_
    rw [show (ownL l).getD k 0 = ownK l (k + 1) from by unfold ownL; rw [List.getD_eq_getElem?_getD, List.getElem?_map, List.getElem?_range hk]; rfl]
    simp_wf
    refine ⟨by omega, ?_⟩
    by_cases c : ownK l (k + 1) % ((k + 1 : Nat) : Int) = 0
    · rw [if_neg (by rw [Decidable.not_not]; exact c)]
      exact r2 (decide_eq_false fun z => z c)
    · rw [if_pos c]
      exact r1 (decide_eq_true c)
  rw [show ((List.range l.length).filter fun k => decide (ownK l (k + 1) % ((k + 1 : Nat) : Int) ≠ 0)).map (fun k => D.int ((k + 1 : Nat) : Int)) = numL (faultL l) from by unfold numL faultL; rw [List.map_map]; rfl]
  refine g5' _ ?_
  clear g5'
  simp only [sCut]
  refine ⟨fun δ => δ = [.val a, .val (.lst (xs.map .int)), .no, .no, .val (.int good.length), .no, .no, .no, .no, .val (.tup (good.map .int)), .no, .no, .no, .val (.tup (l.map .int)), .val (.tup ((ownL l).map .int)), .val (.lst (numL (faultL l))), .val (faultD l), .no, .no, .no], ?_, ?_⟩
  · simp_wf
    rw [numL_len]
    unfold faultD
    cases faultL l with
    | nil => rw [if_neg (by simp)]
    | cons k r =>
      rw [if_pos (by rw [List.length_cons]; omega)]
      exact ⟨0, .int k, ixP_nat (j := 0) (by rw [numL_len, List.length_cons]; omega), rfl, rfl⟩
  rintro _ rfl
  have fT : txtOk (faultD l) = true ∧ dueOk 11 (faultD l) = true := by
    unfold faultD
    split
    · exact ⟨txtOk_n, dueOk_n⟩
    · exact ⟨txtOk_i, dueOk_i⟩
  refine seq_hide fun N6 g6 => ?_
  simp_wf
  refine ⟨l, rfl, l6, _, _, rfl, iD_txt (ownL l), iD_due 10 (ownL l) (by omega), ?_⟩
  rw [decide_eq_true rfl]
  simp_wf
  refine ⟨l, rfl, l6, _, _, rfl, fT.1, fT.2, ?_⟩
  rw [decide_eq_true rfl]
  simp_wf
  refine g6 _ (seq_hide fun N7 g7 => ?_)
  clear g6 fT
  simp_wf
  refine ⟨l, rfl, by omega, fun x hx => by have := ls x hx; omega, ?_⟩
  refine g7 _ (seq_hide fun N8 g8 => ?_)
  clear g7
  simp_wf
  rw [numL_len]
  have fi2 : decide (cfD l = D.non) = decide ((0 : Int) < ((faultL l).length : Nat)) := by rw [fi]; exact decide_eq_decide.mpr (by omega)
  rw [fi2, beq_self_eq_true, if_neg (by simp)]
  refine g8 _ ?_
  clear g8 fi fi2
  simp_wf
  have hfin : ∀ d14 d15 d16 d17, E'.nx [.val a, .val (.lst (xs.map .int)), .no, .no, .val (.int good.length), .no, .no, .no, .no, .val (.tup (good.map .int)), .no, .no, .no, .val (.tup (l.map .int)), .val d14, .val d15, .val d16, .val d17, .no, .no] := fun d14 d15 d16 d17 => by
    rw [e1]
    simp only [wp, st_zero, st_succ]
    exact hE
  cases hcf : cfL l l.length with
  | none =>
    have : cfD l = .non := by unfold cfD; rw [hcf]
    rw [if_neg (by rw [Decidable.not_not]; exact this)]
    exact hfin _ _ _ _
  | some it =>
    have hd : cfD l = .tup (it.reverse.map .int) := by unfold cfD; rw [hcf]
    obtain ⟨il, io⟩ := cfL_len hcf
    have mon := cf_mon l1 hcf
    have sums := cf_sums l1 hcf
    have big := cf_big (s := l) (fun j => by have := getD_sm (by omega) ls j; omega) (k := l.length) (by omega) hcf
    have rl : it.reverse.length = l.length + 1 := by rw [List.length_reverse, il]
    have bigr : ∀ j, (it.reverse.getD j 0).natAbs ≤ 10000000 ^ 9 := fun j => by
      by_cases c : j < it.length
      · rw [getD_rev c]
        exact Nat.le_trans (big _) (Nat.pow_le_pow_right (by omega) (by omega))
      · rw [List.getD_eq_getElem?_getD, List.getElem?_eq_none (by rw [List.length_reverse]; omega)]
        simp
    have hone := mon.one
    rw [rl, Nat.add_sub_cancel] at hone
    rw [hd]
    generalize it.reverse = c at *
    simp_wf
    refine ⟨_, rfl, fun ys e => ?_, ?_⟩
    · injection e with e
      rw [← e, List.length_map]; omega
    rw [areInts_t, all_isInt]
    simp_wf
    rw [List.length_map, List.length_map]
    rw [if_neg (by rw [rl]; omega)]
    refine at_k (ns := c) (k := l.length) rfl (by omega) ?_
    rw [hone]
    simp_wf
    refine ⟨c, l.length, by rw [List.length_map], mon, by omega, by omega, bigr, ?_⟩
    rw [sums]
    refine ⟨⟨shp_iD 59 l, shpL_ints 59 l⟩, ?_⟩
    rw [eqv_iD, if_neg (by simp)]
    exact hfin _ _ _ _
theorem law_3 {a : D} {xs ps rs : List Int} {n count : Nat} {E : En} (hx : xs.length = 40) (hp : ps.length = 20) (n1 : 1 ≤ n) (n5 : n ≤ 5) (c1 : count ≤ 12) (r1 : 1 ≤ rs.length) (r4 : rs.length ≤ 4) (hr : ∀ x ∈ rs, -2 ≤ x ∧ x ≤ 2)
    (hE : ∀ g, E.nx [.val a, .val (.lst (xs.map .int)), .no, .no, .val (.int n), .no, .no, .no, .no, .val g, .no, .no, .no, .no, .no, .no, .no, .no, .no, .no]) :
    b_law_3 E [.val a, .val (.lst (xs.map .int)), .no, .val (.lst (ps.map .int)), .val (.int n), .val (.int count), .val (.tup (rs.map .int)), .val (.tup ((curveOf rs).map .int)), .no, .no, .no, .no, .no, .no, .no, .no, .no, .no, .no, .no] := by
  unfold b_law_3
  obtain ⟨mon, ml, ms, me⟩ := roots_mon r1 r4 hr
  refine seq_hide fun N1 g1 => ?_
  simp_wf
  refine ⟨curveOf rs, count, rfl, mon, by omega, by omega, fun x hx => by have := ms x hx; omega, rs, count, rfl, by omega, by omega, fun x hx => by have := hr x hx; omega, ?_⟩
  rw [me count c1]
  refine ⟨_, _, rfl, iD_txt _, iD_due 10 _ (by unfold powL; rw [List.length_map, List.length_range]; omega), ?_⟩
  rw [decide_eq_true rfl]
  simp_wf
  refine g1 _ (seq_hide fun N2 g2 => ?_)
  clear g1 mon ml ms me
  simp_wf
  refine at_k (ns := ps) (k := 13) rfl (by omega) ?_
  simp_wf
  refine atD_mem (by omega) (by simp only [List.length_cons, List.length_nil]; omega) fun d hd => ?_
  obtain ⟨w, rfl, w1, w2⟩ : ∃ w : Int, d = .int w ∧ 1 ≤ w ∧ w ≤ 100 := by
    simp only [List.mem_cons, List.not_mem_nil, or_false] at hd
    rcases hd with rfl | rfl | rfl <;> exact ⟨_, rfl, by omega, by omega⟩
  rw [cut_drop (ps.map D.int) (c := 7) (k := 7) rfl, ← List.map_drop]
  refine ⟨ps.drop 7, n, w, rfl, by rw [List.length_drop]; omega, by omega, w1, by omega, fun c0 cl cs => ?_⟩
  simp_wf
  rw [List.length_map]
  refine ⟨by omega, ?_⟩
  rw [show c0.map D.int ++ [D.int 1] = (c0 ++ [1]).map D.int from by rw [List.map_append]; rfl]
  have mon : Mon (c0 ++ [1]) := ⟨by rw [List.length_append]; simp only [List.length_cons, List.length_nil]; omega, by
    rw [List.length_append]
    show (c0 ++ [1]).getD (c0.length + 1 - 1) 0 = 1
    rw [Nat.add_sub_cancel]; exact getD_end⟩
  have len : (c0 ++ [1]).length = n + 1 := by rw [List.length_append, cl]; rfl
  have sm : ∀ x ∈ c0 ++ [1], -100 ≤ x ∧ x ≤ 100 := fun x hx => by
    rcases List.mem_append.mp hx with h | h
    · have := cs x h; omega
    · rw [List.mem_singleton] at h; omega
  generalize c0 ++ [1] = c at *
  have sb : ∀ j, (c.getD j 0).natAbs ≤ 10000000 ^ 9 := fun j => by
    have a := getD_sm (by omega) sm j
    have b : (c.getD j 0).natAbs ≤ 100 := by omega
    exact Nat.le_trans b (by decide +kernel)
  refine g2 _ (seq_hide fun N3 g3 => ?_)
  clear g2 hd
  simp_wf
  refine ⟨c, count, rfl, mon, by omega, by omega, fun x hx => by have := sm x hx; omega, c, count, rfl, mon, by omega, by omega, sb, ?_⟩
  refine ⟨_, _, rfl, iD_txt _, iD_due 10 _ (by rw [rsL_len]; omega), ?_⟩
  rw [decide_eq_true rfl]
  simp_wf
  refine g3 _ (seq_hide fun N4 g4 => ?_)
  clear g3
  simp_wf
  refine ⟨c, n, rfl, mon, by omega, by omega, sb, ?_⟩
  refine g4 _ (seq_hide fun N5 g5 => ?_)
  clear g4
  have gl := rsL_len c n
  have cb : cfD (rsL c n) = .tup (c.map .int) := by
    have := cf_back mon (c.length - 1) (by omega)
    rw [show c.length - 1 = n by omega] at this
    unfold cfD
    rw [gl, this, List.take_of_length_le (by rw [List.length_reverse]; omega)]
    show D.tup (c.reverse.reverse.map .int) = _
    rw [List.reverse_reverse]
  simp_wf
  refine ⟨rsL c n, rfl, by omega, fun m m0 hm => ?_⟩
  simp_wf
  by_cases h : m < 10001
  · rw [if_pos h]
    refine ⟨rsL c n, rfl, by omega, fun x hx => by have := hm x hx; omega, ?_⟩
    rw [cb]
    refine ⟨_, _, rfl, iD_txt _, iD_due 10 _ (by omega), ?_⟩
    rw [decide_eq_true rfl]
    simp_wf
    refine g5 _ ?_
    simp_wf
    refine for_rngI (fun _ δ => δ = [.val a, .val (.lst (xs.map .int)), .no, .no, .val (.int n), .no, .no, .no, .no, .val (.tup ((rsL c n).map .int)), .no, .no, .no, .no, .no, .no, .no, .no, .no, .no]) rfl ?_ ?_
    · rintro i _ hi rfl
      simp only [tg_nm, st_zero, st_succ]
      have := law_2 (a := a) (good := rsL c n) (E := { nx := fun δ => δ = [.val a, .val (.lst (xs.map .int)), .no, .no, .val (.int n), .no, .no, .no, .no, .val (.tup ((rsL c n).map .int)), .no, .no, .no, .no, .no, .no, .no, .no, .no, .no], rt := E.rt, rn := E.rn, bk := E.nx, ct := fun δ => δ = [.val a, .val (.lst (xs.map .int)), .no, .no, .val (.int n), .no, .no, .no, .no, .val (.tup ((rsL c n).map .int)), .no, .no, .no, .no, .no, .no, .no, .no, .no, .no] }) hx hi (by omega) (by omega) (by rw [gl])
      rw [gl] at this
      exact this
    · rintro _ rfl
      exact hE _
  · rw [if_neg h]
    refine ⟨_, _, rfl, iD_txt _, iD_due 10 _ (by omega), ?_⟩
    rw [decide_eq_true rfl]
    simp_wf
    refine g5 _ ?_
    simp_wf
    refine for_rngI (fun _ δ => δ = [.val a, .val (.lst (xs.map .int)), .no, .no, .val (.int n), .no, .no, .no, .no, .val (.tup ((rsL c n).map .int)), .no, .no, .no, .no, .no, .no, .no, .no, .no, .no]) rfl ?_ ?_
    · rintro i _ hi rfl
      simp only [tg_nm, st_zero, st_succ]
      have := law_2 (a := a) (good := rsL c n) (E := { nx := fun δ => δ = [.val a, .val (.lst (xs.map .int)), .no, .no, .val (.int n), .no, .no, .no, .no, .val (.tup ((rsL c n).map .int)), .no, .no, .no, .no, .no, .no, .no, .no, .no, .no], rt := E.rt, rn := E.rn, bk := E.nx, ct := fun δ => δ = [.val a, .val (.lst (xs.map .int)), .no, .no, .val (.int n), .no, .no, .no, .no, .val (.tup ((rsL c n).map .int)), .no, .no, .no, .no, .no, .no, .no, .no, .no, .no] }) hx hi (by omega) (by omega) (by rw [gl])
      rw [gl] at this
      exact this
    · rintro _ rfl
      exact hE _
theorem law_4 {ns xs : List Int} {i : Nat} {E : En} (hx : xs.length = 40) (hi : i < 3)
    (hE : E.nx [.val (.lst (ns.map .int)), .val (.lst (xs.map .int)), .no, .no, .no, .no, .no, .no, .no, .no, .no, .no, .no, .no, .no, .no, .no, .no, .no, .no]) :
    b_law_4 E [.val (.lst (ns.map .int)), .val (.lst (xs.map .int)), .val (.int (0 + (i : Int))), .no, .no, .no, .no, .no, .no, .no, .no, .no, .no, .no, .no, .no, .no, .no, .no, .no] := by
  unfold b_law_4
  rw [Int.zero_add]
  refine end_hide fun E' e1 _ => ?_
  refine seq_hide fun N1 g1 => ?_
  simp_wf
  refine ⟨ns, _, rfl, by omega, by omega, fun z => ?_⟩
  refine ⟨z, 20, rfl, by omega, by omega, fun ps hp _ => ?_⟩
  have hp : ps.length = 20 := by omega
  refine g1 _ (seq_hide fun N2 g2 => ?_)
  simp_wf
  refine at_k (ns := ps) (k := 0) rfl (by omega) ?_
  simp_wf
  obtain ⟨n, en, n1, n5⟩ : ∃ n : Nat, 1 + ps.getD 0 0 % 5 = n ∧ 1 ≤ n ∧ n ≤ 5 := ⟨(1 + ps.getD 0 0 % 5).toNat, by omega, by omega, by omega⟩
  rw [en]
  refine g2 _ (seq_hide fun N3 g3 => ?_)
  simp_wf
  refine at_k (ns := ps) (k := 1) rfl (by omega) ?_
  simp_wf
  obtain ⟨count, ec, c1, c12⟩ : ∃ n : Nat, 1 + ps.getD 1 0 % 12 = n ∧ 1 ≤ n ∧ n ≤ 12 := ⟨(1 + ps.getD 1 0 % 12).toNat, by omega, by omega, by omega⟩
  rw [ec]
  refine g3 _ (seq_hide fun N4 g4 => ?_)
  clear g1 g2 g3 en ec
  simp_wf
  rw [cut_drop (ps.map D.int) (c := 2) (k := 2) rfl, ← List.map_drop]
  have em : (if (4 : Int) < (n : Int) then (4 : Int) else n) = ((min n 4 : Nat) : Int) := by split <;> omega
  rw [em]
  refine ⟨ps.drop 2, min n 4, 2, rfl, by rw [List.length_drop]; omega, by omega, by omega, by omega, fun rs rl rr => ?_⟩
  refine g4 _ (seq_hide fun N5 g5 => ?_)
  simp_wf
  refine g5 _ (seq_hide fun N6 g6 => ?_)
  clear g4 g5
  simp_wf
  refine for_enc D.int (xs := rs) (fun j δ => δ = [.val (.lst (ns.map .int)), .val (.lst (xs.map .int)), .no, .val (.lst (ps.map .int)), .val (.int n), .val (.int count), .val (.tup (rs.map .int)), .val (.tup ((curveOf (rs.take j)).map .int)), .no, .no, .no, .no, .no, .no, .no, .no, .no, .no, .no, .no]) rfl ?_ ?_
  · rintro j x _ hj rfl
    have ps' := prefix_sm (rs := rs.take j) (by rw [List.length_take]; omega) fun x hx => rr x (List.mem_of_mem_take hx)
    have ct : curveOf (rs.take (j + 1)) = timesL (curveOf (rs.take j)) [0 - x, 1] := by
      unfold curveOf
      rw [List.take_add_one, hj]
      show List.foldl _ _ (rs.take j ++ [x]) = _
      rw [List.foldl_append]; rfl
    rw [ct]
    generalize curveOf (rs.take j) = cu at *
    unfold b_law_1
    simp_wf
    refine ⟨cu, [0 - x, 1], rfl, by omega, by show 2 ≤ 100; omega, ps'.2, ?_⟩
    simp_wf
  · rintro _ rfl
    rw [List.take_length]
    refine g6 _ (law_3 hx hp n1 n5 c12 (by omega) (by omega) rr fun g => ?_)
    rw [e1]
    simp only [wp, st_zero, st_succ]
    exact hE
theorem law_5 {Q : D → Prop} {a b : D} (q : Q (.bl true)) : b_law_5 (endsOf Q) [.val a, .val b, .no, .no, .no, .no, .no, .no, .no, .no, .no, .no, .no, .no, .no, .no, .no, .no, .no, .no] := by
  unfold b_law_5
  have f1 : cfD [1, 2] = .non := by decide
  have f2 : faultD [1, 2] = .int 2 := by decide
  have f3 : ownL [3, 3] = [3, 0] := by decide
  simp_wf
  refine ⟨[1, 2], rfl, by decide, by decide, ?_⟩
  rw [f1]
  refine ⟨_, _, rfl, txtOk_n, dueOk_n, ?_⟩
  rw [decide_eq_true rfl]
  simp_wf
  refine ⟨[1, 2], rfl, by decide, ?_⟩
  rw [f2]
  refine ⟨_, _, rfl, txtOk_i, dueOk_i, ?_⟩
  rw [decide_eq_true rfl]
  simp_wf
  refine ⟨[3, 3], rfl, by decide, ?_⟩
  rw [f3]
  simp_wf
  exact q
theorem pure_law : ∀ ds Q, p_law ds Q → b_law (endsOf Q) (startP 20 ds) := by
  rintro _ Q ⟨ns, rfl, q⟩
  unfold b_law
  refine seq_hide fun N1 g1 => ?_
  simp_wf
  refine ⟨ns, 0, rfl, by omega, by omega, fun z => ?_⟩
  refine ⟨z, 40, rfl, by omega, by omega, fun xs hx hxs => ?_⟩
  refine g1 _ (seq_hide fun N2 g2 => ?_)
  simp_wf
  refine for_rngI (fun _ δ => δ = [.val (.lst (ns.map .int)), .val (.lst (xs.map .int)), .no, .no, .no, .no, .no, .no, .no, .no, .no, .no, .no, .no, .no, .no, .no, .no, .no, .no]) rfl ?_ ?_
  · rintro i _ hi rfl
    simp only [tg_nm, st_zero, st_succ]
    exact law_4 (by omega) hi rfl
  · rintro _ rfl
    exact g2 _ (law_5 q.2)
end G
namespace G
open PySem PySem.Spec PyProof.Rows L2 PL
def topS (i : Nat) : Stmt := PySem.Challenge.pw_reckonhall_k53_whole_sums_and_own_parts.main.body.getD i (.Pass ⟨0, 0, 0, 0⟩)
section
variable [Tabs] {P : Program} {w : World} {K : PySem.W.Frag} {mg : Str → Option Value} {base : Heap}
abbrev s_root_sums : Stmt := topS 1
theorem sc_root_sums : FnScope ["curve", "size", "n", "items", "sums", "k", "total", "at"] ["curve", "size"] (defScope s_root_sums) := ⟨rfl, rfl, rfl, by decide +kernel, rfl, by decide +kernel, by decide +kernel⟩
theorem ok_root_sums (T : Bi mg) {f : Addr} {fd : FuncData} (F : Fun K "root_sums" "root_sums" s_root_sums f fd) (hm : mg "root_sums" = some (.ref f)) (hb : L2.Binds K fd ["curve", "size"] [])  : Cal P w K mg base "root_sums" 1 ["curve", "size"] p_root_sums := by
  have nd : List.Nodup (["curve", "size", "n", "items", "sums", "k", "total", "at"] : List Str) := sc_root_sums.nd
  refine ⟨f, fd, q_def F sc_root_sums 8 rfl len_root_sums (fun cdv A outer s H E hr => ?_) pure_root_sums, hm, F.kp, hb, fdat F⟩
  have hu := hr.units
  have hu2 := units65 hr
  exact (qs_cons (qs_set 2 nd (q_op k_sub (q_callB b_len (by rfl) T.len (by decide +kernel) (qa_cons (q_var 0) qa_nil)) q_int))
    (qs_cons (qs_set 3 nd (q_rev (q_var 0)))
    (qs_cons (qs_own 4 nd (qf_lst qa_nil))
    (qs_cons (qs_for [0, 1, 5, 6, 7] PassesOwn.never rfl (qi_rng2 T.range q_int (q_op k_add (q_var 1) q_int)) (qg_name 5 nd) (qss_end [0, 1, 5, 6, 7] (qs_cut [0, 1, 7] (qs_set 6 nd (q_if (q_cmpT k_le (q_var 5) (q_var 2) (nomark _)) (q_op k_mul (q_var 5) (q_ix k_ix (q_var 3) (q_var 5) (fun _ _ => rfl))) q_int))
    (qs_cons (qs_for [0, 1, 7] PassesOwn.never rfl (qi_rng2 T.range q_int (q_op k_add (q_callB (b_min2 rfl) (by rfl) T.min (by decide +kernel) (qa_cons (q_op k_sub (q_var 5) q_int) (qa_cons (q_var 2) qa_nil))) q_int)) (qg_name 7 nd) (qss_end [0, 1, 7] (qs_one (qs_aug 6 k_addI nd (q_op k_mul (q_ix k_ix (q_var 3) (q_var 7) (fun _ _ => rfl)) (q_ixS 4 (q_op k_sub (q_op k_sub (q_var 5) (q_var 7)) q_int) (fun _ _ => rfl)))))))
    (qs_one (qs_app 4 (q_un k_neg (q_var 6))))))))
    (qs_one (qs_ret (q_tupleS T.tuple 4)))))))
abbrev s_own_parts : Stmt := topS 2
theorem sc_own_parts : FnScope ["sums", "parts", "k", "d"] ["sums"] (defScope s_own_parts) := ⟨rfl, rfl, rfl, by decide +kernel, rfl, by decide +kernel, by decide +kernel⟩
theorem ok_own_parts (T : Bi mg) {f : Addr} {fd : FuncData} (F : Fun K "own_parts" "own_parts" s_own_parts f fd) (hm : mg "own_parts" = some (.ref f)) (hb : L2.Binds K fd ["sums"] [])  : Cal P w K mg base "own_parts" 1 ["sums"] p_own_parts := by
  have nd : List.Nodup (["sums", "parts", "k", "d"] : List Str) := sc_own_parts.nd
  refine ⟨f, fd, q_def F sc_own_parts 4 rfl len_own_parts (fun cdv A outer s H E hr => ?_) pure_own_parts, hm, F.kp, hb, fdat F⟩
  have hu := hr.units
  have hu2 := units65 hr
  exact (qs_cons (qs_own 1 nd (qf_lst qa_nil))
    (qs_cons (qs_for [2, 3] PassesOwn.never rfl (qi_rng2 T.range q_int (q_op k_add (q_callB b_len (by rfl) T.len (by decide +kernel) (qa_cons (q_var 0) qa_nil)) q_int)) (qg_name 2 nd) (qss_end [2, 3] (qs_one (qs_app 1 (q_op k_sub (q_ix k_ix (q_var 0) (q_op k_sub (q_var 2) q_int) (fun _ _ => rfl)) (q_callB (b_sumS rfl) (by rfl) T.sum (by decide +kernel) (qa_cons (q_fr (qf_lc (own := [("d", 3)]) rfl nd (qi_rng2 T.range q_int (q_var 2)) (blkOk_by (by kernel_rfl)) (by decide) (fun _ _ _ _ _ => (qg_name 3 nd)) (fun _ _ _ _ _ => qts_one (q_cmpT (k_eq hu) (q_op k_mod (q_var 2) (q_var 3)) q_int (nomark _))) (fun _ _ _ _ _ => (q_ixS 1 (q_op k_sub (q_var 3) q_int) (fun _ _ => rfl))))) qa_nil)))))))
    (qs_one (qs_ret (q_tupleS T.tuple 1)))))
abbrev s_sums_fault : Stmt := topS 3
theorem sc_sums_fault : FnScope ["sums", "at", "part"] ["sums"] (defScope s_sums_fault) := ⟨rfl, rfl, rfl, by decide +kernel, rfl, by decide +kernel, by decide +kernel⟩
theorem ok_sums_fault (T : Bi mg) {f : Addr} {fd : FuncData} (F : Fun K "sums_fault" "sums_fault" s_sums_fault f fd) (hm : mg "sums_fault" = some (.ref f)) (hb : L2.Binds K fd ["sums"] []) (C_own_parts : Cal P w K mg base "own_parts" 1 ["sums"] p_own_parts) : Cal P w K mg base "sums_fault" 2 ["sums"] p_sums_fault := by
  have nd : List.Nodup (["sums", "at", "part"] : List Str) := sc_sums_fault.nd
  refine ⟨f, fd, q_def F sc_sums_fault 3 rfl len_sums_fault (fun cdv A outer s H E hr => ?_) pure_sums_fault, hm, F.kp, hb, fdat F⟩
  have hu := hr.units
  have hu2 := units65 hr
  exact (qs_cons (qs_for [0, 1, 2] PassesOwn.never rfl (qi_enum T.enumerate (q_callC C_own_parts (hr.mono (by decide)) (qa_cons (q_var 0) qa_nil))) (qg_tup rfl (qgs_cons (qg_name 1 nd) (qgs_cons (qg_name 2 nd) qgs_nil))) (qss_end [0, 1, 2] (qs_one (qs_if (q_cmpT (k_ne hu) (q_op k_mod (q_var 2) (q_op k_add (q_var 1) q_int)) q_int (nomark _)) (qs_one (qs_ret (q_op k_add (q_var 1) q_int))) qs_nil))))
    (qs_one (qs_ret q_non)))
abbrev s_curve_from_sums : Stmt := topS 4
theorem sc_curve_from_sums : FnScope ["sums", "items", "k", "total", "at"] ["sums"] (defScope s_curve_from_sums) := ⟨rfl, rfl, rfl, by decide +kernel, rfl, by decide +kernel, by decide +kernel⟩
theorem ok_curve_from_sums (T : Bi mg) {f : Addr} {fd : FuncData} (F : Fun K "curve_from_sums" "curve_from_sums" s_curve_from_sums f fd) (hm : mg "curve_from_sums" = some (.ref f)) (hb : L2.Binds K fd ["sums"] [])  : Cal P w K mg base "curve_from_sums" 1 ["sums"] p_curve_from_sums := by
  have nd : List.Nodup (["sums", "items", "k", "total", "at"] : List Str) := sc_curve_from_sums.nd
  refine ⟨f, fd, q_def F sc_curve_from_sums 5 rfl len_curve_from_sums (fun cdv A outer s H E hr => ?_) pure_curve_from_sums, hm, F.kp, hb, fdat F⟩
  have hu := hr.units
  have hu2 := units65 hr
  exact (qs_cons (qs_own 1 nd (qf_lst (qa_cons q_int qa_nil)))
    (qs_cons (qs_for [2, 3, 4] PassesOwn.never rfl (qi_rng2 T.range q_int (q_op k_add (q_callB b_len (by rfl) T.len (by decide +kernel) (qa_cons (q_var 0) qa_nil)) q_int)) (qg_name 2 nd) (qss_end [2, 3, 4] (qs_cons (qs_set 3 nd (q_callB (b_sumS rfl) (by rfl) T.sum (by decide +kernel) (qa_cons (q_fr (qf_lc (own := [("at", 4)]) rfl nd (qi_rng1 T.range (q_var 2)) (blkOk_by (by kernel_rfl)) (by decide) (fun _ _ _ _ _ => (qg_name 4 nd)) (fun _ _ _ _ _ => qts_nil) (fun _ _ _ _ _ => (q_op k_mul (q_ixS 1 (q_var 4) (fun _ _ => rfl)) (q_ix k_ix (q_var 0) (q_op k_sub (q_op k_sub (q_var 2) (q_var 4)) q_int) (fun _ _ => rfl)))))) qa_nil)))
    (qs_cons (qs_if (q_cmpT (k_ne hu) (q_op k_mod (q_var 3) (q_var 2)) q_int (nomark _)) (qs_one (qs_ret q_non)) qs_nil)
    (qs_one (qs_app 1 (q_un k_neg (q_op k_fdiv (q_var 3) (q_var 2)))))))))
    (qs_one (qs_frz 1 (qs_ret (q_callTy b_tuple (by rfl) T.tuple (by decide +kernel) (qa_cons (q_rev (q_var 1)) qa_nil)))))))
abbrev s__law_cell : Stmt := topS 6
theorem sc__law_cell : FnScope ["script", "k"] ["script", "k"] (defScope s__law_cell) := ⟨rfl, rfl, rfl, by decide +kernel, rfl, by decide +kernel, by decide +kernel⟩
theorem ok__law_cell (T : Bi mg) {f : Addr} {fd : FuncData} (F : Fun K "_law_cell" "_law_cell" s__law_cell f fd) (hm : mg "_law_cell" = some (.ref f)) (hb : L2.Binds K fd ["script", "k"] [])  : Cal P w K mg base "_law_cell" 1 ["script", "k"] p__law_cell := by
  have nd : List.Nodup (["script", "k"] : List Str) := sc__law_cell.nd
  refine ⟨f, fd, q_def F sc__law_cell 2 rfl len__law_cell (fun cdv A outer s H E hr => ?_) pure__law_cell, hm, F.kp, hb, fdat F⟩
  have hu := hr.units
  have hu2 := units65 hr
  exact (qs_cons (qs_if (q_cmpT k_lt (q_var 1) (q_callB b_len (by rfl) T.len (by decide +kernel) (qa_cons (q_var 0) qa_nil)) (nomark _)) (qs_one (qs_ret (q_ix k_ix (q_var 0) (q_var 1) (fun _ _ => rfl)))) qs_nil)
    (qs_one (qs_ret (q_op k_add (q_op k_mul q_int (q_var 1)) q_int))))
abbrev s__law_draws : Stmt := topS 7
theorem sc__law_draws : FnScope ["cell", "count", "rest", "digits", "seed", "draws", "k", "mixed"] ["cell", "count"] (defScope s__law_draws) := ⟨rfl, rfl, rfl, by decide +kernel, rfl, by decide +kernel, by decide +kernel⟩
theorem ok__law_draws (T : Bi mg) {f : Addr} {fd : FuncData} (F : Fun K "_law_draws" "_law_draws" s__law_draws f fd) (hm : mg "_law_draws" = some (.ref f)) (hb : L2.Binds K fd ["cell", "count"] [])  : Cal P w K mg base "_law_draws" 1 ["cell", "count"] p__law_draws := by
  have nd : List.Nodup (["cell", "count", "rest", "digits", "seed", "draws", "k", "mixed"] : List Str) := sc__law_draws.nd
  refine ⟨f, fd, q_def F sc__law_draws 8 rfl len__law_draws (fun cdv A outer s H E hr => ?_) pure__law_draws, hm, F.kp, hb, fdat F⟩
  have hu := hr.units
  have hu2 := units65 hr
  exact (qs_cons (qs_set 2 nd (q_callB b_abs (by rfl) T.abs (by decide +kernel) (qa_cons (q_callTy b_int (by rfl) T.int (by decide +kernel) (qa_cons (q_var 0) qa_nil)) qa_nil)))
    (qs_cons (qs_set 3 nd (q_cmp k_ge (q_var 2) (q_op k_pow q_int q_int) (nomark _)))
    (qs_cons (qs_set 4 nd (q_var 2))
    (qs_cons (qs_own 5 nd (qf_lst qa_nil))
    (qs_cons (qs_for [0, 1, 6, 7] PassesOwn.never rfl (qi_rng1 T.range (q_var 1)) (qg_name 6 nd) (qss_end [0, 1, 6, 7] (qs_one (qs_if (q_wt (q_and (q_tru (q_var 3)) (q_and1 (q_cmpT k_gt (q_var 2) q_int (nomark _))))) (qs_cons (qs_app 5 (q_op k_mod (q_callTy b_int (by rfl) T.int (by decide +kernel) (qa_cons (q_var 2) qa_nil)) q_int))
    (qs_one (qs_set 2 nd (q_op k_fdiv (q_var 2) q_int)))) (qs_cons (qs_set 7 nd (q_op k_mod (q_callTy b_int (by rfl) T.int (by decide +kernel) (qa_cons (q_op k_add (q_op k_add (q_op k_mul (q_var 4) q_int) (q_op k_mul (q_op k_add (q_var 6) q_int) q_int)) q_int) qa_nil)) q_int))
    (qs_cons (qs_set 7 nd (q_op k_mod (q_callTy b_int (by rfl) T.int (by decide +kernel) (qa_cons (q_op k_add (q_op k_mul (q_var 7) (q_var 7)) (q_op k_mul q_int (q_op k_add (q_var 6) q_int))) qa_nil)) q_int))
    (qs_one (qs_app 5 (q_op k_mod (q_callTy b_int (by rfl) T.int (by decide +kernel) (qa_cons (q_op k_fdiv (q_var 7) q_int) qa_nil)) q_int)))))))))
    (qs_one (qs_frz 5 (qs_ret (q_var 5)))))))))
abbrev s__law_is_integer : Stmt := topS 8
theorem sc__law_is_integer : FnScope ["value"] ["value"] (defScope s__law_is_integer) := ⟨rfl, rfl, rfl, by decide +kernel, rfl, by decide +kernel, by decide +kernel⟩
theorem ok__law_is_integer (T : Bi mg) {f : Addr} {fd : FuncData} (F : Fun K "_law_is_integer" "_law_is_integer" s__law_is_integer f fd) (hm : mg "_law_is_integer" = some (.ref f)) (hb : L2.Binds K fd ["value"] [])  : Cal P w K mg base "_law_is_integer" 1 ["value"] p__law_is_integer := by
  have nd : List.Nodup (["value"] : List Str) := sc__law_is_integer.nd
  refine ⟨f, fd, q_def F sc__law_is_integer 1 rfl len__law_is_integer (fun cdv A outer s H E hr => ?_) pure__law_is_integer, hm, F.kp, hb, fdat F⟩
  have hu := hr.units
  have hu2 := units65 hr
  exact (qs_one (qs_ret (q_andV (q_isI .int (q_var 0) T.isinstance T.int (by decide +kernel)) (q_one (q_not (q_isI .bool (q_var 0) T.isinstance T.bool (by decide +kernel)))))))
abbrev s__law_is : Stmt := topS 9
theorem sc__law_is : FnScope ["value", "due", "at"] ["value", "due"] (defScope s__law_is) := ⟨rfl, rfl, rfl, by decide +kernel, rfl, by decide +kernel, by decide +kernel⟩
theorem ok__law_is (T : Bi mg) {f : Addr} {fd : FuncData} (F : Fun K "_law_is" "_law_is" s__law_is f fd) (hm : mg "_law_is" = some (.ref f)) (hb : L2.Binds K fd ["value", "due"] []) (C__law_is_integer : Cal P w K mg base "_law_is_integer" 1 ["value"] p__law_is_integer) : Cal P w K mg base "_law_is" 14 ["value", "due"] p__law_is := by
  have nd : List.Nodup (["value", "due", "at"] : List Str) := sc__law_is.nd
  have all : ∀ n, Cal P w K mg base "_law_is" (n + 2) ["value", "due"] (pr__law_is n) := by
    intro n
    induction n with
    | zero => exact cal_zero hm F.kp hb (fdat F) fun ds Q h => (zero__law_is ds Q h).elim
    | succ n C_self =>
      refine ⟨f, fd, q_def F sc__law_is 3 rfl len__law_is (fun cdv A outer s H E hr => ?_) (pure__law_is n), hm, F.kp, hb, fdat F⟩
      have hu := hr.units
      have hu2 := units65 hr
      exact (qs_cons (qs_if (q_isNT (q_var 1)) (qs_one (qs_ret (q_isN (q_var 0)))) qs_nil)
    (qs_cons (qs_if (q_tru (q_isI .bool (q_var 1) T.isinstance T.bool (by decide +kernel))) (qs_one (qs_ret (q_andV (q_isI .bool (q_var 0) T.isinstance T.bool (by decide +kernel)) (q_one (q_cmp (k_eq hu) (q_var 0) (q_var 1) (nomark _)))))) qs_nil)
    (qs_cons (qs_if (q_tru (q_isI .int (q_var 1) T.isinstance T.int (by decide +kernel))) (qs_one (qs_ret (q_andV (q_callC C__law_is_integer (hr.mono (by omega)) (qa_cons (q_var 0) qa_nil)) (q_one (q_cmp (k_eq hu) (q_var 0) (q_var 1) (nomark _)))))) qs_nil)
    (qs_cons (qs_if (q_tru (q_isI .str (q_var 1) T.isinstance T.str (by decide +kernel))) (qs_one (qs_ret (q_andV (q_isI .str (q_var 0) T.isinstance T.str (by decide +kernel)) (q_one (q_cmp (k_eq hu) (q_var 0) (q_var 1) (nomark _)))))) qs_nil)
    (qs_cons (qs_if (q_wt (q_or (q_notT (q_tru (q_isI .tuple (q_var 0) T.isinstance T.tuple (by decide +kernel)))) (q_or1 (q_cmpT (k_ne hu) (q_callB b_len (by rfl) T.len (by decide +kernel) (qa_cons (q_var 0) qa_nil)) (q_callB b_len (by rfl) T.len (by decide +kernel) (qa_cons (q_var 1) qa_nil)) (nomark _))))) (qs_one (qs_ret q_bl)) qs_nil)
    (qs_one (qs_ret (q_callB (b_all rfl) (by rfl) T.all (by decide +kernel) (qa_cons (q_fr (qf_lc (own := [("at", 2)]) rfl nd (qi_rng1 T.range (q_callB b_len (by rfl) T.len (by decide +kernel) (qa_cons (q_var 1) qa_nil))) (blkOk_by (by kernel_rfl)) (by decide) (fun _ _ _ _ _ => (qg_name 2 nd)) (fun _ _ _ _ _ => qts_nil) (fun _ _ _ _ _ => (q_callC C_self hr (qa_cons (q_ix k_ix (q_var 0) (q_var 2) (fun _ _ => rfl)) (qa_cons (q_ix k_ix (q_var 1) (q_var 2) (fun _ _ => rfl)) qa_nil)))))) qa_nil)))))))))
  exact (all 12).imp from__law_is
abbrev s__law_is_integers : Stmt := topS 10
theorem sc__law_is_integers : FnScope ["value", "number"] ["value"] (defScope s__law_is_integers) := ⟨rfl, rfl, rfl, by decide +kernel, rfl, by decide +kernel, by decide +kernel⟩
theorem ok__law_is_integers (T : Bi mg) {f : Addr} {fd : FuncData} (F : Fun K "_law_is_integers" "_law_is_integers" s__law_is_integers f fd) (hm : mg "_law_is_integers" = some (.ref f)) (hb : L2.Binds K fd ["value"] []) (C__law_is_integer : Cal P w K mg base "_law_is_integer" 1 ["value"] p__law_is_integer) : Cal P w K mg base "_law_is_integers" 2 ["value"] p__law_is_integers := by
  have nd : List.Nodup (["value", "number"] : List Str) := sc__law_is_integers.nd
  refine ⟨f, fd, q_def F sc__law_is_integers 2 rfl len__law_is_integers (fun cdv A outer s H E hr => ?_) pure__law_is_integers, hm, F.kp, hb, fdat F⟩
  have hu := hr.units
  have hu2 := units65 hr
  exact (qs_one (qs_ret (q_andV (q_isI .tuple (q_var 0) T.isinstance T.tuple (by decide +kernel)) (q_one (q_callB (b_all rfl) (by rfl) T.all (by decide +kernel) (qa_cons (q_fr (qf_lc (own := [("number", 1)]) rfl nd (qi_seq (q_var 0)) (blkOk_by (by kernel_rfl)) (by decide) (fun _ _ _ _ _ => (qg_name 1 nd)) (fun _ _ _ _ _ => qts_nil) (fun _ _ _ _ _ => (q_callC C__law_is_integer (hr.mono (by decide)) (qa_cons (q_var 1) qa_nil))))) qa_nil))))))
abbrev s__law_times : Stmt := topS 11
theorem sc__law_times : FnScope ["one", "other", "items", "i", "j"] ["one", "other"] (defScope s__law_times) := ⟨rfl, rfl, rfl, by decide +kernel, rfl, by decide +kernel, by decide +kernel⟩
theorem ok__law_times (T : Bi mg) {f : Addr} {fd : FuncData} (F : Fun K "_law_times" "_law_times" s__law_times f fd) (hm : mg "_law_times" = some (.ref f)) (hb : L2.Binds K fd ["one", "other"] []) (C__law_cut : Cal P w K mg base "_law_cut" 1 ["items"] p__law_cut) : Cal P w K mg base "_law_times" 2 ["one", "other"] p__law_times := by
  have nd : List.Nodup (["one", "other", "items", "i", "j"] : List Str) := sc__law_times.nd
  refine ⟨f, fd, q_def F sc__law_times 5 rfl len__law_times (fun cdv A outer s H E hr => ?_) pure__law_times, hm, F.kp, hb, fdat F⟩
  have hu := hr.units
  have hu2 := units65 hr
  exact (qs_cons (qs_own 2 nd (qf_rep (qf_lst (qa_cons q_int qa_nil)) (q_op k_add (q_callB b_len (by rfl) T.len (by decide +kernel) (qa_cons (q_var 0) qa_nil)) (q_callB b_len (by rfl) T.len (by decide +kernel) (qa_cons (q_var 1) qa_nil)))))
    (qs_cons (qs_for [3, 4] PassesOwn.never rfl (qi_rng1 T.range (q_callB b_len (by rfl) T.len (by decide +kernel) (qa_cons (q_var 0) qa_nil))) (qg_name 3 nd) (qss_end [3, 4] (qs_one (qs_for [4] PassesOwn.never rfl (qi_rng1 T.range (q_callB b_len (by rfl) T.len (by decide +kernel) (qa_cons (q_var 1) qa_nil))) (qg_name 4 nd) (qss_end [4] (qs_one (qs_sub 2 (q_op k_add (q_ixS 2 (q_op k_add (q_var 3) (q_var 4)) (fun _ _ => rfl)) (q_op k_mul (q_ix k_ix (q_var 0) (q_var 3) (fun _ _ => rfl)) (q_ix k_ix (q_var 1) (q_var 4) (fun _ _ => rfl)))) (q_op k_add (q_var 3) (q_var 4)))))))))
    (qs_one (qs_frz 2 (qs_ret (q_callC C__law_cut (hr.mono (by decide)) (qa_cons (q_var 2) qa_nil)))))))
abbrev s__law_cut : Stmt := topS 12
theorem sc__law_cut : FnScope ["items", "size", "at"] ["items"] (defScope s__law_cut) := ⟨rfl, rfl, rfl, by decide +kernel, rfl, by decide +kernel, by decide +kernel⟩
theorem ok__law_cut (T : Bi mg) {f : Addr} {fd : FuncData} (F : Fun K "_law_cut" "_law_cut" s__law_cut f fd) (hm : mg "_law_cut" = some (.ref f)) (hb : L2.Binds K fd ["items"] [])  : Cal P w K mg base "_law_cut" 1 ["items"] p__law_cut := by
  have nd : List.Nodup (["items", "size", "at"] : List Str) := sc__law_cut.nd
  refine ⟨f, fd, q_def F sc__law_cut 3 rfl len__law_cut (fun cdv A outer s H E hr => ?_) pure__law_cut, hm, F.kp, hb, fdat F⟩
  have hu := hr.units
  have hu2 := units65 hr
  exact (qs_cons (qs_set 1 nd (q_callB (b_maxS rfl) (by rfl) T.max (by decide +kernel) (qa_cons (q_op k_add (q_fr (qf_lst (qa_cons q_int qa_nil))) (q_fr (qf_lc (own := [("at", 2)]) rfl nd (qi_rng1 T.range (q_callB b_len (by rfl) T.len (by decide +kernel) (qa_cons (q_var 0) qa_nil))) (blkOk_by (by kernel_rfl)) (by decide) (fun _ _ _ _ _ => (qg_name 2 nd)) (fun _ _ _ _ _ => qts_one (q_cmpT (k_ne hu) (q_ix k_ix (q_var 0) (q_var 2) (fun _ _ => rfl)) q_int (nomark _))) (fun _ _ _ _ _ => (q_op k_add (q_var 2) q_int))))) qa_nil)))
    (qs_one (qs_ret (q_callTy b_tuple (by rfl) T.tuple (by decide +kernel) (qa_cons (q_slice (q_var 0) qo_none (qo_some (q_var 1))) qa_nil)))))
abbrev s__law_height : Stmt := topS 13
theorem sc__law_height : FnScope ["items", "item"] ["items"] (defScope s__law_height) := ⟨rfl, rfl, rfl, by decide +kernel, rfl, by decide +kernel, by decide +kernel⟩
theorem ok__law_height (T : Bi mg) {f : Addr} {fd : FuncData} (F : Fun K "_law_height" "_law_height" s__law_height f fd) (hm : mg "_law_height" = some (.ref f)) (hb : L2.Binds K fd ["items"] [])  : Cal P w K mg base "_law_height" 1 ["items"] p__law_height := by
  have nd : List.Nodup (["items", "item"] : List Str) := sc__law_height.nd
  refine ⟨f, fd, q_def F sc__law_height 2 rfl len__law_height (fun cdv A outer s H E hr => ?_) pure__law_height, hm, F.kp, hb, fdat F⟩
  have hu := hr.units
  have hu2 := units65 hr
  exact (qs_one (qs_ret (q_callB (b_maxS rfl) (by rfl) T.max (by decide +kernel) (qa_cons (q_op k_add (q_fr (qf_lst (qa_cons q_int qa_nil))) (q_fr (qf_lc (own := [("item", 1)]) rfl nd (qi_seq (q_var 0)) (blkOk_by (by kernel_rfl)) (by decide) (fun _ _ _ _ _ => (qg_name 1 nd)) (fun _ _ _ _ _ => qts_nil) (fun _ _ _ _ _ => (q_callB b_abs (by rfl) T.abs (by decide +kernel) (qa_cons (q_var 1) qa_nil)))))) qa_nil))))
abbrev s__law_traces : Stmt := topS 14
theorem sc__law_traces : FnScope ["curve", "count", "n", "step", "here", "found", "turn", "i", "j", "row", "k"] ["curve", "count"] (defScope s__law_traces) := ⟨rfl, rfl, rfl, by decide +kernel, rfl, by decide +kernel, by decide +kernel⟩
theorem ok__law_traces (T : Bi mg) {f : Addr} {fd : FuncData} (F : Fun K "_law_traces" "_law_traces" s__law_traces f fd) (hm : mg "_law_traces" = some (.ref f)) (hb : L2.Binds K fd ["curve", "count"] [])  : Cal P w K mg base "_law_traces" 1 ["curve", "count"] p__law_traces := by
  have nd : List.Nodup (["curve", "count", "n", "step", "here", "found", "turn", "i", "j", "row", "k"] : List Str) := sc__law_traces.nd
  refine ⟨f, fd, q_def F sc__law_traces 11 rfl len__law_traces (fun cdv A outer s H E hr => ?_) pure__law_traces, hm, F.kp, hb, fdat F⟩
  have hu := hr.units
  have hu2 := units65 hr
  exact (qs_cons (qs_set 2 nd (q_op k_sub (q_callB b_len (by rfl) T.len (by decide +kernel) (qa_cons (q_var 0) qa_nil)) q_int))
    (qs_cons (qs_own 3 nd (qf_lc (own := [("i", 7)]) rfl nd (qi_rng1 T.range (q_op k_sub (q_var 2) q_int)) (blkOk_by (by kernel_rfl)) (by decide) (fun _ _ _ _ _ => (qg_name 7 nd)) (fun _ _ _ _ _ => qts_nil) (fun _ _ _ _ _ => (q_fr (qf_lc (own := [("j", 8)]) rfl nd (qi_rng1 T.range (q_var 2)) (blkOk_by (by kernel_rfl)) (by decide) (fun _ _ _ _ _ => (qg_name 8 nd)) (fun _ _ _ _ _ => qts_nil) (fun _ _ _ _ _ => (q_if (q_cmpT (k_eq hu) (q_var 8) (q_op k_add (q_var 7) q_int) (nomark _)) q_int q_int)))))))
    (qs_cons (qs_app 3 (q_fr (qf_lc (own := [("j", 8)]) rfl nd (qi_rng1 T.range (q_var 2)) (blkOk_by (by kernel_rfl)) (by decide) (fun _ _ _ _ _ => (qg_name 8 nd)) (fun _ _ _ _ _ => qts_nil) (fun _ _ _ _ _ => (q_op k_sub q_int (q_ix k_ix (q_var 0) (q_var 8) (fun _ _ => rfl)))))))
    (qs_cons (qs_set 4 nd (q_fr (qf_lc (own := [("i", 7)]) rfl nd (qi_rng1 T.range (q_var 2)) (blkOk_by (by kernel_rfl)) (by decide) (fun _ _ _ _ _ => (qg_name 7 nd)) (fun _ _ _ _ _ => qts_nil) (fun _ _ _ _ _ => (q_fr (qf_lc (own := [("j", 8)]) rfl nd (qi_rng1 T.range (q_var 2)) (blkOk_by (by kernel_rfl)) (by decide) (fun _ _ _ _ _ => (qg_name 8 nd)) (fun _ _ _ _ _ => qts_nil) (fun _ _ _ _ _ => (q_if (q_cmpT (k_eq hu) (q_var 8) (q_var 7) (nomark _)) q_int q_int))))))))
    (qs_cons (qs_own 5 nd (qf_lst qa_nil))
    (qs_cons (qs_for [0, 1, 6, 7, 8, 9, 10] PassesOwn.never rfl (qi_rng1 T.range (q_var 1)) (qg_name 6 nd) (qss_end [0, 1, 6, 7, 8, 9, 10] (qs_cons (qs_set 4 nd (q_fr (qf_lc (own := [("row", 9)]) rfl nd (qi_seq (q_var 4)) (blkOk_by (by kernel_rfl)) (by decide) (fun _ _ _ _ _ => (qg_name 9 nd)) (fun _ _ _ _ _ => qts_nil) (fun _ _ _ _ _ => (q_fr (qf_lc (own := [("j", 8)]) rfl nd (qi_rng1 T.range (q_var 2)) (blkOk_by (by kernel_rfl)) (by decide) (fun _ _ _ _ _ => (qg_name 8 nd)) (fun _ _ _ _ _ => qts_nil) (fun _ _ _ _ _ => (q_callB (b_sumS rfl) (by rfl) T.sum (by decide +kernel) (qa_cons (q_fr (qf_lc (own := [("k", 10)]) rfl nd (qi_rng1 T.range (q_var 2)) (blkOk_by (by kernel_rfl)) (by decide) (fun _ _ _ _ _ => (qg_name 10 nd)) (fun _ _ _ _ _ => qts_nil) (fun _ _ _ _ _ => (q_op k_mulX (q_ix k_ix (q_var 9) (q_var 10) (fun _ _ => rfl)) (q_ix k_ix (q_ixS 3 (q_var 10) (fun _ _ => rfl)) (q_var 8) (fun _ _ => rfl)))))) qa_nil)))))))))
    (qs_one (qs_app 5 (q_callB (b_sumS rfl) (by rfl) T.sum (by decide +kernel) (qa_cons (q_fr (qf_lc (own := [("i", 7)]) rfl nd (qi_rng1 T.range (q_var 2)) (blkOk_by (by kernel_rfl)) (by decide) (fun _ _ _ _ _ => (qg_name 7 nd)) (fun _ _ _ _ _ => qts_nil) (fun _ _ _ _ _ => (q_ix k_ix (q_ix k_ix (q_var 4) (q_var 7) (fun _ _ => rfl)) (q_var 7) (fun _ _ => rfl))))) qa_nil)))))))
    (qs_one (qs_ret (q_tupleS T.tuple 5)))))))))
abbrev s__law_drawn : Stmt := topS 15
theorem sc__law_drawn : FnScope ["draws", "size", "wide", "at"] ["draws", "size", "wide"] (defScope s__law_drawn) := ⟨rfl, rfl, rfl, by decide +kernel, rfl, by decide +kernel, by decide +kernel⟩
theorem ok__law_drawn (T : Bi mg) {f : Addr} {fd : FuncData} (F : Fun K "_law_drawn" "_law_drawn" s__law_drawn f fd) (hm : mg "_law_drawn" = some (.ref f)) (hb : L2.Binds K fd ["draws", "size", "wide"] [])  : Cal P w K mg base "_law_drawn" 1 ["draws", "size", "wide"] p__law_drawn := by
  have nd : List.Nodup (["draws", "size", "wide", "at"] : List Str) := sc__law_drawn.nd
  refine ⟨f, fd, q_def F sc__law_drawn 4 rfl len__law_drawn (fun cdv A outer s H E hr => ?_) pure__law_drawn, hm, F.kp, hb, fdat F⟩
  have hu := hr.units
  have hu2 := units65 hr
  exact (qs_one (qs_ret (q_callTy b_tuple (by rfl) T.tuple (by decide +kernel) (qa_cons (q_fr (qf_lc (own := [("at", 3)]) rfl nd (qi_rng1 T.range (q_var 1)) (blkOk_by (by kernel_rfl)) (by decide) (fun _ _ _ _ _ => (qg_name 3 nd)) (fun _ _ _ _ _ => qts_nil) (fun _ _ _ _ _ => (q_op k_sub (q_op k_mod (q_callTy b_int (by rfl) T.int (by decide +kernel) (qa_cons (q_ix k_ix (q_var 0) (q_var 3) (fun _ _ => rfl)) qa_nil)) (q_op k_add (q_op k_mul q_int (q_var 2)) q_int)) (q_var 2))))) qa_nil))))
abbrev s__law_own : Stmt := topS 16
theorem sc__law_own : FnScope ["sums", "found", "k", "total", "d"] ["sums"] (defScope s__law_own) := ⟨rfl, rfl, rfl, by decide +kernel, rfl, by decide +kernel, by decide +kernel⟩
theorem ok__law_own (T : Bi mg) {f : Addr} {fd : FuncData} (F : Fun K "_law_own" "_law_own" s__law_own f fd) (hm : mg "_law_own" = some (.ref f)) (hb : L2.Binds K fd ["sums"] [])  : Cal P w K mg base "_law_own" 1 ["sums"] p__law_own := by
  have nd : List.Nodup (["sums", "found", "k", "total", "d"] : List Str) := sc__law_own.nd
  refine ⟨f, fd, q_def F sc__law_own 5 rfl len__law_own (fun cdv A outer s H E hr => ?_) pure__law_own, hm, F.kp, hb, fdat F⟩
  have hu := hr.units
  have hu2 := units65 hr
  exact (qs_cons (qs_own 1 nd (qf_lst qa_nil))
    (qs_cons (qs_for [2, 3, 4] PassesOwn.never rfl (qi_rng2 T.range q_int (q_op k_add (q_callB b_len (by rfl) T.len (by decide +kernel) (qa_cons (q_var 0) qa_nil)) q_int)) (qg_name 2 nd) (qss_end [2, 3, 4] (qs_cons (qs_set 3 nd q_int)
    (qs_cons (qs_for [4] PassesOwn.never rfl (qi_rng2 T.range q_int (q_op k_add (q_var 2) q_int)) (qg_name 4 nd) (qss_end [4] (qs_one (qs_if (q_cmpT (k_eq hu) (q_op k_mod (q_var 2) (q_var 4)) q_int (nomark _)) (qs_one (qs_set 3 nd (q_op k_add (q_var 3) (q_op k_mul (q_ix k_ix (q_tup (qa_cons q_int (qa_cons q_int (qa_cons (q_op k_sub q_int q_int) (qa_cons (q_op k_sub q_int q_int) (qa_cons q_int (qa_cons (q_op k_sub q_int q_int) (qa_cons q_int qa_nil)))))))) (q_op k_fdiv (q_var 2) (q_var 4)) (fun _ _ => rfl)) (q_ix k_ix (q_var 0) (q_op k_sub (q_var 4) q_int) (fun _ _ => rfl)))))) qs_nil))))
    (qs_one (qs_app 1 (q_var 3)))))))
    (qs_one (qs_ret (q_tupleS T.tuple 1)))))
abbrev s__law_powers : Stmt := topS 17
theorem sc__law_powers : FnScope ["roots", "count", "found", "here", "turn", "root", "at"] ["roots", "count"] (defScope s__law_powers) := ⟨rfl, rfl, rfl, by decide +kernel, rfl, by decide +kernel, by decide +kernel⟩
theorem ok__law_powers (T : Bi mg) {f : Addr} {fd : FuncData} (F : Fun K "_law_powers" "_law_powers" s__law_powers f fd) (hm : mg "_law_powers" = some (.ref f)) (hb : L2.Binds K fd ["roots", "count"] [])  : Cal P w K mg base "_law_powers" 1 ["roots", "count"] p__law_powers := by
  have nd : List.Nodup (["roots", "count", "found", "here", "turn", "root", "at"] : List Str) := sc__law_powers.nd
  refine ⟨f, fd, q_def F sc__law_powers 7 rfl len__law_powers (fun cdv A outer s H E hr => ?_) pure__law_powers, hm, F.kp, hb, fdat F⟩
  have hu := hr.units
  have hu2 := units65 hr
  exact (qs_cons (qs_own 2 nd (qf_lst qa_nil))
    (qs_cons (qs_set 3 nd (q_fr (qf_lc (own := [("root", 5)]) rfl nd (qi_seq (q_var 0)) (blkOk_by (by kernel_rfl)) (by decide) (fun _ _ _ _ _ => (qg_name 5 nd)) (fun _ _ _ _ _ => qts_nil) (fun _ _ _ _ _ => q_int))))
    (qs_cons (qs_for [1, 4, 5, 6] PassesOwn.never rfl (qi_rng1 T.range (q_var 1)) (qg_name 4 nd) (qss_end [1, 4, 5, 6] (qs_cons (qs_set 3 nd (q_fr (qf_lc (own := [("at", 6)]) rfl nd (qi_rng1 T.range (q_callB b_len (by rfl) T.len (by decide +kernel) (qa_cons (q_var 0) qa_nil))) (blkOk_by (by kernel_rfl)) (by decide) (fun _ _ _ _ _ => (qg_name 6 nd)) (fun _ _ _ _ _ => qts_nil) (fun _ _ _ _ _ => (q_op k_mul (q_ix k_ix (q_var 3) (q_var 6) (fun _ _ => rfl)) (q_ix k_ix (q_var 0) (q_var 6) (fun _ _ => rfl)))))))
    (qs_one (qs_app 2 (q_callB (b_sumS rfl) (by rfl) T.sum (by decide +kernel) (qa_cons (q_var 3) qa_nil)))))))
    (qs_one (qs_ret (q_tupleS T.tuple 2))))))
abbrev s_law : Stmt := topS 18
theorem sc_law : FnScope ["script", "draws", "k", "part", "n", "count", "roots", "curve", "root", "good", "turn", "at", "step", "asked", "own", "faulty", "least", "told", "spot", "number"] ["script"] (defScope s_law) := ⟨rfl, rfl, rfl, by decide +kernel, rfl, by decide +kernel, by decide +kernel⟩
theorem ok_law (T : Bi mg) {f : Addr} {fd : FuncData} (F : Fun K "law" "law" s_law f fd) (hm : mg "law" = some (.ref f)) (hb : L2.Binds K fd ["script"] []) (C__law_draws : Cal P w K mg base "_law_draws" 1 ["cell", "count"] p__law_draws) (C__law_cell : Cal P w K mg base "_law_cell" 1 ["script", "k"] p__law_cell) (C__law_drawn : Cal P w K mg base "_law_drawn" 1 ["draws", "size", "wide"] p__law_drawn) (C__law_traces : Cal P w K mg base "_law_traces" 1 ["curve", "count"] p__law_traces) (C__law_is : Cal P w K mg base "_law_is" 14 ["value", "due"] p__law_is) (C__law_times : Cal P w K mg base "_law_times" 2 ["one", "other"] p__law_times) (C__law_own : Cal P w K mg base "_law_own" 1 ["sums"] p__law_own) (C_curve_from_sums : Cal P w K mg base "curve_from_sums" 1 ["sums"] p_curve_from_sums) (C_sums_fault : Cal P w K mg base "sums_fault" 2 ["sums"] p_sums_fault) (C_own_parts : Cal P w K mg base "own_parts" 1 ["sums"] p_own_parts) (C_root_sums : Cal P w K mg base "root_sums" 1 ["curve", "size"] p_root_sums) (C__law_powers : Cal P w K mg base "_law_powers" 1 ["roots", "count"] p__law_powers) (C__law_height : Cal P w K mg base "_law_height" 1 ["items"] p__law_height) (C__law_is_integers : Cal P w K mg base "_law_is_integers" 2 ["value"] p__law_is_integers) : Cal P w K mg base "law" 15 ["script"] p_law := by
  have nd : List.Nodup (["script", "draws", "k", "part", "n", "count", "roots", "curve", "root", "good", "turn", "at", "step", "asked", "own", "faulty", "least", "told", "spot", "number"] : List Str) := sc_law.nd
  refine ⟨f, fd, q_def F sc_law 20 rfl len_law (fun cdv A outer s H E hr => ?_) pure_law, hm, F.kp, hb, fdat F⟩
  have hu := hr.units
  have hu2 := units65 hr
  exact (qs_cons (qs_set 1 nd (q_callC C__law_draws (hr.mono (by decide)) (qa_cons (q_callC C__law_cell (hr.mono (by decide)) (qa_cons (q_var 0) (qa_cons q_int qa_nil))) (qa_cons q_int qa_nil))))
    (qs_cons (qs_for [2, 3, 4, 5, 6, 7, 8, 9, 10, 11, 12, 13, 14, 15, 16, 17, 18, 19] PassesOwn.never rfl (qi_rng1 T.range q_int) (qg_name 2 nd) (qss_end [2, 3, 4, 5, 6, 7, 8, 9, 10, 11, 12, 13, 14, 15, 16, 17, 18, 19] (qs_cons (qs_set 3 nd (q_callC C__law_draws (hr.mono (by decide)) (qa_cons (q_callC C__law_cell (hr.mono (by decide)) (qa_cons (q_var 0) (qa_cons (q_op k_add q_int (q_var 2)) qa_nil))) (qa_cons q_int qa_nil))))
    (qs_cons (qs_set 4 nd (q_op k_add q_int (q_op k_mod (q_callTy b_int (by rfl) T.int (by decide +kernel) (qa_cons (q_ix k_ix (q_var 3) q_int (fun _ _ => rfl)) qa_nil)) q_int)))
    (qs_cons (qs_set 5 nd (q_op k_add q_int (q_op k_mod (q_callTy b_int (by rfl) T.int (by decide +kernel) (qa_cons (q_ix k_ix (q_var 3) q_int (fun _ _ => rfl)) qa_nil)) q_int)))
    (qs_cons (qs_set 6 nd (q_callC C__law_drawn (hr.mono (by decide)) (qa_cons (q_slice (q_var 3) (qo_some q_int) qo_none) (qa_cons (q_callB (b_min2 rfl) (by rfl) T.min (by decide +kernel) (qa_cons (q_var 4) (qa_cons q_int qa_nil))) (qa_cons q_int qa_nil)))))
    (qs_cons (qs_set 7 nd (q_tup (qa_cons q_int qa_nil)))
    (qs_cons (qs_for [2, 8, 9, 10, 11, 12, 13, 14, 15, 16, 17, 18, 19] PassesOwn.never rfl (qi_seq (q_var 6)) (qg_name 8 nd) (qss_end [2, 8, 9, 10, 11, 12, 13, 14, 15, 16, 17, 18, 19] (qs_one (qs_set 7 nd (q_callC C__law_times (hr.mono (by decide)) (qa_cons (q_var 7) (qa_cons (q_tup (qa_cons (q_op k_sub q_int (q_var 8)) (qa_cons q_int qa_nil))) qa_nil)))))))
    (qs_cons (qs_if (q_notT (q_tru (q_callC C__law_is (hr.mono (by decide)) (qa_cons (q_callC C_root_sums (hr.mono (by decide)) (qa_cons (q_var 7) (qa_cons (q_var 5) qa_nil))) (qa_cons (q_callC C__law_powers (hr.mono (by decide)) (qa_cons (q_var 6) (qa_cons (q_var 5) qa_nil))) qa_nil))))) (qs_one (qs_ret q_bl)) qs_nil)
    (qs_cons (qs_set 7 nd (q_op k_add (q_callC C__law_drawn (hr.mono (by decide)) (qa_cons (q_slice (q_var 3) (qo_some q_int) qo_none) (qa_cons (q_var 4) (qa_cons (q_ix k_ix (q_tup (qa_cons q_int (qa_cons q_int (qa_cons q_int qa_nil)))) (q_op k_mod (q_callTy b_int (by rfl) T.int (by decide +kernel) (qa_cons (q_ix k_ix (q_var 3) q_int (fun _ _ => rfl)) qa_nil)) q_int) (fun _ _ => rfl)) qa_nil)))) (q_tup (qa_cons q_int qa_nil))))
    (qs_cons (qs_if (q_notT (q_tru (q_callC C__law_is (hr.mono (by decide)) (qa_cons (q_callC C_root_sums (hr.mono (by decide)) (qa_cons (q_var 7) (qa_cons (q_var 5) qa_nil))) (qa_cons (q_callC C__law_traces (hr.mono (by decide)) (qa_cons (q_var 7) (qa_cons (q_var 5) qa_nil))) qa_nil))))) (qs_one (qs_ret q_bl)) qs_nil)
    (qs_cons (qs_set 9 nd (q_callC C__law_traces (hr.mono (by decide)) (qa_cons (q_var 7) (qa_cons (q_var 4) qa_nil))))
    (qs_cons (qs_if (q_notT (q_tru (q_callC C__law_is (hr.mono (by decide)) (qa_cons (q_if (q_cmpT k_lt (q_callC C__law_height (hr.mono (by decide)) (qa_cons (q_var 9) qa_nil)) q_int (nomark _)) (q_callC C_curve_from_sums (hr.mono (by decide)) (qa_cons (q_var 9) qa_nil)) (q_var 7)) (qa_cons (q_var 7) qa_nil))))) (qs_one (qs_ret q_bl)) qs_nil)
    (qs_one (qs_for [2, 3, 5, 6, 7, 8, 10, 11, 12, 13, 14, 15, 16, 17, 18, 19] PassesOwn.never rfl (qi_rng1 T.range q_int) (qg_name 10 nd) (qss_end [2, 3, 5, 6, 7, 8, 10, 11, 12, 13, 14, 15, 16, 17, 18, 19] (qs_cons (qs_set 11 nd (q_op k_mod (q_callTy b_int (by rfl) T.int (by decide +kernel) (qa_cons (q_ix k_ix (q_var 1) (q_var 10) (fun _ _ => rfl)) qa_nil)) (q_var 4)))
    (qs_cons (qs_set 12 nd (q_op k_mul (q_ix k_ix (q_tup (qa_cons q_int (qa_cons q_int (qa_cons q_int (qa_cons q_int (qa_cons q_int (qa_cons q_int (qa_cons q_int (qa_cons q_int (qa_cons (q_op k_sub q_int q_int) (qa_cons (q_op k_sub q_int q_int) qa_nil))))))))))) (q_op k_mod (q_callTy b_int (by rfl) T.int (by decide +kernel) (qa_cons (q_ix k_ix (q_var 1) (q_op k_add q_int (q_var 10)) (fun _ _ => rfl)) qa_nil)) q_int) (fun _ _ => rfl)) (q_op k_add q_int (q_op k_mod (q_callTy b_int (by rfl) T.int (by decide +kernel) (qa_cons (q_ix k_ix (q_var 1) (q_op k_add q_int (q_var 10)) (fun _ _ => rfl)) qa_nil)) q_int))))
    (qs_cons (qs_set 13 nd (q_op k_add (q_op k_add (q_slice (q_var 9) qo_none (qo_some (q_var 11))) (q_tup (qa_cons (q_op k_add (q_ix k_ix (q_var 9) (q_var 11) (fun _ _ => rfl)) (q_var 12)) qa_nil))) (q_slice (q_var 9) (qo_some (q_op k_add (q_var 11) q_int)) qo_none)))
    (qs_cut [2, 3, 5, 6, 7, 8, 11, 12, 14, 15, 16, 17, 18, 19] (qs_if (q_cmpT k_gt (q_var 10) q_int (nomark _)) (qs_one (qs_set 13 nd (q_callC C__law_drawn (hr.mono (by decide)) (qa_cons (q_slice (q_var 1) (qo_some (q_op k_sub (q_op k_mul q_int (q_var 10)) q_int)) qo_none) (qa_cons q_int (qa_cons q_int qa_nil)))))) qs_nil)
    (qs_cut [2, 3, 5, 6, 7, 8, 10, 11, 12, 14, 15, 16, 17, 18, 19] (qs_set 13 nd (q_if (q_cmpT k_lt (q_var 10) q_int (nomark _)) (q_var 13) (q_callTy b_tuple (by rfl) T.tuple (by decide +kernel) (qa_cons (q_fr (qf_lc (own := [("number", 19)]) rfl nd (qi_seq (q_var 13)) (blkOk_by (by kernel_rfl)) (by decide) (fun _ _ _ _ _ => (qg_name 19 nd)) (fun _ _ _ _ _ => qts_nil) (fun _ _ _ _ _ => (q_op k_mul q_int (q_var 19))))) qa_nil))))
    (qs_cut [2, 3, 5, 6, 7, 8, 10, 11, 12, 14, 15, 16, 17, 18, 19] (qs_set 13 nd (q_if (q_cmpT k_lt (q_callC C__law_height (hr.mono (by decide)) (qa_cons (q_var 13) qa_nil)) q_int (nomark _)) (q_var 13) (q_callTy b_tuple (by rfl) T.tuple (by decide +kernel) (qa_cons (q_fr (qf_lc (own := [("number", 19)]) rfl nd (qi_seq (q_var 13)) (blkOk_by (by kernel_rfl)) (by decide) (fun _ _ _ _ _ => (qg_name 19 nd)) (fun _ _ _ _ _ => qts_nil) (fun _ _ _ _ _ => (q_op k_mod (q_var 19) q_int)))) qa_nil))))
    (qs_cons (qs_set 14 nd (q_callC C__law_own (hr.mono (by decide)) (qa_cons (q_var 13) qa_nil)))
    (qs_cons (qs_setLc 15 (own := [("spot", 18)]) rfl nd (qi_rng2 T.range q_int (q_op k_add (q_callB b_len (by rfl) T.len (by decide +kernel) (qa_cons (q_var 13) qa_nil)) q_int)) (blkOk_by (by kernel_rfl)) (by decide) (fun _ _ _ _ _ => (qg_name 18 nd)) (fun _ _ _ _ _ => qts_one (q_cmpT (k_ne hu) (q_op k_mod (q_ix k_ix (q_var 14) (q_op k_sub (q_var 18) q_int) (fun _ _ => rfl)) (q_var 18)) q_int (nomark _))) (fun _ _ _ _ _ => (q_var 18)))
    (qs_cut [2, 3, 5, 6, 7, 8, 10, 11, 12, 17, 18, 19] (qs_set 16 nd (q_if (q_cmpT k_gt (q_callB b_len (by rfl) T.len (by decide +kernel) (qa_cons (q_var 15) qa_nil)) q_int (nomark _)) (q_ix k_ix (q_var 15) q_int (fun _ _ => rfl)) q_non))
    (qs_cons (qs_if (q_wt (q_or (q_notT (q_tru (q_callC C__law_is (hr.mono (by decide)) (qa_cons (q_callC C_own_parts (hr.mono (by decide)) (qa_cons (q_var 13) qa_nil)) (qa_cons (q_var 14) qa_nil))))) (q_or1 (q_notT (q_tru (q_callC C__law_is (hr.mono (by decide)) (qa_cons (q_callC C_sums_fault (hr.mono (by decide)) (qa_cons (q_var 13) qa_nil)) (qa_cons (q_var 16) qa_nil)))))))) (qs_one (qs_ret q_bl)) qs_nil)
    (qs_cons (qs_set 17 nd (q_callC C_curve_from_sums (hr.mono (by decide)) (qa_cons (q_var 13) qa_nil)))
    (qs_cons (qs_if (q_cmpT (k_ne hu) (q_isN (q_var 17)) (q_cmp k_gt (q_callB b_len (by rfl) T.len (by decide +kernel) (qa_cons (q_var 15) qa_nil)) q_int (nomark _)) (nomark _)) (qs_one (qs_ret q_bl)) qs_nil)
    (qs_one (qs_if (q_notNT (q_var 17)) (qs_cons (qs_if (q_wt (q_or (q_notT (q_tru (q_callC C__law_is_integers (hr.mono (by decide)) (qa_cons (q_var 17) qa_nil)))) (q_or (q_cmpT (k_ne hu) (q_callB b_len (by rfl) T.len (by decide +kernel) (qa_cons (q_var 17) qa_nil)) (q_op k_add (q_callB b_len (by rfl) T.len (by decide +kernel) (qa_cons (q_var 13) qa_nil)) q_int) (nomark _)) (q_or1 (q_cmpT (k_ne hu) (q_ix k_ix (q_var 17) (q_callB b_len (by rfl) T.len (by decide +kernel) (qa_cons (q_var 13) qa_nil)) (fun _ _ => rfl)) q_int (nomark _)))))) (qs_one (qs_ret q_bl)) qs_nil)
    (qs_one (qs_if (q_cmpT (k_ne hu) (q_callC C__law_traces (hr.mono (by decide)) (qa_cons (q_var 17) (qa_cons (q_callB b_len (by rfl) T.len (by decide +kernel) (qa_cons (q_var 13) qa_nil)) qa_nil))) (q_var 13) (nomark _)) (qs_one (qs_ret q_bl)) qs_nil))) qs_nil))))))))))))))))))))))))))))))
    (qs_one (qs_ret (q_andV (q_callC C__law_is (hr.mono (by decide)) (qa_cons (q_callC C_curve_from_sums (hr.mono (by decide)) (qa_cons (q_tup (qa_cons q_int (qa_cons q_int qa_nil))) qa_nil)) (qa_cons q_non qa_nil))) (q_andV (q_callC C__law_is (hr.mono (by decide)) (qa_cons (q_callC C_sums_fault (hr.mono (by decide)) (qa_cons (q_tup (qa_cons q_int (qa_cons q_int qa_nil))) qa_nil)) (qa_cons q_int qa_nil))) (q_one (q_cmp (k_eq hu) (q_callC C_own_parts (hr.mono (by decide)) (qa_cons (q_tup (qa_cons q_int (qa_cons q_int qa_nil))) qa_nil)) (q_tup (qa_cons q_int (qa_cons q_int qa_nil))) (nomark _)))))))))

end
section
theorem all_mk {l : PySem.W.OpenLaw} {w : World} {K : PySem.W.Frag} {h : Heap} {q : Program} {mg : Str → Option Value} {fa f__law_draws f__law_cell f__law_drawn f__law_traces f__law_is_integer f__law_is f__law_cut f__law_times f__law_own f_curve_from_sums f_own_parts f_sums_fault f_root_sums f__law_powers f__law_height f__law_is_integers f_law : Addr} (X : K.In h) (G : h.Ns mainGlobals mg) (hfa : mg "law" = some (.ref fa)) (TF : TabFacts q K h)
    {od__law_draws an__law_draws od__law_cell an__law_cell od__law_drawn an__law_drawn od__law_traces an__law_traces od__law_is_integer an__law_is_integer od__law_is an__law_is od__law_cut an__law_cut od__law_times an__law_times od__law_own an__law_own od_curve_from_sums an_curve_from_sums od_own_parts an_own_parts od_sums_fault an_sums_fault od_root_sums an_root_sums od__law_powers an__law_powers od__law_height an__law_height od__law_is_integers an__law_is_integers od_law an_law : Option Addr} {sl__law_draws sl__law_cell sl__law_drawn sl__law_traces sl__law_is_integer sl__law_is sl__law_cut sl__law_times sl__law_own sl_curve_from_sums sl_own_parts sl_sums_fault sl_root_sums sl__law_powers sl__law_height sl__law_is_integers sl_law : Array (Option Value)} {oc__law_draws kV__law_draws dc__law_draws pm__law_draws ct__law_draws cd__law_draws oc__law_cell kV__law_cell dc__law_cell pm__law_cell ct__law_cell cd__law_cell oc__law_drawn kV__law_drawn dc__law_drawn pm__law_drawn ct__law_drawn cd__law_drawn oc__law_traces kV__law_traces dc__law_traces pm__law_traces ct__law_traces cd__law_traces oc__law_is_integer kV__law_is_integer dc__law_is_integer pm__law_is_integer ct__law_is_integer cd__law_is_integer oc__law_is kV__law_is dc__law_is pm__law_is ct__law_is cd__law_is oc__law_cut kV__law_cut dc__law_cut pm__law_cut ct__law_cut cd__law_cut oc__law_times kV__law_times dc__law_times pm__law_times ct__law_times cd__law_times oc__law_own kV__law_own dc__law_own pm__law_own ct__law_own cd__law_own oc_curve_from_sums kV_curve_from_sums dc_curve_from_sums pm_curve_from_sums ct_curve_from_sums cd_curve_from_sums oc_own_parts kV_own_parts dc_own_parts pm_own_parts ct_own_parts cd_own_parts oc_sums_fault kV_sums_fault dc_sums_fault pm_sums_fault ct_sums_fault cd_sums_fault oc_root_sums kV_root_sums dc_root_sums pm_root_sums ct_root_sums cd_root_sums oc__law_powers kV__law_powers dc__law_powers pm__law_powers ct__law_powers cd__law_powers oc__law_height kV__law_height dc__law_height pm__law_height ct__law_height cd__law_height oc__law_is_integers kV__law_is_integers dc__law_is_integers pm__law_is_integers ct__law_is_integers cd__law_is_integers oc_law kV_law dc_law pm_law ct_law cd_law : Value}
    (a__law_draws : PySem.W.nsIn K mainGlobals "_law_draws" = some (some (.ref f__law_draws))) (l__law_draws : K.lookup f__law_draws = some ⟨oc__law_draws, od__law_draws, .func (PySem.W.fnOf "_law_draws" "_law_draws" (defArgs s__law_draws) (defBody s__law_draws) (defScope s__law_draws) .none kV__law_draws dc__law_draws pm__law_draws an__law_draws cd__law_draws ct__law_draws), sl__law_draws⟩) (c__law_draws : PySem.W.codeIn K cd__law_draws "_law_draws" = true) (k__law_draws : PySem.W.keepIn K (.ref f__law_draws) = true)
    (a__law_cell : PySem.W.nsIn K mainGlobals "_law_cell" = some (some (.ref f__law_cell))) (l__law_cell : K.lookup f__law_cell = some ⟨oc__law_cell, od__law_cell, .func (PySem.W.fnOf "_law_cell" "_law_cell" (defArgs s__law_cell) (defBody s__law_cell) (defScope s__law_cell) .none kV__law_cell dc__law_cell pm__law_cell an__law_cell cd__law_cell ct__law_cell), sl__law_cell⟩) (c__law_cell : PySem.W.codeIn K cd__law_cell "_law_cell" = true) (k__law_cell : PySem.W.keepIn K (.ref f__law_cell) = true)
    (a__law_drawn : PySem.W.nsIn K mainGlobals "_law_drawn" = some (some (.ref f__law_drawn))) (l__law_drawn : K.lookup f__law_drawn = some ⟨oc__law_drawn, od__law_drawn, .func (PySem.W.fnOf "_law_drawn" "_law_drawn" (defArgs s__law_drawn) (defBody s__law_drawn) (defScope s__law_drawn) .none kV__law_drawn dc__law_drawn pm__law_drawn an__law_drawn cd__law_drawn ct__law_drawn), sl__law_drawn⟩) (c__law_drawn : PySem.W.codeIn K cd__law_drawn "_law_drawn" = true) (k__law_drawn : PySem.W.keepIn K (.ref f__law_drawn) = true)
    (a__law_traces : PySem.W.nsIn K mainGlobals "_law_traces" = some (some (.ref f__law_traces))) (l__law_traces : K.lookup f__law_traces = some ⟨oc__law_traces, od__law_traces, .func (PySem.W.fnOf "_law_traces" "_law_traces" (defArgs s__law_traces) (defBody s__law_traces) (defScope s__law_traces) .none kV__law_traces dc__law_traces pm__law_traces an__law_traces cd__law_traces ct__law_traces), sl__law_traces⟩) (c__law_traces : PySem.W.codeIn K cd__law_traces "_law_traces" = true) (k__law_traces : PySem.W.keepIn K (.ref f__law_traces) = true)
    (a__law_is_integer : PySem.W.nsIn K mainGlobals "_law_is_integer" = some (some (.ref f__law_is_integer))) (l__law_is_integer : K.lookup f__law_is_integer = some ⟨oc__law_is_integer, od__law_is_integer, .func (PySem.W.fnOf "_law_is_integer" "_law_is_integer" (defArgs s__law_is_integer) (defBody s__law_is_integer) (defScope s__law_is_integer) .none kV__law_is_integer dc__law_is_integer pm__law_is_integer an__law_is_integer cd__law_is_integer ct__law_is_integer), sl__law_is_integer⟩) (c__law_is_integer : PySem.W.codeIn K cd__law_is_integer "_law_is_integer" = true) (k__law_is_integer : PySem.W.keepIn K (.ref f__law_is_integer) = true)
    (a__law_is : PySem.W.nsIn K mainGlobals "_law_is" = some (some (.ref f__law_is))) (l__law_is : K.lookup f__law_is = some ⟨oc__law_is, od__law_is, .func (PySem.W.fnOf "_law_is" "_law_is" (defArgs s__law_is) (defBody s__law_is) (defScope s__law_is) .none kV__law_is dc__law_is pm__law_is an__law_is cd__law_is ct__law_is), sl__law_is⟩) (c__law_is : PySem.W.codeIn K cd__law_is "_law_is" = true) (k__law_is : PySem.W.keepIn K (.ref f__law_is) = true)
    (a__law_cut : PySem.W.nsIn K mainGlobals "_law_cut" = some (some (.ref f__law_cut))) (l__law_cut : K.lookup f__law_cut = some ⟨oc__law_cut, od__law_cut, .func (PySem.W.fnOf "_law_cut" "_law_cut" (defArgs s__law_cut) (defBody s__law_cut) (defScope s__law_cut) .none kV__law_cut dc__law_cut pm__law_cut an__law_cut cd__law_cut ct__law_cut), sl__law_cut⟩) (c__law_cut : PySem.W.codeIn K cd__law_cut "_law_cut" = true) (k__law_cut : PySem.W.keepIn K (.ref f__law_cut) = true)
    (a__law_times : PySem.W.nsIn K mainGlobals "_law_times" = some (some (.ref f__law_times))) (l__law_times : K.lookup f__law_times = some ⟨oc__law_times, od__law_times, .func (PySem.W.fnOf "_law_times" "_law_times" (defArgs s__law_times) (defBody s__law_times) (defScope s__law_times) .none kV__law_times dc__law_times pm__law_times an__law_times cd__law_times ct__law_times), sl__law_times⟩) (c__law_times : PySem.W.codeIn K cd__law_times "_law_times" = true) (k__law_times : PySem.W.keepIn K (.ref f__law_times) = true)
    (a__law_own : PySem.W.nsIn K mainGlobals "_law_own" = some (some (.ref f__law_own))) (l__law_own : K.lookup f__law_own = some ⟨oc__law_own, od__law_own, .func (PySem.W.fnOf "_law_own" "_law_own" (defArgs s__law_own) (defBody s__law_own) (defScope s__law_own) .none kV__law_own dc__law_own pm__law_own an__law_own cd__law_own ct__law_own), sl__law_own⟩) (c__law_own : PySem.W.codeIn K cd__law_own "_law_own" = true) (k__law_own : PySem.W.keepIn K (.ref f__law_own) = true)
    (a_curve_from_sums : PySem.W.nsIn K mainGlobals "curve_from_sums" = some (some (.ref f_curve_from_sums))) (l_curve_from_sums : K.lookup f_curve_from_sums = some ⟨oc_curve_from_sums, od_curve_from_sums, .func (PySem.W.fnOf "curve_from_sums" "curve_from_sums" (defArgs s_curve_from_sums) (defBody s_curve_from_sums) (defScope s_curve_from_sums) .none kV_curve_from_sums dc_curve_from_sums pm_curve_from_sums an_curve_from_sums cd_curve_from_sums ct_curve_from_sums), sl_curve_from_sums⟩) (c_curve_from_sums : PySem.W.codeIn K cd_curve_from_sums "curve_from_sums" = true) (k_curve_from_sums : PySem.W.keepIn K (.ref f_curve_from_sums) = true)
    (a_own_parts : PySem.W.nsIn K mainGlobals "own_parts" = some (some (.ref f_own_parts))) (l_own_parts : K.lookup f_own_parts = some ⟨oc_own_parts, od_own_parts, .func (PySem.W.fnOf "own_parts" "own_parts" (defArgs s_own_parts) (defBody s_own_parts) (defScope s_own_parts) .none kV_own_parts dc_own_parts pm_own_parts an_own_parts cd_own_parts ct_own_parts), sl_own_parts⟩) (c_own_parts : PySem.W.codeIn K cd_own_parts "own_parts" = true) (k_own_parts : PySem.W.keepIn K (.ref f_own_parts) = true)
    (a_sums_fault : PySem.W.nsIn K mainGlobals "sums_fault" = some (some (.ref f_sums_fault))) (l_sums_fault : K.lookup f_sums_fault = some ⟨oc_sums_fault, od_sums_fault, .func (PySem.W.fnOf "sums_fault" "sums_fault" (defArgs s_sums_fault) (defBody s_sums_fault) (defScope s_sums_fault) .none kV_sums_fault dc_sums_fault pm_sums_fault an_sums_fault cd_sums_fault ct_sums_fault), sl_sums_fault⟩) (c_sums_fault : PySem.W.codeIn K cd_sums_fault "sums_fault" = true) (k_sums_fault : PySem.W.keepIn K (.ref f_sums_fault) = true)
    (a_root_sums : PySem.W.nsIn K mainGlobals "root_sums" = some (some (.ref f_root_sums))) (l_root_sums : K.lookup f_root_sums = some ⟨oc_root_sums, od_root_sums, .func (PySem.W.fnOf "root_sums" "root_sums" (defArgs s_root_sums) (defBody s_root_sums) (defScope s_root_sums) .none kV_root_sums dc_root_sums pm_root_sums an_root_sums cd_root_sums ct_root_sums), sl_root_sums⟩) (c_root_sums : PySem.W.codeIn K cd_root_sums "root_sums" = true) (k_root_sums : PySem.W.keepIn K (.ref f_root_sums) = true)
    (a__law_powers : PySem.W.nsIn K mainGlobals "_law_powers" = some (some (.ref f__law_powers))) (l__law_powers : K.lookup f__law_powers = some ⟨oc__law_powers, od__law_powers, .func (PySem.W.fnOf "_law_powers" "_law_powers" (defArgs s__law_powers) (defBody s__law_powers) (defScope s__law_powers) .none kV__law_powers dc__law_powers pm__law_powers an__law_powers cd__law_powers ct__law_powers), sl__law_powers⟩) (c__law_powers : PySem.W.codeIn K cd__law_powers "_law_powers" = true) (k__law_powers : PySem.W.keepIn K (.ref f__law_powers) = true)
    (a__law_height : PySem.W.nsIn K mainGlobals "_law_height" = some (some (.ref f__law_height))) (l__law_height : K.lookup f__law_height = some ⟨oc__law_height, od__law_height, .func (PySem.W.fnOf "_law_height" "_law_height" (defArgs s__law_height) (defBody s__law_height) (defScope s__law_height) .none kV__law_height dc__law_height pm__law_height an__law_height cd__law_height ct__law_height), sl__law_height⟩) (c__law_height : PySem.W.codeIn K cd__law_height "_law_height" = true) (k__law_height : PySem.W.keepIn K (.ref f__law_height) = true)
    (a__law_is_integers : PySem.W.nsIn K mainGlobals "_law_is_integers" = some (some (.ref f__law_is_integers))) (l__law_is_integers : K.lookup f__law_is_integers = some ⟨oc__law_is_integers, od__law_is_integers, .func (PySem.W.fnOf "_law_is_integers" "_law_is_integers" (defArgs s__law_is_integers) (defBody s__law_is_integers) (defScope s__law_is_integers) .none kV__law_is_integers dc__law_is_integers pm__law_is_integers an__law_is_integers cd__law_is_integers ct__law_is_integers), sl__law_is_integers⟩) (c__law_is_integers : PySem.W.codeIn K cd__law_is_integers "_law_is_integers" = true) (k__law_is_integers : PySem.W.keepIn K (.ref f__law_is_integers) = true)
    (a_law : PySem.W.nsIn K mainGlobals "law" = some (some (.ref f_law))) (l_law : K.lookup f_law = some ⟨oc_law, od_law, .func (PySem.W.fnOf "law" "law" (defArgs s_law) (defBody s_law) (defScope s_law) .none kV_law dc_law pm_law an_law cd_law ct_law), sl_law⟩) (c_law : PySem.W.codeIn K cd_law "law" = true) (k_law : PySem.W.keepIn K (.ref f_law) = true)
    (z_abs : PySem.W.nsIn K mainGlobals "abs" = some none)
    (z_all : PySem.W.nsIn K mainGlobals "all" = some none)
    (z_any : PySem.W.nsIn K mainGlobals "any" = some none)
    (z_enumerate : PySem.W.nsIn K mainGlobals "enumerate" = some none)
    (z_int : PySem.W.nsIn K mainGlobals "int" = some none)
    (z_isinstance : PySem.W.nsIn K mainGlobals "isinstance" = some none)
    (z_len : PySem.W.nsIn K mainGlobals "len" = some none)
    (z_list : PySem.W.nsIn K mainGlobals "list" = some none)
    (z_max : PySem.W.nsIn K mainGlobals "max" = some none)
    (z_min : PySem.W.nsIn K mainGlobals "min" = some none)
    (z_range : PySem.W.nsIn K mainGlobals "range" = some none)
    (z_reversed : PySem.W.nsIn K mainGlobals "reversed" = some none)
    (z_set : PySem.W.nsIn K mainGlobals "set" = some none)
    (z_sorted : PySem.W.nsIn K mainGlobals "sorted" = some none)
    (z_str : PySem.W.nsIn K mainGlobals "str" = some none)
    (z_sum : PySem.W.nsIn K mainGlobals "sum" = some none)
    (z_tuple : PySem.W.nsIn K mainGlobals "tuple" = some none)
    (z_type : PySem.W.nsIn K mainGlobals "type" = some none)
    (z_zip : PySem.W.nsIn K mainGlobals "zip" = some none)
    (z_bool : PySem.W.nsIn K mainGlobals "bool" = some none)
    (z_dict : PySem.W.nsIn K mainGlobals "dict" = some none)
    : LamX.LawAtS l w K CX0 15 63 "script" mg fa h := by
  have e := hfa.symm.trans (PySem.W.mg_of X G a_law)
  cases e
  have T : Bi mg := ⟨PySem.W.mg_none_of X G z_abs, PySem.W.mg_none_of X G z_all, PySem.W.mg_none_of X G z_any, PySem.W.mg_none_of X G z_enumerate, PySem.W.mg_none_of X G z_int, PySem.W.mg_none_of X G z_isinstance, PySem.W.mg_none_of X G z_len, PySem.W.mg_none_of X G z_list, PySem.W.mg_none_of X G z_max, PySem.W.mg_none_of X G z_min, PySem.W.mg_none_of X G z_range, PySem.W.mg_none_of X G z_reversed, PySem.W.mg_none_of X G z_set, PySem.W.mg_none_of X G z_sorted, PySem.W.mg_none_of X G z_str, PySem.W.mg_none_of X G z_sum, PySem.W.mg_none_of X G z_tuple, PySem.W.mg_none_of X G z_type, PySem.W.mg_none_of X G z_zip, PySem.W.mg_none_of X G z_bool, PySem.W.mg_none_of X G z_dict⟩
  have F__law_draws := fun_mk (st := s__law_draws) l__law_draws c__law_draws k__law_draws
  have B__law_draws := F__law_draws.binds (ps := ["cell", "count"]) fun _ _ _ _ _ _ us hl => match us, hl with | [_, _], _ => rfl
  have F__law_cell := fun_mk (st := s__law_cell) l__law_cell c__law_cell k__law_cell
  have B__law_cell := F__law_cell.binds (ps := ["script", "k"]) fun _ _ _ _ _ _ us hl => match us, hl with | [_, _], _ => rfl
  have F__law_drawn := fun_mk (st := s__law_drawn) l__law_drawn c__law_drawn k__law_drawn
  have B__law_drawn := F__law_drawn.binds (ps := ["draws", "size", "wide"]) fun _ _ _ _ _ _ us hl => match us, hl with | [_, _, _], _ => rfl
  have F__law_traces := fun_mk (st := s__law_traces) l__law_traces c__law_traces k__law_traces
  have B__law_traces := F__law_traces.binds (ps := ["curve", "count"]) fun _ _ _ _ _ _ us hl => match us, hl with | [_, _], _ => rfl
  have F__law_is_integer := fun_mk (st := s__law_is_integer) l__law_is_integer c__law_is_integer k__law_is_integer
  have B__law_is_integer := F__law_is_integer.binds (ps := ["value"]) fun _ _ _ _ _ _ us hl => match us, hl with | [_], _ => rfl
  have F__law_is := fun_mk (st := s__law_is) l__law_is c__law_is k__law_is
  have B__law_is := F__law_is.binds (ps := ["value", "due"]) fun _ _ _ _ _ _ us hl => match us, hl with | [_, _], _ => rfl
  have F__law_cut := fun_mk (st := s__law_cut) l__law_cut c__law_cut k__law_cut
  have B__law_cut := F__law_cut.binds (ps := ["items"]) fun _ _ _ _ _ _ us hl => match us, hl with | [_], _ => rfl
  have F__law_times := fun_mk (st := s__law_times) l__law_times c__law_times k__law_times
  have B__law_times := F__law_times.binds (ps := ["one", "other"]) fun _ _ _ _ _ _ us hl => match us, hl with | [_, _], _ => rfl
  have F__law_own := fun_mk (st := s__law_own) l__law_own c__law_own k__law_own
  have B__law_own := F__law_own.binds (ps := ["sums"]) fun _ _ _ _ _ _ us hl => match us, hl with | [_], _ => rfl
  have F_curve_from_sums := fun_mk (st := s_curve_from_sums) l_curve_from_sums c_curve_from_sums k_curve_from_sums
  have B_curve_from_sums := F_curve_from_sums.binds (ps := ["sums"]) fun _ _ _ _ _ _ us hl => match us, hl with | [_], _ => rfl
  have F_own_parts := fun_mk (st := s_own_parts) l_own_parts c_own_parts k_own_parts
  have B_own_parts := F_own_parts.binds (ps := ["sums"]) fun _ _ _ _ _ _ us hl => match us, hl with | [_], _ => rfl
  have F_sums_fault := fun_mk (st := s_sums_fault) l_sums_fault c_sums_fault k_sums_fault
  have B_sums_fault := F_sums_fault.binds (ps := ["sums"]) fun _ _ _ _ _ _ us hl => match us, hl with | [_], _ => rfl
  have F_root_sums := fun_mk (st := s_root_sums) l_root_sums c_root_sums k_root_sums
  have B_root_sums := F_root_sums.binds (ps := ["curve", "size"]) fun _ _ _ _ _ _ us hl => match us, hl with | [_, _], _ => rfl
  have F__law_powers := fun_mk (st := s__law_powers) l__law_powers c__law_powers k__law_powers
  have B__law_powers := F__law_powers.binds (ps := ["roots", "count"]) fun _ _ _ _ _ _ us hl => match us, hl with | [_, _], _ => rfl
  have F__law_height := fun_mk (st := s__law_height) l__law_height c__law_height k__law_height
  have B__law_height := F__law_height.binds (ps := ["items"]) fun _ _ _ _ _ _ us hl => match us, hl with | [_], _ => rfl
  have F__law_is_integers := fun_mk (st := s__law_is_integers) l__law_is_integers c__law_is_integers k__law_is_integers
  have B__law_is_integers := F__law_is_integers.binds (ps := ["value"]) fun _ _ _ _ _ _ us hl => match us, hl with | [_], _ => rfl
  have F_law := fun_mk (st := s_law) l_law c_law k_law
  refine law_at (fd := PySem.W.fnOf "law" "law" (defArgs s_law) (defBody s_law) (defScope s_law) .none kV_law dc_law pm_law an_law cd_law ct_law) ([] : List (Addr × Addr)) (fun _ h => nomatch h) (fun _ h => nomatch h) (fun s v => .of_eq rfl) fun base _ _ hTB => ?_
  letI : PL.Tabs := ⟨List.map (·.2) ([] : List (Addr × Addr))⟩
  have C__law_draws := ok__law_draws (P := l.prog) (w := w) (base := base) T F__law_draws (PySem.W.mg_of X G a__law_draws) B__law_draws 
  have C__law_cell := ok__law_cell (P := l.prog) (w := w) (base := base) T F__law_cell (PySem.W.mg_of X G a__law_cell) B__law_cell 
  have C__law_drawn := ok__law_drawn (P := l.prog) (w := w) (base := base) T F__law_drawn (PySem.W.mg_of X G a__law_drawn) B__law_drawn 
  have C__law_traces := ok__law_traces (P := l.prog) (w := w) (base := base) T F__law_traces (PySem.W.mg_of X G a__law_traces) B__law_traces 
  have C__law_is_integer := ok__law_is_integer (P := l.prog) (w := w) (base := base) T F__law_is_integer (PySem.W.mg_of X G a__law_is_integer) B__law_is_integer 
  have C__law_is := ok__law_is (P := l.prog) (w := w) (base := base) T F__law_is (PySem.W.mg_of X G a__law_is) B__law_is C__law_is_integer
  have C__law_cut := ok__law_cut (P := l.prog) (w := w) (base := base) T F__law_cut (PySem.W.mg_of X G a__law_cut) B__law_cut 
  have C__law_times := ok__law_times (P := l.prog) (w := w) (base := base) T F__law_times (PySem.W.mg_of X G a__law_times) B__law_times C__law_cut
  have C__law_own := ok__law_own (P := l.prog) (w := w) (base := base) T F__law_own (PySem.W.mg_of X G a__law_own) B__law_own 
  have C_curve_from_sums := ok_curve_from_sums (P := l.prog) (w := w) (base := base) T F_curve_from_sums (PySem.W.mg_of X G a_curve_from_sums) B_curve_from_sums 
  have C_own_parts := ok_own_parts (P := l.prog) (w := w) (base := base) T F_own_parts (PySem.W.mg_of X G a_own_parts) B_own_parts 
  have C_sums_fault := ok_sums_fault (P := l.prog) (w := w) (base := base) T F_sums_fault (PySem.W.mg_of X G a_sums_fault) B_sums_fault C_own_parts
  have C_root_sums := ok_root_sums (P := l.prog) (w := w) (base := base) T F_root_sums (PySem.W.mg_of X G a_root_sums) B_root_sums 
  have C__law_powers := ok__law_powers (P := l.prog) (w := w) (base := base) T F__law_powers (PySem.W.mg_of X G a__law_powers) B__law_powers 
  have C__law_height := ok__law_height (P := l.prog) (w := w) (base := base) T F__law_height (PySem.W.mg_of X G a__law_height) B__law_height 
  have C__law_is_integers := ok__law_is_integers (P := l.prog) (w := w) (base := base) T F__law_is_integers (PySem.W.mg_of X G a__law_is_integers) B__law_is_integers C__law_is_integer
  have C_law := ok_law (P := l.prog) (w := w) (base := base) T F_law (PySem.W.mg_of X G a_law) (F_law.binds (ps := ["script"]) fun _ _ _ _ _ _ us hl => match us, hl with | [_], _ => rfl) C__law_draws C__law_cell C__law_drawn C__law_traces C__law_is C__law_times C__law_own C_curve_from_sums C_sums_fault C_own_parts C_root_sums C__law_powers C__law_height C__law_is_integers
  exact cal_fn C_law (PySem.W.mg_of X G a_law) F_law
end
end G
open PySem PySem.W PyProof.Rows
set_option maxRecDepth 100000 in
set_option maxHeartbeats 0 in
theorem PySem.Challenge.cw_reckonhall_k53_whole_sums_and_own_parts_holds : PySem.Challenge.rw_reckonhall_k53_whole_sums_and_own_parts.Holds := by
  w_on; o_law; k_head; (case hw => w_witness2)
  k_fill
  refine PL.walk_ofT (l := PySem.Challenge.rw_reckonhall_k53_whole_sums_and_own_parts) (n := 63) (k := 15) (x := "script") (CX := fun _ => L2.CX0) rfl (by decide) rfl ⟨rfl, by decide, by decide⟩ (fun w h Y => PySem.W.kIn_of Y) ?F (fun _ _ _ _ _ h => h)
  case F =>
    intro w mg fa h Y KX G hmg TF
    refine' _root_.G.all_mk KX G hmg TF ?a__law_draws ?l__law_draws ?c__law_draws ?k__law_draws ?a__law_cell ?l__law_cell ?c__law_cell ?k__law_cell ?a__law_drawn ?l__law_drawn ?c__law_drawn ?k__law_drawn ?a__law_traces ?l__law_traces ?c__law_traces ?k__law_traces ?a__law_is_integer ?l__law_is_integer ?c__law_is_integer ?k__law_is_integer ?a__law_is ?l__law_is ?c__law_is ?k__law_is ?a__law_cut ?l__law_cut ?c__law_cut ?k__law_cut ?a__law_times ?l__law_times ?c__law_times ?k__law_times ?a__law_own ?l__law_own ?c__law_own ?k__law_own ?a_curve_from_sums ?l_curve_from_sums ?c_curve_from_sums ?k_curve_from_sums ?a_own_parts ?l_own_parts ?c_own_parts ?k_own_parts ?a_sums_fault ?l_sums_fault ?c_sums_fault ?k_sums_fault ?a_root_sums ?l_root_sums ?c_root_sums ?k_root_sums ?a__law_powers ?l__law_powers ?c__law_powers ?k__law_powers ?a__law_height ?l__law_height ?c__law_height ?k__law_height ?a__law_is_integers ?l__law_is_integers ?c__law_is_integers ?k__law_is_integers ?a_law ?l_law ?c_law ?k_law ?z_abs ?z_all ?z_any ?z_enumerate ?z_int ?z_isinstance ?z_len ?z_list ?z_max ?z_min ?z_range ?z_reversed ?z_set ?z_sorted ?z_str ?z_sum ?z_tuple ?z_type ?z_zip ?z_bool ?z_dict
    (case a__law_draws => k_is)
    (case l__law_draws => k_is)
    (case c__law_draws => k_is)
    (case k__law_draws => k_is)
    (case a__law_cell => k_is)
    (case l__law_cell => k_is)
    (case c__law_cell => k_is)
    (case k__law_cell => k_is)
    (case a__law_drawn => k_is)
    (case l__law_drawn => k_is)
    (case c__law_drawn => k_is)
    (case k__law_drawn => k_is)
    (case a__law_traces => k_is)
    (case l__law_traces => k_is)
    (case c__law_traces => k_is)
    (case k__law_traces => k_is)
    (case a__law_is_integer => k_is)
    (case l__law_is_integer => k_is)
    (case c__law_is_integer => k_is)
    (case k__law_is_integer => k_is)
    (case a__law_is => k_is)
    (case l__law_is => k_is)
    (case c__law_is => k_is)
    (case k__law_is => k_is)
    (case a__law_cut => k_is)
    (case l__law_cut => k_is)
    (case c__law_cut => k_is)
    (case k__law_cut => k_is)
    (case a__law_times => k_is)
    (case l__law_times => k_is)
    (case c__law_times => k_is)
    (case k__law_times => k_is)
    (case a__law_own => k_is)
    (case l__law_own => k_is)
    (case c__law_own => k_is)
    (case k__law_own => k_is)
    (case a_curve_from_sums => k_is)
    (case l_curve_from_sums => k_is)
    (case c_curve_from_sums => k_is)
    (case k_curve_from_sums => k_is)
    (case a_own_parts => k_is)
    (case l_own_parts => k_is)
    (case c_own_parts => k_is)
    (case k_own_parts => k_is)
    (case a_sums_fault => k_is)
    (case l_sums_fault => k_is)
    (case c_sums_fault => k_is)
    (case k_sums_fault => k_is)
    (case a_root_sums => k_is)
    (case l_root_sums => k_is)
    (case c_root_sums => k_is)
    (case k_root_sums => k_is)
    (case a__law_powers => k_is)
    (case l__law_powers => k_is)
    (case c__law_powers => k_is)
    (case k__law_powers => k_is)
    (case a__law_height => k_is)
    (case l__law_height => k_is)
    (case c__law_height => k_is)
    (case k__law_height => k_is)
    (case a__law_is_integers => k_is)
    (case l__law_is_integers => k_is)
    (case c__law_is_integers => k_is)
    (case k__law_is_integers => k_is)
    (case a_law => k_is)
    (case l_law => k_is)
    (case c_law => k_is)
    (case k_law => k_is)
    (case z_abs => k_is)
    (case z_all => k_is)
    (case z_any => k_is)
    (case z_enumerate => k_is)
    (case z_int => k_is)
    (case z_isinstance => k_is)
    (case z_len => k_is)
    (case z_list => k_is)
    (case z_max => k_is)
    (case z_min => k_is)
    (case z_range => k_is)
    (case z_reversed => k_is)
    (case z_set => k_is)
    (case z_sorted => k_is)
    (case z_str => k_is)
    (case z_sum => k_is)
    (case z_tuple => k_is)
    (case z_type => k_is)
    (case z_zip => k_is)
    (case z_bool => k_is)
    (case z_dict => k_is)

#print axioms PySem.Challenge.cw_reckonhall_k53_whole_sums_and_own_parts_holds
