import PyProof.Rows.All
import Wide.All
import OpenK.AllK
import Wide.FinOn
import HandS.ForMost
import KE.SortData
import HandS.TupAny
import HandS.TupMul
import HandS.TupLe
import HandS.Deep
import HandS.IsInst
import HandS.SortInts
import HandS.RaiseMore
import HandS.More
import HandS.TupLen
import HandS.WordsDict
import HandS.Flow
import HandS.Style
import HandS.Walk
import KE.KRevSl
import KE.GoesMore
import KE.GoesEnum
import KE.GoesNew
import HandS.Iter
import HandS.Conv
import HandS.Comp
import HandS.Defaults
import HandS.HeadEnd
import HandS.Call
import HandS.SortKw
import KE.DataMinMax
import PyProof.ReprRoads
import PyProof.Rows.NestShow
import KE.DatumIndex
import KE.KTupSum
import HandS.SetFor
import HandS.Strs
import HandS.Rev
import PyProof.ListNew
import HandS.TupSets
import KE.KDictDisplayH
import HandS.HeadHook2
import HandS.HeadHook4
import HandS.Head2
import PyProof.P3Statements
import HandS.Text
import PySem.Challenge.RW_meetways_k12_all_ways_of_small_nets
set_option Elab.async false
set_option linter.all false
set_option maxRecDepth 100000
/-! PyA: values, stores, core syntax and the interpreter (total, no heap addresses). -/
namespace Mw
open PySem

/-- values: tuples are deep, what can change stands in the store -/
inductive D where
  | non | bl (b : Bool) | int (i : Int) | str (s : Str) | tup (xs : List D) | rol (xs : List D) | ref (n : Nat)
  deriving Inhabited

mutual
def D.beq : D → D → Bool
  | .non, .non => true
  | .bl a, .bl b => a == b
  | .int a, .int b => a == b
  | .str a, .str b => decide (a = b)
  | .tup a, .tup b => D.beqL a b
  | .rol a, .rol b => D.beqL a b
  | .ref a, .ref b => a == b
  | _, _ => false
def D.beqL : List D → List D → Bool
  | [], [] => true
  | a :: as, b :: bs => D.beq a b && D.beqL as bs
  | _, _ => false
end
mutual
theorem D.beq_eq : ∀ (a b : D), D.beq a b = true → a = b
  | .non, b, h => by cases b <;> simp_all [D.beq]
  | .bl _, b, h => by cases b <;> simp_all [D.beq]
  | .int _, b, h => by cases b <;> simp_all [D.beq]
  | .str _, b, h => by cases b <;> simp_all [D.beq]
  | .ref _, b, h => by cases b <;> simp_all [D.beq]
  | .tup xs, b, h => by
    cases b with
    | tup ys => rw [D.beqL_eq xs ys (by simpa [D.beq] using h)]
    | _ => simp_all [D.beq]
  | .rol xs, b, h => by
    cases b with
    | rol ys => rw [D.beqL_eq xs ys (by simpa [D.beq] using h)]
    | _ => simp_all [D.beq]
theorem D.beqL_eq : ∀ (a b : List D), D.beqL a b = true → a = b
  | [], b, h => by cases b <;> simp_all [D.beqL]
  | x :: xs, b, h => by
    cases b with
    | nil => simp_all [D.beqL]
    | cons y ys =>
      simp only [D.beqL, Bool.and_eq_true] at h
      rw [D.beq_eq x y h.1, D.beqL_eq xs ys h.2]
end
mutual
theorem D.beq_refl : ∀ a : D, D.beq a a = true
  | .non | .bl _ | .int _ | .str _ | .ref _ => by simp [D.beq]
  | .tup xs => by simp only [D.beq]; exact D.beqL_refl xs
  | .rol xs => by simp only [D.beq]; exact D.beqL_refl xs
theorem D.beqL_refl : ∀ a : List D, D.beqL a a = true
  | [] => rfl
  | x :: xs => by simp only [D.beqL, D.beq_refl x, D.beqL_refl xs, Bool.and_self]
end
instance : DecidableEq D := fun a b => if h : D.beq a b = true then isTrue (D.beq_eq a b h) else isFalse fun e => h (e ▸ D.beq_refl a)

/-- objects of the store -/
inductive O where
  | lst (xs : List D) | dic (lk : Bool) (kvs : List (D × D)) | dit (lk : Bool) (kvs : List (D × D)) | ins (c : Str) (fs : List (Str × D))
  deriving DecidableEq, Inhabited
abbrev Sto := List O
abbrev Env := List (Option D)
/-- what an expression gives: a value, or a list just made that nothing else holds -/
inductive RV where
  | val (d : D) | tmp (xs : List D)
  deriving DecidableEq, Inhabited

inductive Op where
  | add | sub | mul | fdiv | mod | pow | shl | shr | band | bor
  deriving DecidableEq
inductive Cm where
  | eq | ne | lt | le | gt | ge | isin | notin | isN | notN
  deriving DecidableEq
inductive Ty where
  | int | bool | str | tuple | list | dict
  deriving DecidableEq
inductive BI where
  | len | int | str | repr | bool | tuple | list | max | min | sum | any | all | sorted | set | abs | revl
  deriving DecidableEq
inductive MT where
  | append | extend | insert | pop | index | remove | count | get | setdefault | values | join | split | replace | upper | tindex
  deriving DecidableEq

mutual
inductive Tgt where
  | nm (i : Nat) | tp (ts : Tgts)
inductive Tgts where
  | nil | cons (t : Tgt) (ts : Tgts)
end
mutual
inductive CE where
  | var (i : Nat) | cst (d : D)
  | bin (o : Op) (a b : CE) | neg (a : CE) | not (a : CE)
  | cmp (o : Cm) (a b : CE) | chain (o o' : Cm) (a b c : CE)
  | and (a b : CE) | or (a b : CE) | ite (c a b : CE)
  | tup (es : CEs) | lst (es : CEs)
  | idx (a i : CE) | sli (a : CE) (lo hi : CEs) | rev (a : CE) | stp (a s : CE) | los (tp : Bool) (a : CE) | mm (mx : Bool) (a d : CE)
  | call (f : Str) (es : CEs) | bi (b : BI) (es : CEs) | mt (m : MT) (o : CE) (es : CEs) | isi (a : CE) (t : Ty)
  | comp (t : Tgt) (s : Src) (c : CEs) (e : CE) (own : List Nat)
  | dic0 | dit0 | dic1 (k v : CE) | dit1 (k v : CE)
  | bad
inductive CEs where
  | nil | cons (e : CE) (es : CEs)
inductive Src where
  | ex (e : CE) | rng (es : CEs) | enm (e : CE) | zp (es : CEs) | rv (e : CE) | dk (e : CE)
end
mutual
inductive CS where
  | asg (t : Tgt) (e : CE) | aug (i : Nat) (o : Op) (e : CE) | put (o i e : CE)
  | expr (e : CE) | ret (e : CE) | retN
  | ite (c : CE) (a b : CSs) | for (t : Tgt) (s : Src) (b : CSs) | while (c : CE) (b : CSs)
  | brk | cont | pass | bad
inductive CSs where
  | nil | cons (s : CS) (ss : CSs)
end

/-! ### small pieces -/
def mat : RV → Sto → D × Sto
  | .val d, st => (d, st)
  | .tmp xs, st => (.ref st.length, st ++ [.lst xs])
def seqOf (st : Sto) : RV → Option (List D)
  | .tmp xs => some xs
  | .val (.tup xs) => some xs
  | .val (.rol xs) => some xs
  | .val (.ref n) => match st[n]? with
    | some (.lst xs) => some xs
    | _ => none
  | _ => none
def szOk (n : Nat) : Bool := decide (n ≤ 16777216)
def truth (st : Sto) : RV → Option Bool
  | .tmp xs => some (!xs.isEmpty)
  | .val .non => some false
  | .val (.bl b) => some b
  | .val (.int i) => some (i != 0)
  | .val (.str s) => if szOk s.length then some (s.length != 0) else none
  | .val (.tup xs) => some (!xs.isEmpty)
  | .val (.rol xs) => some (!xs.isEmpty)
  | .val (.ref n) => match st[n]? with
    | some (.lst xs) => some (!xs.isEmpty)
    | some (.dic false kvs) => some (!kvs.isEmpty)
    | _ => none
def mapO {α β : Type} (f : α → Option β) : List α → Option (List β)
  | [] => some []
  | x :: xs => match f x with
    | some y => match mapO f xs with
      | some ys => some (y :: ys)
      | none => none
    | none => none
/-- a value as data of the model, what is held by handles read out (to a depth) -/
def toPy (st : Sto) : Nat → D → Option PyData
  | 0, d => match d with
    | .non => some .none
    | .bl b => some (.bool b)
    | .int i => some (.int i)
    | .str s => if s.cps.all (· < 0x110000) then some (.str s) else none
    | _ => none
  | k + 1, d => match d with
    | .non => some .none
    | .bl b => some (.bool b)
    | .int i => some (.int i)
    | .str s => if s.cps.all (· < 0x110000) then some (.str s) else none
    | .tup xs => (mapO (toPy st k) xs).map .tuple
    | .rol xs => (mapO (toPy st k) xs).map .list
    | .ref n => match st[n]? with
      | some (.lst xs) => (mapO (toPy st k) xs).map .list
      | _ => none
def rvPy (st : Sto) : RV → Option PyData
  | .val d => toPy st 60 d
  | .tmp xs => (mapO (toPy st 59) xs).map .list
def pyEqD (st : Sto) (x y : RV) : Option Bool := match rvPy st x, rvPy st y with
  | some p, some q => some (PyData.eqv p q)
  | _, _ => none
/-- a list's items (no tuple's) -/
def listOf (st : Sto) : RV → Option (List D)
  | .tmp xs => some xs
  | .val (.rol xs) => some xs
  | .val (.ref n) => match st[n]? with
    | some (.lst xs) => some xs
    | _ => none
  | _ => none
/-- rows of unlike lengths are not alike, whatever stands in them -/
def lenEq (st : Sto) (x y : RV) : Option Bool := match x, y with
  | .val (.tup xs), .val (.tup ys) => if (xs.isEmpty != ys.isEmpty) = true then some false else none
  | x, y => match listOf st x, listOf st y with
    | some xs, some ys => if decide (xs.length ≠ ys.length) = true then some false else none
    | _, _ => none
def orE {α : Type} (a b : Option α) : Option α := match a with
  | some x => some x
  | none => b
def pyEq (st : Sto) (x y : RV) : Option Bool := orE (pyEqD st x y) (lenEq st x y)
/-- a list's items that can be changed -/
def mutOf (st : Sto) : RV → Option (List D)
  | .tmp xs => some xs
  | .val (.ref n) => match st[n]? with
    | some (.lst xs) => some xs
    | _ => none
  | _ => none
def i62 : Int → Bool
  | .ofNat n => Nat.blt n 4611686018427387904
  | .negSucc n => Nat.blt n 4611686018427387904
theorem i62_iff {j : Int} : i62 j = true ↔ -(2 ^ 62) ≤ j ∧ j < 2 ^ 62 := by
  cases j with
  | ofNat n => simp only [i62, Nat.blt_eq, Int.ofNat_eq_natCast]; omega
  | negSucc n => simp only [i62, Nat.blt_eq]; omega
def mulOk (i j : Int) : Bool := decide ((-(2 ^ 64) < i ∧ i < 2 ^ 64) ∨ (-(2 ^ 64) < j ∧ j < 2 ^ 64))
def powOk (i j : Int) : Bool := decide (0 ≤ j ∧ j ≤ 1000000 ∧ i.natAbs < 2 ^ 64)
def intOp : Op → Int → Int → Option Int
  | .add, i, j => some (i + j)
  | .sub, i, j => some (i - j)
  | .mul, i, j => if mulOk i j then some (i * j) else none
  | .fdiv, i, j => if decide (0 < j ∧ j < 1073741824) then some (i / j) else none
  | .mod, i, j => if decide (0 < j) then some (i % j) else none
  | .pow, i, j => if powOk i j then some (i ^ j.toNat) else none
  | .shl, i, j => if powOk i j then some (i * 2 ^ j.toNat) else none
  | .shr, i, j => if decide (0 ≤ j) then some (i / 2 ^ j.toNat) else none
  | .band, i, j => some (Builtin.bitAnd i j)
  | .bor, i, j => some (Builtin.bitOr i j)
def repD (xs : List D) (k : Int) : List D := (List.replicate k.toNat xs).flatten
def int2 (o : Op) (x y : RV) : Option RV := match x, y with
  | .val (.int i), .val (.int j) => (intOp o i j).map fun k => .val (.int k)
  | _, _ => none
def subApp (x y : RV) : Option RV := match x, y with
  | .val (.bl i), .val (.int j) => some (.val (.int ((if i = true then 1 else 0) - j)))
  | .val (.int i), .val (.bl j) => some (.val (.int (i - (if j = true then 1 else 0))))
  | x, y => int2 .sub x y
def addL (st : Sto) (x y : RV) : Option RV := match listOf st x, listOf st y with
  | some a, some b => if szOk (a.length + b.length) then some (.tmp (a ++ b)) else none
  | _, _ => none
def addApp (st : Sto) (x y : RV) : Option RV := match x, y with
  | .val (.int i), .val (.int j) => some (.val (.int (i + j)))
  | .val (.bl i), .val (.int j) => some (.val (.int ((if i = true then 1 else 0) + j)))
  | .val (.str a), .val (.str b) => if szOk (a.length + b.length) then some (.val (.str (a ++ b))) else none
  | .val (.tup a), .val (.tup b) => if szOk (a.length + b.length) then some (.val (.tup (a ++ b))) else none
  | x, y => addL st x y
def mulApp (st : Sto) (x y : RV) : Option RV := match x, y with
  | .val (.int i), .val (.int j) => if mulOk i j then some (.val (.int (i * j))) else none
  | .val (.tup a), .val (.int k) => if decide (a ≠ [] ∧ 2 ≤ k ∧ k ≤ 1000 ∧ a.length ≤ 1000) then some (.val (.tup (repD a k))) else none
  | x, .val (.int k) => match mutOf st x with
    | some a => if decide (-(2 ^ 62) ≤ k ∧ k < 2 ^ 62) && szOk (a.length * k.toNat) then some (.tmp (repD a k)) else none
    | none => none
  | _, _ => none
def binApp (st : Sto) (o : Op) (x y : RV) : Option RV := match o, x, y with
  | .add, x, y => addApp st x y
  | .mul, x, y => mulApp st x y
  | .sub, x, y => subApp x y
  | o, x, y => int2 o x y
mutual
def ltD : D → D → Option Bool
  | .int a, .int b => some (decide (a < b))
  | .str a, .str b => some (decide (a.cps.toList < b.cps.toList))
  | .tup a, .tup b => ltL a b
  | _, _ => none
def ltL : List D → List D → Option Bool
  | [], [] => some false
  | [], _ :: _ => some true
  | _ :: _, [] => some false
  | x :: xs, y :: ys => if x = y then ltL xs ys else ltD x y
end
def keyOk : D → Bool
  | .int _ => true
  | .str _ => true
  | _ => false
/-- a row of whole numbers, as a key -/
def tkOk : D → Bool
  | .tup xs => xs.all fun x => match x with
    | .int _ => true
    | _ => false
  | _ => false
def dicGet (k : D) : List (D × D) → Option D
  | [] => none
  | (a, v) :: r => if a = k then some v else dicGet k r
/-- in its place, or at the end -/
def dicPut (k v : D) (kvs : List (D × D)) : List (D × D) :=
  if (kvs.any fun p => decide (p.1 = k)) = true then kvs.map (fun p => if p.1 = k then (p.1, v) else p) else kvs ++ [(k, v)]
def inApp (st : Sto) (x y : RV) : Option Bool := match y with
  | .val (.str b) => match x with
    | .val (.str a) => some (!(Builtin.Str.occurrences b a 0 b.length 1).isEmpty)
    | _ => none
  | .val (.ref n) => match st[n]? with
    | some (.dic _ kvs) => match x with
      | .val k => if keyOk k then some (dicGet k kvs).isSome else none
      | _ => none
    | some (.dit _ kvs) => match x with
      | .val k => if tkOk k then some (dicGet k kvs).isSome else none
      | _ => none
    | some (.lst xs) => match rvPy st x, mapO (toPy st 59) xs with
      | some p, some qs => some (qs.any fun q => PyData.eqv q p)
      | _, _ => none
    | _ => none
  | .val (.rol xs) => match rvPy st x, mapO (toPy st 59) xs with
    | some p, some qs => some (qs.any fun q => PyData.eqv q p)
    | _, _ => none
  | .val (.tup xs) => match rvPy st x, mapO (toPy st 59) xs with
    | some p, some qs => some (qs.any fun q => PyData.eqv q p)
    | _, _ => none
  | .tmp xs => match rvPy st x, mapO (toPy st 59) xs with
    | some p, some qs => some (qs.any fun q => PyData.eqv q p)
    | _, _ => none
  | _ => none
def intsOf : List D → Option (List Int) := mapO fun
  | .int i => some i
  | _ => none
def blsOf : List D → Option (List Bool) := mapO fun
  | .bl b => some b
  | _ => none
def strsOf : List D → Option (List Str) := mapO fun
  | .str s => some s
  | _ => none
def isNon : RV → Bool
  | .val .non => true
  | _ => false
def cmpApp (st : Sto) (o : Cm) (x y : RV) : Option Bool := match o with
  | .eq => pyEq st x y
  | .ne => (pyEq st x y).map (!·)
  | .lt => match x, y with
    | .val (.int a), .val (.int b) => some (decide (a < b))
    | .val (.str a), .val (.str b) => some (decide (a.cps.toList < b.cps.toList))
    | .val (.tup a), .val (.tup b) => match intsOf a, intsOf b with
      | some ns, some ms => some (HT.lexLt ns ms)
      | _, _ => none
    | _, _ => none
  | .gt => match x, y with
    | .val (.int a), .val (.int b) => some (decide (b < a))
    | .val (.str a), .val (.str b) => some (decide (b.cps.toList < a.cps.toList))
    | _, _ => none
  | .le => match x, y with
    | .val (.int a), .val (.int b) => some (decide (a ≤ b))
    | .val (.str a), .val (.str b) => some (!decide (b.cps.toList < a.cps.toList))
    | _, _ => none
  | .ge => match x, y with
    | .val (.int a), .val (.int b) => some (decide (b ≤ a))
    | .val (.str a), .val (.str b) => some (!decide (a.cps.toList < b.cps.toList))
    | _, _ => none
  | .isin => inApp st x y
  | .notin => (inApp st x y).map (!·)
  | .isN => match y with
    | .val (.bl b) => match x with
      | .val (.bl a) => some (decide (a = b))
      | _ => none
    | y => if isNon y then some (isNon x) else none
  | .notN => match y with
    | .val (.bl b) => match x with
      | .val (.bl a) => some (!decide (a = b))
      | _ => none
    | y => if isNon y then some (!isNon x) else none
def idxApp (st : Sto) (x y : RV) : Option RV := match y with
  | .val (.int i) => match x with
    | .val (.str s) => if szOk s.length then (L2.atI s.cps.toList i).map fun c => .val (.str ⟨#[c]⟩) else none
    | .val (.ref n) => match st[n]? with
      | some (.lst xs) => (L2.atI xs i).map .val
      | some (.dic _ kvs) => (dicGet (.int i) kvs).map .val
      | _ => none
    | .val (.tup xs) => (L2.atI xs i).map .val
    | .val (.rol xs) => (L2.atI xs i).map .val
    | .tmp xs => (L2.atI xs i).map .val
    | _ => none
  | .val k => match x with
    | .val (.ref n) => match st[n]? with
      | some (.dic _ kvs) => if keyOk k then (dicGet k kvs).map .val else none
      | some (.dit _ kvs) => if tkOk k then (dicGet k kvs).map .val else none
      | _ => none
    | _ => none
  | _ => none
def cutD {α : Type} (xs : List α) (lo hi : Option Int) : List α := (xs.drop (HT.sIx xs.length 0 lo)).take (HT.sIx xs.length xs.length hi - HT.sIx xs.length 0 lo)
def sliApp (st : Sto) (x : RV) (lo hi : Option Int) : Option RV := match x with
  | .val (.tup xs) => some (.val (.tup (cutD xs lo hi)))
  | .val (.str s) => if szOk s.length then some (.val (.str (L2.cutS s lo hi))) else none
  | x => (listOf st x).map fun xs => .tmp (cutD xs lo hi)
def revApp (st : Sto) (x : RV) : Option RV := match x with
  | .val (.tup xs) => some (.val (.tup xs.reverse))
  | x => (listOf st x).map fun xs => .tmp xs.reverse
/-- xs[::s] of a list, s 1 or -1 -/
def stpApp (st : Sto) (x y : RV) : Option RV := match y with
  | .val (.int i) => if i = 1 then (listOf st x).map fun xs => .tmp xs else if i = -1 then (listOf st x).map fun xs => .tmp xs.reverse else none
  | _ => none
def leD (a b : D) : Bool := match ltD b a with
  | some true => false
  | _ => true
/-- a value as data, to be ordered -/
def pyD (st : Sto) (d : D) : PyData := (toPy st 58 d).getD .none
def alikeD (ds : List PyData) : Bool := ds.all fun d => ds.all fun e => PySem.W.alike d e
def tupC : PyData → Bool
  | .tuple (_ :: _) => true
  | _ => false
def notNT : PyData → Bool
  | .none => false
  | .tuple _ => false
  | _ => true
def sortD (st : Sto) (xs : List D) : Option (List D) := match mapO (toPy st 58) xs with
  | some ds => if alikeD ds && ((ds.all tupC || ds.all notNT) && szOk xs.length) then some (xs.mergeSort (PySem.W.dataLe false (pyD st))) else none
  | none => none
/-- each number once -/
def nubI : List Int → List Int
  | [] => []
  | x :: xs => x :: (nubI xs).filter fun y => decide (y ≠ x)
/-- each number once, in order -/
def sortI (is : List Int) : List Int := (nubI is).mergeSort fun a b => decide (a ≤ b)
def minI : List Int → Option Int
  | [] => none
  | x :: xs => some (xs.foldl (fun m y => if y < m then y else m) x)
def maxI : List Int → Option Int
  | [] => none
  | x :: xs => some (xs.foldl (fun m y => if y > m then y else m) x)
/-- min(xs, default=d), max(xs, default=d) -/
def mmApp (mx : Bool) (st : Sto) (x y : RV) : Option RV := match y with
  | .val d => (listOf st x).bind fun xs => (intsOf xs).bind fun ns => some (match (if mx then maxI ns else minI ns) with
    | some i => .val (.int i)
    | none => .val d)
  | _ => none
def strInt (i : Int) : Option Str := if i.natAbs.log2 < 1920 then some (toString i : String) else none
def biLen (st : Sto) : List RV → Option RV
  | [x] => match x with
    | .val (.str s) => if szOk s.length then some (.val (.int s.length)) else none
    | .val (.ref n) => match st[n]? with
      | some (.lst xs) => some (.val (.int xs.length))
      | some (.dic false kvs) => some (.val (.int kvs.length))
      | some (.dit false kvs) => some (.val (.int kvs.length))
      | _ => none
    | .val (.tup xs) => some (.val (.int xs.length))
    | .val (.rol xs) => some (.val (.int xs.length))
    | .tmp xs => some (.val (.int xs.length))
    | _ => none
  | _ => none
def biInt : List RV → Option RV
  | [.val (.int i)] => some (.val (.int i))
  | [.val (.bl b)] => some (.val (.int (if b then 1 else 0)))
  | [.val (.str s)] => if decide (s.length ≤ 640) then (PySem.intText? s).map fun n => .val (.int n) else none
  | _ => none
def biStr : List RV → Option RV
  | [.val (.int i)] => (strInt i).map fun s => .val (.str s)
  | [.val (.str s)] => some (.val (.str s))
  | [.val (.bl b)] => some (.val (.str (if b = true then "True" else "False")))
  | [.val .non] => some (.val (.str "None"))
  | _ => none
def biRepr (st : Sto) : List RV → Option RV
  | [x] => match rvPy st x with
    | some p => if p.showable && decide (p.shown.length ≤ 16777216) then some (.val (.str p.shown)) else none
    | none => none
  | _ => none
def biBool : List RV → Option RV
  | [.val (.int i)] => some (.val (.bl (i != 0)))
  | [.val (.bl b)] => some (.val (.bl b))
  | _ => none
def biTuple (st : Sto) : List RV → Option RV
  | [x] => (seqOf st x).map fun xs => .val (.tup xs)
  | _ => none
def biList (st : Sto) : List RV → Option RV
  | [x] => (seqOf st x).map fun xs => .tmp xs
  | _ => none
mutual
/-- no handle and no locked list within -/
def plnD : D → Bool
  | .ref _ => false
  | .rol _ => false
  | .tup xs => plnL xs
  | _ => true
def plnL : List D → Bool
  | [] => true
  | x :: xs => plnD x && plnL xs
end
def dLt (st : Sto) (a b : D) : Bool := PySem.W.dataLt (pyD st a) (pyD st b)
def notNn : PyData → Bool
  | .none => false
  | _ => true
/-- the first of the least, of the greatest, of data -/
def mmD (mx : Bool) (st : Sto) (xs : List D) : Option D := match mapO (toPy st 58) xs with
  | some ds => if alikeD ds && (ds.all notNn && plnL xs) then match xs with
      | [] => none
      | y :: ys => some (ys.foldl (fun a z => if (if mx then dLt st a z else dLt st z a) then z else a) y)
    else none
  | none => none
def biMaxI (st : Sto) : List RV → Option RV
  | [.val (.int i), .val (.int j)] => some (.val (.int (if j > i then j else i)))
  | [x] => (listOf st x).bind fun xs => (intsOf xs).bind fun ns => (maxI ns).map fun i => .val (.int i)
  | _ => none
def biMinI (st : Sto) : List RV → Option RV
  | [.val (.int i), .val (.int j)] => some (.val (.int (if j < i then j else i)))
  | [x] => (listOf st x).bind fun xs => (intsOf xs).bind fun ns => (minI ns).map fun i => .val (.int i)
  | _ => none
def biMmD (mx : Bool) (st : Sto) : List RV → Option RV
  | [x] => (seqOf st x).bind fun xs => (mmD mx st xs).map .val
  | _ => none
def biMax (st : Sto) (rs : List RV) : Option RV := orE (biMaxI st rs) (biMmD true st rs)
def biMin (st : Sto) (rs : List RV) : Option RV := orE (biMinI st rs) (biMmD false st rs)
def biSum (st : Sto) : List RV → Option RV
  | [x] => (seqOf st x).bind fun xs => (intsOf xs).map fun is => .val (.int is.sum)
  | _ => none
def biAny (st : Sto) : List RV → Option RV
  | [x] => (listOf st x).bind fun xs => (blsOf xs).map fun bs => .val (.bl (bs.any id))
  | _ => none
def biAll (st : Sto) : List RV → Option RV
  | [x] => (listOf st x).bind fun xs => (blsOf xs).map fun bs => .val (.bl (bs.all id))
  | _ => none
def biSortL (st : Sto) : List RV → Option RV
  | [x] => (listOf st x).bind fun xs => (sortD st xs).map .tmp
  | _ => none
/-- sorted(d), d a dict of whole numbers -/
def biSortDI (st : Sto) : List RV → Option RV
  | [.val (.ref n)] => match st[n]? with
    | some (.dic _ kvs) => (intsOf (kvs.map (·.1))).bind fun is => if decide (is.length < 64) = true then some (.tmp ((is.mergeSort fun a b => decide (a ≤ b)).map .int)) else none
    | _ => none
  | _ => none
def biSorted (st : Sto) (rs : List RV) : Option RV := orE (biSortL st rs) (biSortDI st rs)
def biSetI (st : Sto) : List RV → Option RV
  | [x] => (listOf st x).bind fun xs => (intsOf xs).bind fun is => if decide (is.length ≤ 4000) && decide ((nubI is).length < 64) then some (.tmp ((sortI is).map .int)) else none
  | _ => none
/-- rows of whole numbers -/
def rowsOf : List D → Option (List (List Int)) := mapO fun
  | .tup ys => intsOf ys
  | _ => none
def lexB : List Int → List Int → Bool
  | [], _ => true
  | _ :: _, [] => false
  | x :: xs, y :: ys => decide (x < y) || (decide (x = y) && lexB xs ys)
def nubT : List (List Int) → List (List Int)
  | [] => []
  | x :: xs => x :: (nubT xs).filter fun y => decide (y ≠ x)
/-- each row once, in order -/
def sortT (rs : List (List Int)) : List (List Int) := (nubT rs).mergeSort lexB
def biSetT (st : Sto) : List RV → Option RV
  | [x] => (listOf st x).bind fun xs => (rowsOf xs).bind fun rs => match rs with
    | [] => none
    | r0 :: _ => if decide (1 ≤ r0.length) && (decide (rs.length < 64) && rs.all fun r => decide (r.length = r0.length) && r.all fun i => decide (0 ≤ i)) then some (.tmp ((sortT rs).map fun r => .tup (r.map .int))) else none
  | _ => none
def biSet (st : Sto) (rs : List RV) : Option RV := orE (biSetI st rs) (biSetT st rs)
def biAbs : List RV → Option RV
  | [.val (.int i)] => some (.val (.int (if i < 0 then -i else i)))
  | _ => none
/-- list(reversed(t)), t a tuple -/
def biRevl : List RV → Option RV
  | [.val (.tup xs)] => some (.tmp xs.reverse)
  | _ => none
def biApp (st : Sto) (b : BI) (rs : List RV) : Option RV := match b with
  | .len => biLen st rs | .int => biInt rs | .str => biStr rs | .repr => biRepr st rs | .bool => biBool rs | .tuple => biTuple st rs | .list => biList st rs
  | .max => biMax st rs | .min => biMin st rs | .sum => biSum st rs | .any => biAny st rs | .all => biAll st rs | .sorted => biSorted st rs | .set => biSet st rs | .abs => biAbs rs | .revl => biRevl rs
def isTy (st : Sto) (t : Ty) : RV → Option Bool
  | .tmp _ => some (t == .list)
  | .val (.ref n) => match st[n]? with
    | some (.lst _) => some (t == .list)
    | some (.dic _ _) => some (t == .dict)
    | some (.dit false _) => some (t == .dict)
    | _ => none
  | .val .non => some false
  | .val (.bl _) => some (t == .bool || t == .int)
  | .val (.int _) => some (t == .int)
  | .val (.str _) => some (t == .str)
  | .val (.tup _) => some (t == .tuple)
  | .val (.rol _) => some (t == .list)
/-- what kind of thing a method is asked of -/
inductive Kd where
  | lst | dic | str | tup | oth
  deriving DecidableEq
def kdOf (st : Sto) : RV → Kd
  | .tmp _ => .lst
  | .val (.rol _) => .lst
  | .val (.str _) => .str
  | .val (.tup _) => .tup
  | .val (.ref n) => match st[n]? with
    | some (.lst _) => .lst
    | some (.dic _ _) => .dic
    | some (.dit _ _) => .dic
    | _ => .oth
  | _ => .oth
/-! what a method does: the answer, the store behind it -/
def mtAppend (st : Sto) (o : RV) (rs : List RV) : Option (RV × Sto) := match o, rs with
  | .val (.ref n), [r] => match st[n]? with
    | some (.lst xs) => if decide (xs.length < 16777216) then some (.val .non, (mat r st).2.set n (.lst (xs ++ [(mat r st).1]))) else none
    | _ => none
  | _, _ => none
def mtExtend (st : Sto) (o : RV) (rs : List RV) : Option (RV × Sto) := match o, rs with
  | .val (.ref n), [r] => match st[n]? with
    | some (.lst xs) => match mutOf st r with
      | some zs => if szOk (xs.length + zs.length) then some (.val .non, st.set n (.lst (xs ++ zs))) else none
      | none => none
    | _ => none
  | _, _ => none
def mtInsert (st : Sto) (o : RV) (rs : List RV) : Option (RV × Sto) := match o, rs with
  | .val (.ref n), [.val (.int i), r] => match st[n]? with
    | some (.lst xs) => if decide (0 ≤ i ∧ i ≤ xs.length ∧ xs.length < 16777216) then some (.val .non, (mat r st).2.set n (.lst (xs.take i.toNat ++ [(mat r st).1] ++ xs.drop i.toNat))) else none
    | _ => none
  | _, _ => none
def mtPop (st : Sto) (o : RV) (rs : List RV) : Option (RV × Sto) := match o, rs with
  | .val (.ref n), [] => match st[n]? with
    | some (.lst xs) => match xs[xs.length - 1]? with
      | some y => some (.val y, st.set n (.lst xs.dropLast))
      | none => none
    | _ => none
  | .val (.ref n), [.val (.int i)] => match st[n]? with
    | some (.lst xs) => match seqIndex? i xs.length with
      | some k => match xs[k]? with
        | some y => if i62 i then some (.val y, st.set n (.lst (xs.eraseIdx k))) else none
        | none => none
      | none => none
    | _ => none
  | _, _ => none
def mtIndex (st : Sto) (o : RV) (rs : List RV) : Option (RV × Sto) := match rs with
  | [r] => match listOf st o with
    | some xs => match rvPy st r, mapO (toPy st 59) xs with
      | some p, some qs => (qs.findIdx? fun q => PyData.eqv q p).map fun (j : Nat) => (.val (.int (j : Int)), st)
      | _, _ => none
    | none => none
  | _ => none
/-- t.index(x), t a tuple -/
def mtTindex (st : Sto) (o : RV) (rs : List RV) : Option (RV × Sto) := match o, rs with
  | .val (.tup xs), [r] => match rvPy st r, mapO (toPy st 59) xs with
    | some p, some qs => (qs.findIdx? fun q => PyData.eqv q p).map fun (j : Nat) => (.val (.int (j : Int)), st)
    | _, _ => none
  | _, _ => none
def mtGet (st : Sto) (o : RV) (rs : List RV) : Option (RV × Sto) := match o, rs with
  | .val (.ref n), [.val k] => match st[n]? with
    | some (.dic _ kvs) => if keyOk k then some (.val ((dicGet k kvs).getD .non), st) else none
    | some (.dit _ kvs) => if tkOk k then some (.val ((dicGet k kvs).getD .non), st) else none
    | _ => none
  | .val (.ref n), [.val k, r] => match st[n]? with
    | some (.dic _ kvs) => if keyOk k then match dicGet k kvs with
        | some w => some (.val w, st)
        | none => some (r, st)
      else none
    | some (.dit _ kvs) => if tkOk k then match dicGet k kvs with
        | some w => some (.val w, st)
        | none => some (r, st)
      else none
    | _ => none
  | _, _ => none
def mtSetdefault (_ : Sto) (_ : RV) (_ : List RV) : Option (RV × Sto) := none
def mtValues (_ : Sto) (_ : RV) (_ : List RV) : Option (RV × Sto) := none
def mtJoin (st : Sto) (o : RV) (rs : List RV) : Option (RV × Sto) := match o, rs with
  | .val (.str s), [r] => match seqOf st r with
    | some xs => match strsOf xs with
      | some ys => if decide ((ys.map (·.length)).sum + ys.length * s.length ≤ 16777216) then some (.val (.str (Txt.join s ys)), st) else none
      | none => none
    | none => none
  | _, _ => none
def mtSplit (st : Sto) (o : RV) (rs : List RV) : Option (RV × Sto) := match o, rs with
  | .val (.str s), [.val (.str b)] => if (b.length == 0) = false ∧ szOk (s.length + 2) = true then some (.tmp ((Txt.split s b).map .str), st) else none
  | _, _ => none
def mtUpper (st : Sto) (o : RV) (rs : List RV) : Option (RV × Sto) := match o, rs with
  | .val (.str s), [] => if decide (s.length ≤ 5592405) then some (.val (.str (Txt.upper s)), st) else none
  | _, _ => none
def mtApp (st : Sto) (m : MT) (o : RV) (rs : List RV) : Option (RV × Sto) := match m with
  | .append => mtAppend st o rs | .extend => mtExtend st o rs | .insert => mtInsert st o rs | .pop => mtPop st o rs | .index => mtIndex st o rs
  | .get => mtGet st o rs | .setdefault => mtSetdefault st o rs | .values => mtValues st o rs
  | .join => mtJoin st o rs | .split => mtSplit st o rs | .upper => mtUpper st o rs
  | .remove => none | .count => none | .replace => none | .tindex => mtTindex st o rs
def putApp (st : Sto) (o i : RV) (v : D) : Option Sto := match o with
  | .val (.ref n) => match st[n]? with
    | some (.lst xs) => match i with
      | .val (.int k) => (L2.ixN xs.length k).map fun j => st.set n (.lst (xs.set j v))
      | _ => none
    | some (.dic lk kvs) => match lk, i with
      | false, .val k => if keyOk k && decide (kvs.length < 16777216) then some (st.set n (.dic false (dicPut k v kvs))) else none
      | _, _ => none
    | some (.dit lk kvs) => match lk, i with
      | false, .val k => if tkOk k && decide (kvs.length < 16777216) then some (st.set n (.dit false (dicPut k v kvs))) else none
      | _, _ => none
    | _ => none
  | _ => none

/-! ### targets, sources, loops -/
mutual
def setT : Tgt → D → Env → Option Env
  | .nm i, d, σ => some (σ.set i (some d))
  | .tp ts, d, σ => match d with
    | .tup xs => setTs ts xs σ
    | _ => none
def setTs : Tgts → List D → Env → Option Env
  | .nil, ds, σ => match ds with
    | [] => some σ
    | _ => none
  | .cons t ts, ds, σ => match ds with
    | d :: r => match setT t d σ with
      | some σ' => setTs ts r σ'
      | none => none
    | [] => none
end
/-- what is walked: the items, and lists that must stay meanwhile; big: its length is told by nothing -/
structure SV where
  xs : List D
  ws : List (Nat × O) := []
  big : Bool := false
def chk (ws : List (Nat × O)) (st : Sto) : Bool := ws.all fun w => decide (st[w.1]? = some w.2)
def srcSeq (st : Sto) : RV → Option SV
  | .tmp xs => some ⟨xs, [], false⟩
  | .val (.tup xs) => some ⟨xs, [], false⟩
  | .val (.rol xs) => some ⟨xs, [], false⟩
  | .val (.ref n) => match st[n]? with
    | some (.lst xs) => some ⟨xs, [(n, .lst xs)], false⟩
    | _ => none
  | _ => none
def srcOf (st : Sto) (r : RV) : Option SV := match r with
  | .val (.str s) => some ⟨s.cps.toList.map fun c => .str ⟨#[c]⟩, [], true⟩
  | r => srcSeq st r
/-- the keys of a dict, which is written no more from now on -/
def dkOf (st : Sto) : RV → Option (SV × Sto)
  | .val (.ref n) => match st[n]? with
    | some (.dic _ kvs) => some (⟨kvs.map (·.1), [], false⟩, st.set n (.dic true kvs))
    | some (.dit _ kvs) => some (⟨kvs.map (·.1), [], false⟩, st.set n (.dit true kvs))
    | _ => none
  | _ => none
def rangeD (lo : Int) (n : Nat) : List D := (List.range n).map fun (i : Nat) => .int (lo + (i : Int))
def rngOf (rs : List RV) : Option SV := match rs with
  | [.val (.int j)] => if i62 j then some ⟨rangeD 0 j.toNat, [], true⟩ else none
  | [.val (.int i), .val (.int j)] => if i62 i && i62 j then some ⟨rangeD i (j - i).toNat, [], true⟩ else none
  | [.val (.int i), .val (.int j), .val (.int (-1))] => if i62 i && i62 j then some ⟨(List.range (i - j).toNat).map fun (k : Nat) => .int (i - (k : Int)), [], true⟩ else none
  | _ => none
/-- list(range(..)), tuple(range(..)) -/
def losOf (tp : Bool) (r : RV) : Option RV := match rngOf [r] with
  | some v => if szOk v.xs.length then some (if tp then .val (.tup v.xs) else .tmp v.xs) else none
  | none => none
def enmD (k : Nat) : List D → List D
  | [] => []
  | x :: xs => .tup [.int k, x] :: enmD (k + 1) xs
def zpOf (st : Sto) (rs : List RV) : Option SV := match rs with
  | [a, b] => match srcSeq st a, srcSeq st b with
    | some p, some q => some ⟨List.zipWith (fun x y => .tup [x, y]) p.xs q.xs, p.ws ++ q.ws, false⟩
    | _, _ => none
  | [a, b, c] => match srcSeq st a, srcSeq st b, srcSeq st c with
    | some p, some q, some r => some ⟨List.zipWith (fun x (y : D × D) => .tup [x, y.1, y.2]) p.xs (q.xs.zip r.xs), p.ws ++ q.ws ++ r.ws, false⟩
    | _, _, _ => none
  | _ => none

inductive Fl where
  | nx | rt (d : D) | bk | ct
  deriving Inhabited
abbrev Call := Str → List D → Sto → Option (D × Sto)
def wipeD (σ : Env) : List Nat → Env
  | [] => σ
  | v :: vs => (wipeD σ vs).set v none
/-- a comprehension's turns -/
def compL (ws : List (Nat × O)) (t : D → Option Env) (c : Env → Sto → Option (Bool × Sto)) (e : Env → Sto → Option (RV × Sto)) : List D → Sto → Option (List D × Sto)
  | [], st => if chk ws st then some ([], st) else none
  | x :: xs, st => if chk ws st then match t x with
      | none => none
      | some σ => match c σ st with
        | none => none
        | some (false, st) => compL ws t c e xs st
        | some (true, st) => match e σ st with
          | none => none
          | some (r, st) => match compL ws t c e xs (mat r st).2 with
            | none => none
            | some (ys, st') => some ((mat r st).1 :: ys, st')
    else none
def forL (ws : List (Nat × O)) (t : D → Env → Option Env) (b : Env → Sto → Option (Fl × Env × Sto)) : List D → Env → Sto → Option (Fl × Env × Sto)
  | [], σ, st => if chk ws st then some (.nx, σ, st) else none
  | x :: xs, σ, st => if chk ws st then match t x σ with
      | none => none
      | some σ => match b σ st with
        | some (.nx, σ, st) => forL ws t b xs σ st
        | some (.ct, σ, st) => forL ws t b xs σ st
        | some (.bk, σ, st) => some (.nx, σ, st)
        | r => r
    else none
def whileL (c : Env → Sto → Option (Bool × Sto)) (b : Env → Sto → Option (Fl × Env × Sto)) : Nat → Env → Sto → Option (Fl × Env × Sto)
  | 0, _, _ => none
  | n + 1, σ, st => match c σ st with
    | none => none
    | some (false, st) => some (.nx, σ, st)
    | some (true, st) => match b σ st with
      | some (.nx, σ, st) => whileL c b n σ st
      | some (.ct, σ, st) => whileL c b n σ st
      | some (.bk, σ, st) => some (.nx, σ, st)
      | r => r

/-! ### expressions -/
mutual
def ev (C : Call) : CE → Env → Sto → Option (RV × Sto)
  | .var i, σ, st => match σ[i]? with
    | some (some d) => some (.val d, st)
    | _ => none
  | .cst d, _, st => some (.val d, st)
  | .bin o a b, σ, st => match ev C a σ st with
    | none => none
    | some (x, st) => match ev C b σ st with
      | none => none
      | some (y, st) => (binApp st o x y).map fun r => (r, st)
  | .neg a, σ, st => match ev C a σ st with
    | some (.val (.int i), st) => some (.val (.int (-i)), st)
    | _ => none
  | .not a, σ, st => match ev C a σ st with
    | none => none
    | some (x, st) => (truth st x).map fun b => (.val (.bl (!b)), st)
  | .cmp o a b, σ, st => match ev C a σ st with
    | none => none
    | some (x, st) => match ev C b σ st with
      | none => none
      | some (y, st) => (cmpApp st o x y).map fun r => (.val (.bl r), st)
  | .chain o o' a b c, σ, st => match ev C a σ st with
    | none => none
    | some (x, st) => match ev C b σ st with
      | none => none
      | some (y, st) => match cmpApp st o x y with
        | none => none
        | some false => some (.val (.bl false), st)
        | some true => match ev C c σ st with
          | none => none
          | some (z, st) => (cmpApp st o' y z).map fun r => (.val (.bl r), st)
  | .and a b, σ, st => match ev C a σ st with
    | none => none
    | some (x, st) => match truth st x with
      | none => none
      | some false => some (x, st)
      | some true => ev C b σ st
  | .or a b, σ, st => match ev C a σ st with
    | none => none
    | some (x, st) => match truth st x with
      | none => none
      | some true => some (x, st)
      | some false => ev C b σ st
  | .ite c a b, σ, st => match ev C c σ st with
    | none => none
    | some (x, st) => match truth st x with
      | none => none
      | some true => ev C a σ st
      | some false => ev C b σ st
  | .tup es, σ, st => (evA C es σ st).map fun r => (.val (.tup r.1), r.2)
  | .lst es, σ, st => (evA C es σ st).map fun r => (.tmp r.1, r.2)
  | .idx a i, σ, st => match ev C a σ st with
    | none => none
    | some (x, st) => match ev C i σ st with
      | none => none
      | some (y, st) => (idxApp st x y).map fun r => (r, st)
  | .sli a lo hi, σ, st => match ev C a σ st with
    | none => none
    | some (x, st) => match evP C lo σ st with
      | none => none
      | some (l, st) => match evP C hi σ st with
        | none => none
        | some (h, st) => (sliApp st x l h).map fun r => (r, st)
  | .rev a, σ, st => match ev C a σ st with
    | none => none
    | some (x, st) => (revApp st x).map fun r => (r, st)
  | .stp a i, σ, st => match ev C a σ st with
    | none => none
    | some (x, st) => match ev C i σ st with
      | none => none
      | some (y, st) => (stpApp st x y).map fun r => (r, st)
  | .mm mx a d, σ, st => match ev C a σ st with
    | none => none
    | some (x, st) => match ev C d σ st with
      | none => none
      | some (y, st) => (mmApp mx st x y).map fun r => (r, st)
  | .los tp a, σ, st => match ev C a σ st with
    | none => none
    | some (x, st) => (losOf tp x).map fun r => (r, st)
  | .call f es, σ, st => match evA C es σ st with
    | none => none
    | some (ds, st) => (C f ds st).map fun r => (.val r.1, r.2)
  | .bi b es, σ, st => match evR C es σ st with
    | none => none
    | some (rs, st) => (biApp st b rs).map fun r => (r, st)
  | .mt m o es, σ, st => match ev C o σ st with
    | none => none
    | some (x, st) => match evR C es σ st with
      | none => none
      | some (rs, st') => if kdOf st x = kdOf st' x then mtApp st' m x rs else none
  | .isi a t, σ, st => match ev C a σ st with
    | none => none
    | some (x, st) => (isTy st t x).map fun b => (.val (.bl b), st)
  | .comp t s c e own, σ, st => match evS C s σ st with
    | none => none
    | some (v, st) => if v.big = false ∨ szOk v.xs.length = true then (compL v.ws (fun d => setT t d (wipeD σ own)) (fun σ st => evC C c σ st) (fun σ st => ev C e σ st) v.xs st).map fun r => (.tmp r.1, r.2) else none
  | .dic0, _, st => some (.val (.ref st.length), st ++ [.dic false []])
  | .dit0, _, st => some (.val (.ref st.length), st ++ [.dit false []])
  | .dic1 k v, σ, st => match ev C k σ st with
    | none => none
    | some (x, st) => match ev C v σ st with
      | none => none
      | some (y, st) => match x with
        | .val d => if keyOk d then some (.val (.ref (mat y st).2.length), (mat y st).2 ++ [.dic false [(d, (mat y st).1)]]) else none
        | _ => none
  | .dit1 k v, σ, st => match ev C k σ st with
    | none => none
    | some (x, st) => match ev C v σ st with
      | none => none
      | some (y, st) => match x with
        | .val d => if tkOk d then some (.val (.ref (mat y st).2.length), (mat y st).2 ++ [.dit false [(d, (mat y st).1)]]) else none
        | _ => none
  | .bad, _, _ => none
/-- values of arguments, from the left, each laid down -/
def evA (C : Call) : CEs → Env → Sto → Option (List D × Sto)
  | .nil, _, st => some ([], st)
  | .cons e es, σ, st => match ev C e σ st with
    | none => none
    | some (r, st) => match evA C es σ (mat r st).2 with
      | none => none
      | some (ds, st') => some ((mat r st).1 :: ds, st')
def evR (C : Call) : CEs → Env → Sto → Option (List RV × Sto)
  | .nil, _, st => some ([], st)
  | .cons e es, σ, st => match ev C e σ st with
    | none => none
    | some (r, st) => match evR C es σ st with
      | none => none
      | some (rs, st) => some (r :: rs, st)
/-- a slice's part: left out, or a number -/
def evP (C : Call) : CEs → Env → Sto → Option (Option Int × Sto)
  | .nil, _, st => some (none, st)
  | .cons e es, σ, st => match es with
    | .nil => match ev C e σ st with
      | some (.val (.int i), st) => some (some i, st)
      | _ => none
    | _ => none
/-- a comprehension's tests, all -/
def evC (C : Call) : CEs → Env → Sto → Option (Bool × Sto)
  | .nil, _, st => some (true, st)
  | .cons e es, σ, st => match ev C e σ st with
    | none => none
    | some (x, st) => match truth st x with
      | none => none
      | some false => some (false, st)
      | some true => evC C es σ st
def evS (C : Call) : Src → Env → Sto → Option (SV × Sto)
  | .ex e, σ, st => match ev C e σ st with
    | none => none
    | some (x, st) => (srcOf st x).map fun v => (v, st)
  | .rng es, σ, st => match evR C es σ st with
    | none => none
    | some (rs, st) => (rngOf rs).map fun v => (v, st)
  | .enm e, σ, st => match ev C e σ st with
    | none => none
    | some (x, st) => (srcSeq st x).map fun v => (⟨enmD 0 v.xs, v.ws, false⟩, st)
  | .zp es, σ, st => match evR C es σ st with
    | none => none
    | some (rs, st) => (zpOf st rs).map fun v => (v, st)
  | .rv e, σ, st => match ev C e σ st with
    | none => none
    | some (x, st) => (srcSeq st x).map fun v => (⟨v.xs.reverse, v.ws, false⟩, st)
  | .dk e, σ, st => match ev C e σ st with
    | none => none
    | some (x, st) => dkOf st x
end
/-- a test -/
def evT (C : Call) (e : CE) (σ : Env) (st : Sto) : Option (Bool × Sto) := match ev C e σ st with
  | none => none
  | some (x, st) => (truth st x).map fun b => (b, st)

/-! ### statements -/
mutual
def exS (C : Call) (n : Nat) : CS → Env → Sto → Option (Fl × Env × Sto)
  | .asg t e, σ, st => match ev C e σ st with
    | none => none
    | some (r, st) => (setT t (mat r st).1 σ).map fun σ' => (.nx, σ', (mat r st).2)
  | .aug i o e, σ, st => match σ[i]? with
    | some (some d) => match ev C e σ st with
      | none => none
      | some (y, st) => match d, y with
        | .int a, .val (.int b) => match o with
          | .add => some (.nx, σ.set i (some (.int (a + b))), st)
          | .sub => some (.nx, σ.set i (some (.int (a - b))), st)
          | _ => none
        | _, _ => none
    | _ => none
  | .put o i e, σ, st => match ev C e σ st with
    | none => none
    | some (r, st) => match ev C o σ (mat r st).2 with
      | none => none
      | some (x, st') => match ev C i σ st' with
        | none => none
        | some (y, st') => (putApp st' x y (mat r st).1).map fun s => (.nx, σ, s)
  | .expr e, σ, st => match ev C e σ st with
    | none => none
    | some (_, st) => some (.nx, σ, st)
  | .ret e, σ, st => match ev C e σ st with
    | none => none
    | some (r, st) => some (.rt (mat r st).1, σ, (mat r st).2)
  | .retN, σ, st => some (.rt .non, σ, st)
  | .ite c a b, σ, st => match evT C c σ st with
    | none => none
    | some (true, st) => exs C n a σ st
    | some (false, st) => exs C n b σ st
  | .for t s b, σ, st => match evS C s σ st with
    | none => none
    | some (v, st) => forL v.ws (fun d σ => setT t d σ) (fun σ st => exs C n b σ st) v.xs σ st
  | .while c b, σ, st => whileL (fun σ st => evT C c σ st) (fun σ st => exs C n b σ st) n σ st
  | .brk, σ, st => some (.bk, σ, st)
  | .cont, σ, st => some (.ct, σ, st)
  | .pass, σ, st => some (.nx, σ, st)
  | .bad, _, _ => none
def exs (C : Call) (n : Nat) : CSs → Env → Sto → Option (Fl × Env × Sto)
  | .nil, σ, st => some (.nx, σ, st)
  | .cons s ss, σ, st => match exS C n s σ st with
    | some (.nx, σ, st) => exs C n ss σ st
    | r => r
end

/-! ### calls -/
mutual
def D.low (m : Nat) : D → Bool
  | .ref n => decide (n < m)
  | .tup xs => D.lowL m xs
  | .rol xs => D.lowL m xs
  | _ => true
def D.lowL (m : Nat) : List D → Bool
  | [] => true
  | x :: xs => D.low m x && D.lowL m xs
end
def O.low (m : Nat) : O → Bool
  | .lst xs => D.lowL m xs
  | .dic _ kvs => kvs.all fun p => p.1.low m && p.2.low m
  | .dit _ kvs => kvs.all fun p => p.1.low m && p.2.low m
  | .ins _ fs => fs.all fun p => p.2.low m
/-- behind a call: objects that nothing holds any more are let go -/
def gcOld (st st' : Sto) : Bool := decide (st.length ≤ st'.length) && (List.range st.length).all fun i => decide (st'[i]? = st[i]?) || (match st'[i]? with
  | some o => o.low st.length
  | none => false)
def gc (st : Sto) (d : D) (st' : Sto) : D × Sto :=
  if gcOld st st' then
    if d.low st.length then (d, st'.take st.length)
    else match d with
      | .ref n => match st'[n]? with
        | some o => if o.low st.length then (.ref st.length, st'.take st.length ++ [o]) else (d, st')
        | none => (d, st')
      | _ => (d, st')
  else (d, st')
structure Fd where
  np : Nat
  ns : Nat
  body : CSs
abbrev Tab := List (Str × Fd)
def callF (T : Tab) (n : Nat) : Nat → Call
  | 0 => fun _ _ _ => none
  | k + 1 => fun f ds st => match T.lookup f with
    | none => none
    | some fd => if ds.length = fd.np then match exs (callF T n k) n fd.body (ds.map some ++ List.replicate (fd.ns - fd.np) none) st with
        | some (.rt d, _, st') => some (gc st d st')
        | some (.nx, _, st') => some (gc st .non st')
        | _ => none
      else none
end Mw

set_option Elab.async false
set_option linter.all false
set_option autoImplicit false
set_option maxRecDepth 100000
/-! PyB: how values and stores lie in the abstract heap of the hand layer; each operation keeps that. -/
namespace Mw
open PySem PySem.Spec PyProof.Rows L2

/-- a list that nobody writes: locked, or of the written part -/
def SqF (K : PySem.W.Frag) (H : Hp) (a : Addr) (xs : List V) : Prop :=
  (∃ o, H a = some (.frz o (.lst xs))) ∨
    ∃ (o : Obj) (its : Array Value) (n : Nat), K.lookup a = some o ∧ o.cls = .type "list" ∧ o.dict = none ∧ o.data = .seq its n ∧ its.size ≤ sizeLine ∧ Vals xs its.toList
theorem SqF.sq {K : PySem.W.Frag} {H : Hp} {a : Addr} {xs : List V} (h : SqF K H a xs) : SqL K H a xs := by
  rcases h with ⟨o, h⟩ | h
  · exact .inl (.inr ⟨o, h⟩)
  · exact .inr h
/-- a tuple; one of whole numbers alone is tracked -/
def SqU (K : PySem.W.Frag) (H : Hp) (a : Addr) (vs : List V) : Prop := H a = some (.tup vs) ∨ (SqT K H a vs ∧ ∃ v ∈ vs, ∀ i, v ≠ .int i)
theorem SqU.of {K : PySem.W.Frag} {H : Hp} {a : Addr} {vs : List V} (h : H a = some (.tup vs)) : SqU K H a vs := .inl h
theorem SqU.sq {K : PySem.W.Frag} {H : Hp} {a : Addr} {vs : List V} (h : SqU K H a vs) : SqT K H a vs := by
  rcases h with h | h
  · exact SqT.of h
  · exact h.1
mutual
def Rep (K : PySem.W.Frag) (β : List Addr) (H : Hp) : D → V → Prop
  | .non, v => v = .non
  | .bl b, v => v = .bl b
  | .int i, v => v = .int i
  | .str s, v => v = .str s
  | .tup xs, v => ∃ a vs, v = .ref a ∧ SqU K H a vs ∧ RepL K β H xs vs
  | .rol xs, v => ∃ a vs, v = .ref a ∧ SqF K H a vs ∧ RepL K β H xs vs
  | .ref n, v => ∃ a, β[n]? = some a ∧ v = .ref a
def RepL (K : PySem.W.Frag) (β : List Addr) (H : Hp) : List D → List V → Prop
  | [], vs => vs = []
  | x :: xs, vs => ∃ v r, vs = v :: r ∧ Rep K β H x v ∧ RepL K β H xs r
end
def keyD : Key → D
  | .inl i => .int i
  | .inr x => .str x
/-- the keys -/
def DicR (kvs : List (D × D)) (ks : List (Key × V)) : Prop := kvs.map (·.1) = ks.map fun p => keyD p.1
def tkD (k : List Key) : D := .tup (k.map keyD)
/-- the keys, rows of whole numbers -/
def DicT (kvs : List (D × D)) (ks : List (List Key × V)) : Prop := kvs.map (·.1) = ks.map fun p => tkD p.1
/-- an object of the store and what stands at its address -/
def ObjR (K : PySem.W.Frag) (β : List Addr) (H : Hp) (a : Addr) : O → Prop
  | .lst xs => ∃ vs, H a = some (.lst vs) ∧ RepL K β H xs vs
  | .dic lk kvs => ∃ ks : List (Key × V), (if lk = true then ∃ o, H a = some (.frz o (.dK ks)) else H a = some (.dK ks)) ∧ DicR kvs ks ∧ RepL K β H (kvs.map (·.2)) (ks.map (·.2))
  | .dit lk kvs => ∃ ks : List (List Key × V), (if lk = true then ∃ o, H a = some (.frz o (.dT ks)) else H a = some (.dT ks)) ∧ DicT kvs ks ∧ RepL K β H (kvs.map (·.2)) (ks.map (·.2))
  | .ins _ _ => False
structure Sim (K : PySem.W.Frag) (β : List Addr) (st : Sto) (H : Hp) : Prop where
  len : β.length = st.length
  nd : β.Nodup
  obj : ∀ (n : Nat) (a : Addr) (o : O), β[n]? = some a → st[n]? = some o → ObjR K β H a o
/-- what is not held by the store stays -/
def Keep (β : List Addr) (H H' : Hp) : Prop := ∀ b o, H b = some o → b ∉ β → H' b = some o
structure Ext (β : List Addr) (H : Hp) (β' : List Addr) (H' : Hp) : Prop where
  pre : ∃ new, β' = β ++ new ∧ ∀ b ∈ new, H b = none
  keep : Keep β H H'
  frz : ∀ b o u, H b = some (.frz o u) → H' b = some (.frz o u)
/-- an answer of an expression: H0 is the heap ahead of it -/
def RRep (K : PySem.W.Frag) (β : List Addr) (H H0 : Hp) : RV → V → Prop
  | .val d, v => Rep K β H d v
  | .tmp xs, v => ∃ a vs, v = .ref a ∧ H a = some (.lst vs) ∧ a ∉ β ∧ H0 a = none ∧ RepL K β H xs vs
def EnvR (K : PySem.W.Frag) (β : List Addr) (H : Hp) (ρ : Env) (σ : L2.St) : Prop :=
  ρ.length = σ.length ∧ ∀ (i : Nat) (d : D), ρ[i]? = some (some d) → ∃ v, σ[i]? = some (some v) ∧ Rep K β H d v

section
variable {K : PySem.W.Frag} {β β' β1 β2 : List Addr} {H H' H0 H1 H2 : Hp} {st st' : Sto}
theorem Ext.refl : Ext β H β H := ⟨⟨[], by simp⟩, fun _ _ h _ => h, fun _ _ _ h => h⟩
theorem Ext.mem (e : Ext β H β' H') {b : Addr} (h : b ∈ β) : b ∈ β' := by
  obtain ⟨new, rfl, _⟩ := e.pre
  exact List.mem_append_left _ h
theorem Ext.get (e : Ext β H β' H') {n : Nat} {a : Addr} (h : β[n]? = some a) : β'[n]? = some a := by
  obtain ⟨new, rfl, _⟩ := e.pre
  rw [List.getElem?_append_left (List.getElem?_eq_some_iff.mp h).1]
  exact h
/-- what was untracked or unheld behind a step was free ahead of it -/
theorem Ext.free (e : Ext β H β' H') {a : Addr} (h : H' a = none) (n : a ∉ β) : H a = none := by
  cases q : H a with
  | none => rfl
  | some o => rw [e.keep a o q n] at h; cases h
theorem Ext.trans (a : Ext β H β1 H1) (b : Ext β1 H1 β2 H2) (nd : β2.Nodup) : Ext β H β2 H2 := by
  obtain ⟨n1, e1, f1⟩ := a.pre
  obtain ⟨n2, e2, f2⟩ := b.pre
  refine ⟨⟨n1 ++ n2, by rw [e2, e1, List.append_assoc], fun c hc => ?_⟩, fun c o h n => ?_, fun c o u h => b.frz c o u (a.frz c o u h)⟩
  · rcases List.mem_append.mp hc with h | h
    · exact f1 c h
    · refine a.free (f2 c h) fun hm => ?_
      rw [e2, e1] at nd
      exact (List.nodup_append.mp nd).2.2 c (List.mem_append_left _ hm) c h rfl
  · refine b.keep c o (a.keep c o h n) fun hm => ?_
    rw [e1] at hm
    rcases List.mem_append.mp hm with h' | h'
    · exact n h'
    · rw [f1 c h'] at h; cases h
theorem Sim.at_ (s : Sim K β st H) {n : Nat} {a : Addr} (h : β[n]? = some a) : ∃ o, st[n]? = some o ∧ ObjR K β H a o := by
  have hl := (List.getElem?_eq_some_iff.mp h).1
  rw [s.len] at hl
  exact ⟨st[n], by simp [hl], s.obj n a _ h (by simp [hl])⟩
theorem Sim.addr (s : Sim K β st H) {n : Nat} {o : O} (h : st[n]? = some o) : ∃ a, β[n]? = some a ∧ ObjR K β H a o := by
  have hl := (List.getElem?_eq_some_iff.mp h).1
  rw [← s.len] at hl
  exact ⟨β[n], by simp [hl], s.obj n _ _ (by simp [hl]) h⟩
theorem Sim.held (s : Sim K β st H) {a : Addr} (h : a ∈ β) : (∃ vs, H a = some (.lst vs)) ∨ (∃ ks, H a = some (.dK ks)) ∨ (∃ o ks, H a = some (.frz o (.dK ks))) ∨ (∃ ks, H a = some (.dT ks)) ∨ ∃ o ks, H a = some (.frz o (.dT ks)) := by
  obtain ⟨n, hn⟩ := List.getElem?_of_mem h
  obtain ⟨o, _, r⟩ := s.at_ hn
  cases o with
  | lst xs => obtain ⟨vs, e, _⟩ := r; exact .inl ⟨vs, e⟩
  | dic lk _ =>
    obtain ⟨ks, e, _⟩ := r
    cases lk with
    | false => exact .inr (.inl ⟨ks, e⟩)
    | true => obtain ⟨o, e⟩ := e; exact .inr (.inr (.inl ⟨o, ks, e⟩))
  | dit lk _ =>
    obtain ⟨ks, e, _⟩ := r
    cases lk with
    | false => exact .inr (.inr (.inr (.inl ⟨ks, e⟩)))
    | true => obtain ⟨o, e⟩ := e; exact .inr (.inr (.inr (.inr ⟨o, ks, e⟩)))
  | ins _ _ => exact r.elim
theorem Sim.off (s : Sim K β st H) {a : Addr} (h : H a = none) : a ∉ β := fun hm => by
  rcases s.held hm with ⟨vs, e⟩ | ⟨ks, e⟩ | ⟨o, ks, e⟩ | ⟨ks, e⟩ | ⟨o, ks, e⟩ <;> (rw [h] at e; cases e)
theorem Sim.tup (s : Sim K β st H) (k : Keep β H H') {a : Addr} {vs : List V} (h : SqT K H a vs) : SqT K H' a vs := by
  rcases h with h | h
  · refine .inl ?_
    rcases h with h | ⟨o, h⟩
    · exact .inl (k a _ h fun hm => by rcases s.held hm with ⟨vs, e⟩ | ⟨ks, e⟩ | ⟨o, ks, e⟩ | ⟨ks, e⟩ | ⟨o, ks, e⟩ <;> (rw [h] at e; cases e))
    · exact .inr ⟨o, k a _ h fun hm => by rcases s.held hm with ⟨vs, e⟩ | ⟨ks, e⟩ | ⟨o, ks, e⟩ | ⟨ks, e⟩ | ⟨o, ks, e⟩ <;> (rw [h] at e; cases e)⟩
  · exact .inr h
theorem Sim.tupU (s : Sim K β st H) (k : Keep β H H') {a : Addr} {vs : List V} (h : SqU K H a vs) : SqU K H' a vs := by
  rcases h with h | ⟨h, q⟩
  · exact .inl (k a _ h fun hm => by rcases s.held hm with ⟨vs, e⟩ | ⟨ks, e⟩ | ⟨o, ks, e⟩ | ⟨ks, e⟩ | ⟨o, ks, e⟩ <;> (rw [h] at e; cases e))
  · exact .inr ⟨s.tup k h, q⟩
theorem Sim.fro (s : Sim K β st H) (k : Keep β H H') {a : Addr} {vs : List V} (h : SqF K H a vs) : SqF K H' a vs := by
  rcases h with ⟨o, h⟩ | h
  · exact .inl ⟨o, k a _ h fun hm => by rcases s.held hm with ⟨vs, e⟩ | ⟨ks, e⟩ | ⟨o, ks, e⟩ | ⟨ks, e⟩ | ⟨o, ks, e⟩ <;> (rw [h] at e; cases e)⟩
  · exact .inr h
mutual
theorem Rep.mono (s : Sim K β st H) (e : Ext β H β' H') : ∀ (d : D) (v : V), Rep K β H d v → Rep K β' H' d v
  | .non, _, h => h
  | .bl _, _, h => h
  | .int _, _, h => h
  | .str _, _, h => h
  | .tup xs, v, h => by
    obtain ⟨a, vs, e1, h1, h2⟩ := h
    exact ⟨a, vs, e1, s.tupU e.keep h1, RepL.mono s e xs vs h2⟩
  | .rol xs, v, h => by
    obtain ⟨a, vs, e1, h1, h2⟩ := h
    exact ⟨a, vs, e1, s.fro e.keep h1, RepL.mono s e xs vs h2⟩
  | .ref n, v, h => by
    obtain ⟨a, h1, h2⟩ := h
    exact ⟨a, e.get h1, h2⟩
theorem RepL.mono (s : Sim K β st H) (e : Ext β H β' H') : ∀ (ds : List D) (vs : List V), RepL K β H ds vs → RepL K β' H' ds vs
  | [], _, h => h
  | x :: xs, vs, h => by
    obtain ⟨v, r, e1, h1, h2⟩ := h
    exact ⟨v, r, e1, Rep.mono s e x v h1, RepL.mono s e xs r h2⟩
end
theorem RRep.mono (s : Sim K β st H) (e : Ext β H β' H') (nd : β'.Nodup) {r : RV} {v : V} (h : RRep K β H H0 r v) : RRep K β' H' H0 r v := by
  cases r with
  | val d => exact Rep.mono s e d v h
  | tmp xs =>
    obtain ⟨a, vs, e1, h1, h2, h3, h4⟩ := h
    refine ⟨a, vs, e1, e.keep a _ h1 h2, fun hm => ?_, h3, RepL.mono s e xs vs h4⟩
    obtain ⟨new, rfl, f⟩ := e.pre
    rcases List.mem_append.mp hm with z | z
    · exact h2 z
    · rw [f a z] at h1; cases h1
/-- the heap ahead taken further back -/
theorem RRep.back (e : Ext β H0 β1 H1) (e2 : Ext β1 H1 β2 H2) {r : RV} {v : V} (h : RRep K β2 H2 H1 r v) : RRep K β2 H2 H0 r v := by
  cases r with
  | val d => exact h
  | tmp xs =>
    obtain ⟨a, vs, e1, h1, h2, h3, h4⟩ := h
    exact ⟨a, vs, e1, h1, h2, e.free h3 fun hm => h2 (e2.mem (e.mem hm)), h4⟩
theorem EnvR.mono (s : Sim K β st H) (e : Ext β H β' H') {ρ : Env} {σ : L2.St} (h : EnvR K β H ρ σ) : EnvR K β' H' ρ σ :=
  ⟨h.1, fun i d hi => let ⟨v, h1, h2⟩ := h.2 i d hi; ⟨v, h1, Rep.mono s e d v h2⟩⟩
theorem EnvR.get {ρ : Env} {σ : L2.St} (h : EnvR K β H ρ σ) {i : Nat} {d : D} (hi : ρ[i]? = some (some d)) : ∃ v, σ[i]? = some (some v) ∧ Rep K β H d v := h.2 i d hi
theorem EnvR.set {ρ : Env} {σ : L2.St} (h : EnvR K β H ρ σ) {i : Nat} {d : D} {v : V} (r : Rep K β H d v) : EnvR K β H (ρ.set i (some d)) (σ.set i (some v)) := by
  refine ⟨by simp [h.1], fun j e hj => ?_⟩
  by_cases hij : i = j
  · subst hij
    by_cases hl : i < ρ.length
    · rw [List.getElem?_set_self hl] at hj
      have hl2 : i < σ.length := h.1 ▸ hl
      rw [List.getElem?_set_self hl2]
      simp only [Option.some.injEq] at hj
      subst hj
      exact ⟨v, rfl, r⟩
    · rw [List.getElem?_eq_none (by simp; omega)] at hj; cases hj
  · rw [List.getElem?_set_ne hij] at hj ⊢
    exact h.2 j e hj
theorem RepL.length : ∀ {xs : List D} {vs : List V}, RepL K β H xs vs → xs.length = vs.length
  | [], _, h => by simp only [RepL] at h; subst h; rfl
  | x :: xs, _, h => by
    obtain ⟨v, r, rfl, _, h2⟩ := h
    simp [RepL.length h2]
theorem RepL.get : ∀ {xs : List D} {vs : List V} {i : Nat} {d : D}, RepL K β H xs vs → xs[i]? = some d → ∃ v, vs[i]? = some v ∧ Rep K β H d v
  | [], _, _, _, _, hi => by simp at hi
  | x :: xs, _, 0, d, h, hi => by
    obtain ⟨v, r, rfl, h1, _⟩ := h
    simp at hi; subst hi
    exact ⟨v, rfl, h1⟩
  | x :: xs, _, i + 1, d, h, hi => by
    obtain ⟨v, r, rfl, _, h2⟩ := h
    exact RepL.get (i := i) h2 (by simpa using hi)
theorem RepL.append : ∀ {xs ys : List D} {vs ws : List V}, RepL K β H xs vs → RepL K β H ys ws → RepL K β H (xs ++ ys) (vs ++ ws)
  | [], _, _, _, h, q => by simp only [RepL] at h; subst h; exact q
  | x :: xs, _, _, _, h, q => by
    obtain ⟨v, r, rfl, h1, h2⟩ := h
    exact ⟨v, r ++ _, rfl, h1, RepL.append h2 q⟩
theorem RepL.take : ∀ {xs : List D} {vs : List V} (n : Nat), RepL K β H xs vs → RepL K β H (xs.take n) (vs.take n)
  | _, _, 0, _ => by simp [RepL]
  | [], _, n + 1, h => by simp only [RepL] at h; subst h; simp [RepL]
  | x :: xs, _, n + 1, h => by
    obtain ⟨v, r, rfl, h1, h2⟩ := h
    exact ⟨v, r.take n, rfl, h1, RepL.take n h2⟩
theorem RepL.drop : ∀ {xs : List D} {vs : List V} (n : Nat), RepL K β H xs vs → RepL K β H (xs.drop n) (vs.drop n)
  | _, _, 0, h => h
  | [], _, n + 1, h => by simp only [RepL] at h; subst h; simp [RepL]
  | x :: xs, _, n + 1, h => by
    obtain ⟨v, r, rfl, h1, h2⟩ := h
    exact RepL.drop n h2
theorem RepL.set : ∀ {xs : List D} {vs : List V} (i : Nat) {d : D} {v : V}, RepL K β H xs vs → Rep K β H d v → RepL K β H (xs.set i d) (vs.set i v)
  | [], _, _, _, _, h, _ => by simp only [RepL] at h; subst h; simp [RepL]
  | x :: xs, _, 0, d, w, h, q => by
    obtain ⟨v, r, rfl, h1, h2⟩ := h
    exact ⟨w, r, rfl, q, h2⟩
  | x :: xs, _, i + 1, d, w, h, q => by
    obtain ⟨v, r, rfl, h1, h2⟩ := h
    exact ⟨v, r.set i w, rfl, h1, RepL.set i h2 q⟩
theorem RepL.erase : ∀ {xs : List D} {vs : List V} (i : Nat), RepL K β H xs vs → RepL K β H (xs.eraseIdx i) (vs.eraseIdx i)
  | [], _, _, h => by simp only [RepL] at h; subst h; simp [RepL]
  | x :: xs, _, 0, h => by
    obtain ⟨v, r, rfl, h1, h2⟩ := h
    exact h2
  | x :: xs, _, i + 1, h => by
    obtain ⟨v, r, rfl, h1, h2⟩ := h
    exact ⟨v, r.eraseIdx i, rfl, h1, RepL.erase i h2⟩
theorem RepL.one {d : D} {v : V} (h : Rep K β H d v) : RepL K β H [d] [v] := ⟨v, [], rfl, h, rfl⟩
theorem RepL.reverse : ∀ {xs : List D} {vs : List V}, RepL K β H xs vs → RepL K β H xs.reverse vs.reverse
  | [], _, h => by simp only [RepL] at h; subst h; simp [RepL]
  | x :: xs, _, h => by
    obtain ⟨v, r, rfl, h1, h2⟩ := h
    simp only [List.reverse_cons]
    exact RepL.append (RepL.reverse h2) (RepL.one h1)
theorem RepL.rep : ∀ (k : Nat) {xs : List D} {vs : List V}, RepL K β H xs vs → RepL K β H (List.replicate k xs).flatten (List.replicate k vs).flatten
  | 0, _, _, _ => by simp [RepL]
  | k + 1, _, _, h => by
    simp only [List.replicate_succ, List.flatten_cons]
    exact RepL.append h (RepL.rep k h)
/-- a new object at a free address -/
theorem Ext.new {p : Addr} {o : HO} (h : H p = none) : Ext β H β (upd H p o) := ⟨⟨[], by simp⟩, fun b u hb _ => by rw [upd_ne (ne_of_none hb h)]; exact hb, fun b u w hb => by rw [upd_ne (ne_of_none hb h)]; exact hb⟩
theorem ObjR.mono (s : Sim K β st H) (e : Ext β H β' H') {a : Addr} {o : O} (h : ObjR K β H a o) (ha : H' a = H a) : ObjR K β' H' a o := by
  cases o with
  | lst xs => obtain ⟨vs, h1, h2⟩ := h; exact ⟨vs, ha.trans h1, RepL.mono s e xs vs h2⟩
  | dic lk kvs => obtain ⟨ks, h1, h2, h3⟩ := h; exact ⟨ks, by rw [ha]; exact h1, h2, RepL.mono s e _ _ h3⟩
  | dit lk kvs => obtain ⟨ks, h1, h2, h3⟩ := h; exact ⟨ks, by rw [ha]; exact h1, h2, RepL.mono s e _ _ h3⟩
  | ins _ _ => exact h.elim
/-- objects outside of the store come and change: nothing of the store turns -/
theorem Sim.out (s : Sim K β st H) (e : Ext β H β H') (ha : ∀ a ∈ β, H' a = H a) : Sim K β st H' :=
  ⟨s.len, s.nd, fun n a o h1 h2 => (s.obj n a o h1 h2).mono s e (ha a (List.mem_of_getElem? h1))⟩
theorem Sim.new (s : Sim K β st H) {p : Addr} {o : HO} (h : H p = none) : Sim K β st (upd H p o) :=
  s.out (Ext.new h) fun a ha => upd_ne fun z => s.off h (z ▸ ha)
/-- a list that nothing holds is laid into the store -/
theorem Sim.lay (s : Sim K β st H) {p : Addr} {xs : List D} {vs : List V} (h : H p = some (.lst vs)) (hp : p ∉ β) (r : RepL K β H xs vs) : Sim K (β ++ [p]) (st ++ [.lst xs]) H := by
  have get : ∀ {n : Nat} {a : Addr}, β[n]? = some a → (β ++ [p])[n]? = some a := fun {n a} h => by
    rw [List.getElem?_append_left (List.getElem?_eq_some_iff.mp h).1]; exact h
  have mono : ∀ (ds : List D) (ws : List V), RepL K β H ds ws → RepL K (β ++ [p]) H ds ws := by
    have m1 : ∀ d : D, ∀ v, Rep K β H d v → Rep K (β ++ [p]) H d v := by
      intro d
      refine D.rec (motive_1 := fun d => ∀ v, Rep K β H d v → Rep K (β ++ [p]) H d v) (motive_2 := fun ds => ∀ ws, RepL K β H ds ws → RepL K (β ++ [p]) H ds ws) ?_ ?_ ?_ ?_ ?_ ?_ ?_ ?_ ?_ d
      · exact fun _ h => h
      · exact fun _ _ h => h
      · exact fun _ _ h => h
      · exact fun _ _ h => h
      · intro xs ih v h
        obtain ⟨a, vs, e1, h1, h2⟩ := h
        exact ⟨a, vs, e1, h1, ih vs h2⟩
      · intro xs ih v h
        obtain ⟨a, vs, e1, h1, h2⟩ := h
        exact ⟨a, vs, e1, h1, ih vs h2⟩
      · intro n v h
        obtain ⟨a, h1, h2⟩ := h
        exact ⟨a, get h1, h2⟩
      · exact fun _ h => h
      · intro x xs i1 i2 ws h
        obtain ⟨v, r, e1, h1, h2⟩ := h
        exact ⟨v, r, e1, i1 v h1, i2 r h2⟩
    intro ds
    induction ds with
    | nil => exact fun _ h => h
    | cons x xs ih =>
      intro ws h
      obtain ⟨v, r, e1, h1, h2⟩ := h
      exact ⟨v, r, e1, m1 x v h1, ih r h2⟩
  refine ⟨by simp [s.len], List.nodup_append.mpr ⟨s.nd, by simp, fun a ha b hb => ?_⟩, fun n a o h1 h2 => ?_⟩
  · simp only [List.mem_singleton] at hb
    subst hb
    exact fun z => hp (z ▸ ha)
  · by_cases hn : n < β.length
    · rw [List.getElem?_append_left hn] at h1
      rw [List.getElem?_append_left (s.len ▸ hn)] at h2
      have q := s.obj n a o h1 h2
      cases o with
      | lst xs => obtain ⟨ws, q1, q2⟩ := q; exact ⟨ws, q1, mono _ _ q2⟩
      | dic _ _ => obtain ⟨ws, q1, q2, q3⟩ := q; exact ⟨ws, q1, q2, mono _ _ q3⟩
      | dit _ _ => obtain ⟨ws, q1, q2, q3⟩ := q; exact ⟨ws, q1, q2, mono _ _ q3⟩
      | ins _ _ => exact q.elim
    · have hl : n < (β ++ [p]).length := (List.getElem?_eq_some_iff.mp h1).1
      have en : n = β.length := by simp at hl; omega
      subst en
      rw [List.getElem?_append_right (Nat.le_refl _)] at h1
      rw [s.len, List.getElem?_append_right (Nat.le_refl _)] at h2
      simp at h1 h2
      subst h1 h2
      exact ⟨vs, h, mono _ _ r⟩
/-! ### dicts -/
def ORep (K : PySem.W.Frag) (β : List Addr) (H : Hp) : Option D → Option V → Prop
  | none, none => True
  | some d, some v => Rep K β H d v
  | _, _ => False
theorem ORep.some_eq {o : Option D} {u : Option V} (h : ORep K β H o u) : o.isSome = u.isSome := by
  cases o <;> cases u <;> first | rfl | exact h.elim
theorem keyD_inj : ∀ {a b : Key}, keyD a = keyD b → a = b
  | .inl i, .inl j, h => by cases h; rfl
  | .inr x, .inr y, h => by cases h; rfl
  | .inl _, .inr _, h => by cases h
  | .inr _, .inl _, h => by cases h
theorem keyOk_iff {d : D} (h : keyOk d = true) : ∃ k, d = keyD k := by
  cases d with
  | int i => exact ⟨.inl i, rfl⟩
  | str x => exact ⟨.inr x, rfl⟩
  | _ => cases h
theorem keyD_ok : ∀ k : Key, keyOk (keyD k) = true
  | .inl _ => rfl
  | .inr _ => rfl
theorem rep_keyD {k : Key} {v : V} (h : Rep K β H (keyD k) v) : v = kV k := by
  cases k with
  | inl i => exact h
  | inr x => exact h
theorem rep_key : ∀ k : Key, Rep K β H (keyD k) (kV k)
  | .inl _ => rfl
  | .inr _ => rfl
theorem dic_val (k : Key) : ∀ {kvs : List (D × D)} {ks : List (Key × V)}, DicR kvs ks → RepL K β H (kvs.map (·.2)) (ks.map (·.2)) → ORep K β H (dicGet (keyD k) kvs) (valV ks k)
  | [], ks, h, _ => by
    have : ks = [] := by
      unfold DicR at h
      cases ks with
      | nil => rfl
      | cons a l => simp at h
    subst this
    exact True.intro
  | (a, w) :: kvs, ks, h, r => by
    unfold DicR at h
    cases ks with
    | nil => simp at h
    | cons p ps =>
      obtain ⟨v, vs, e, r1, r2⟩ := r
      simp only [List.map_cons, List.cons.injEq] at h e
      obtain ⟨h1, h2⟩ := h
      obtain ⟨e1, e2⟩ := e
      simp only [dicGet]
      by_cases hk : p.1 = k
      · rw [if_pos (by rw [h1, hk]), valV_pos hk, e1]
        exact r1
      · rw [if_neg (fun z => hk (keyD_inj (h1.symm.trans z))), valV_neg hk]
        exact dic_val k h2 (by rw [e2]; exact r2)
theorem DicR.any (k : Key) : ∀ {kvs : List (D × D)} {ks : List (Key × V)}, DicR kvs ks → (kvs.any fun p => decide (p.1 = keyD k)) = ks.any fun p => decide (p.1 = k)
  | [], ks, h => by
    unfold DicR at h
    cases ks with
    | nil => rfl
    | cons a l => simp at h
  | (a, w) :: kvs, ks, h => by
    unfold DicR at h
    cases ks with
    | nil => simp at h
    | cons p ps =>
      simp only [List.map_cons, List.cons.injEq] at h
      obtain ⟨h1, h2⟩ := h
      rw [List.any_cons, List.any_cons, DicR.any k h2]
      have : decide (a = keyD k) = decide (p.1 = k) := by
        rw [h1]
        exact decide_eq_decide.mpr ⟨keyD_inj, fun z => by rw [z]⟩
      simp only [this]
theorem DicR.repl (k : Key) (d : D) (v : V) : ∀ {kvs : List (D × D)} {ks : List (Key × V)}, DicR kvs ks → RepL K β H (kvs.map (·.2)) (ks.map (·.2)) → Rep K β H d v →
    DicR (kvs.map fun p => if p.1 = keyD k then (p.1, d) else p) (ks.map fun p => if p.1 = k then (p.1, v) else p) ∧
      RepL K β H ((kvs.map fun p => if p.1 = keyD k then (p.1, d) else p).map (·.2)) ((ks.map fun p => if p.1 = k then (p.1, v) else p).map (·.2))
  | [], ks, h, _, _ => by
    have : ks = [] := by
      unfold DicR at h
      cases ks with
      | nil => rfl
      | cons a l => simp at h
    subst this
    exact ⟨rfl, rfl⟩
  | (a, w) :: kvs, ks, h, r, rd => by
    unfold DicR at h
    cases ks with
    | nil => simp at h
    | cons p ps =>
      obtain ⟨u, vs, e, r1, r2⟩ := r
      simp only [List.map_cons, List.cons.injEq] at h e
      obtain ⟨h1, h2⟩ := h
      obtain ⟨e1, e2⟩ := e
      obtain ⟨i1, i2⟩ := DicR.repl k d v h2 (by rw [e2]; exact r2) rd
      simp only [List.map_cons]
      by_cases hk : p.1 = k
      · rw [if_pos (show a = keyD k by rw [h1, hk]), if_pos hk]
        refine ⟨?_, _, _, rfl, rd, i2⟩
        show _ :: _ = _ :: _
        rw [show List.map (fun p : D × D => p.1) (kvs.map fun p => if p.1 = keyD k then (p.1, d) else p) = _ from i1, h1]
      · rw [if_neg (fun z => hk (keyD_inj (h1.symm.trans z))), if_neg hk]
        refine ⟨?_, _, _, rfl, by rw [e1]; exact r1, i2⟩
        show _ :: _ = _ :: _
        rw [show List.map (fun p : D × D => p.1) (kvs.map fun p => if p.1 = keyD k then (p.1, d) else p) = _ from i1, h1]
theorem DicR.put (k : Key) {d : D} {v : V} {kvs : List (D × D)} {ks : List (Key × V)} (h : DicR kvs ks) (r : RepL K β H (kvs.map (·.2)) (ks.map (·.2))) (rd : Rep K β H d v) :
    DicR (dicPut (keyD k) d kvs) (putK ks k v) ∧ RepL K β H ((dicPut (keyD k) d kvs).map (·.2)) ((putK ks k v).map (·.2)) := by
  unfold dicPut putK
  rw [h.any k]
  split
  · exact DicR.repl k d v h r rd
  · refine ⟨?_, ?_⟩
    · unfold DicR at h ⊢
      rw [List.map_append, List.map_append, h]
      rfl
    · rw [List.map_append, List.map_append]
      exact r.append (RepL.one rd)
theorem DicR.length {kvs : List (D × D)} {ks : List (Key × V)} (h : DicR kvs ks) : kvs.length = ks.length := by
  have := congrArg List.length h
  simpa using this
theorem keysD_inj : ∀ {a b : List Key}, a.map keyD = b.map keyD → a = b
  | [], [], _ => rfl
  | [], _ :: _, h => by simp at h
  | _ :: _, [], h => by simp at h
  | x :: xs, y :: ys, h => by
    simp only [List.map_cons, List.cons.injEq] at h
    rw [keyD_inj h.1, keysD_inj h.2]
theorem tkD_inj {a b : List Key} (h : tkD a = tkD b) : a = b := by
  simp only [tkD, D.tup.injEq] at h
  exact keysD_inj h
theorem tkOk_iff {d : D} (h : tkOk d = true) : ∃ ns : List Int, d = .tup (ns.map .int) := by
  cases d with
  | tup xs =>
    simp only [tkOk] at h
    induction xs with
    | nil => exact ⟨[], rfl⟩
    | cons x xs ih =>
      rw [List.all_cons, Bool.and_eq_true] at h
      obtain ⟨ns, e⟩ := ih h.2
      simp only [D.tup.injEq] at e
      cases x with
      | int i => exact ⟨i :: ns, by rw [e]; rfl⟩
      | _ => simp at h
  | _ => cases h
theorem rep_intsV : ∀ {ns : List Int} {vs : List V}, RepL K β H (ns.map .int) vs → vs = ns.map V.int
  | [], vs, h => h
  | n :: ns, vs, h => by
    obtain ⟨v, r, rfl, h1, h2⟩ := h
    rw [List.map_cons, rep_intsV h2, show v = .int n from h1]
/-- a row of whole numbers is tracked: a key -/
theorem rep_tk {ns : List Int} {v : V} (h : Rep K β H (.tup (ns.map .int)) v) : ∃ b, v = .ref b ∧ H b = some (.tup ((ns.map Sum.inl).map kV)) := by
  obtain ⟨a, vs, rfl, h1, h2⟩ := h
  rw [rep_intsV h2] at h1
  have e : (ns.map Sum.inl).map kV = ns.map V.int := by rw [List.map_map]; rfl
  refine ⟨a, rfl, ?_⟩
  rw [e]
  rcases h1 with h1 | ⟨_, v, hv, hn⟩
  · exact h1
  · obtain ⟨i, _, rfl⟩ := List.mem_map.mp hv
    exact absurd rfl (hn i)
theorem tkD_ints {ns : List Int} : tkD (ns.map Sum.inl) = .tup (ns.map .int) := by
  simp only [tkD, List.map_map]
  rfl
theorem dit_val (k : List Key) : ∀ {kvs : List (D × D)} {ks : List (List Key × V)}, DicT kvs ks → RepL K β H (kvs.map (·.2)) (ks.map (·.2)) → ORep K β H (dicGet (tkD k) kvs) (valV ks k)
  | [], ks, h, _ => by
    have : ks = [] := by
      unfold DicT at h
      cases ks with
      | nil => rfl
      | cons a l => simp at h
    subst this
    exact True.intro
  | (a, w) :: kvs, ks, h, r => by
    unfold DicT at h
    cases ks with
    | nil => simp at h
    | cons p ps =>
      obtain ⟨v, vs, e, r1, r2⟩ := r
      simp only [List.map_cons, List.cons.injEq] at h e
      obtain ⟨h1, h2⟩ := h
      obtain ⟨e1, e2⟩ := e
      simp only [dicGet]
      by_cases hk : p.1 = k
      · rw [if_pos (by rw [h1, hk]), valV_pos hk, e1]
        exact r1
      · rw [if_neg (fun z => hk (tkD_inj (h1.symm.trans z))), valV_neg hk]
        exact dit_val k h2 (by rw [e2]; exact r2)
theorem DicT.any (k : List Key) : ∀ {kvs : List (D × D)} {ks : List (List Key × V)}, DicT kvs ks → (kvs.any fun p => decide (p.1 = tkD k)) = ks.any fun p => decide (p.1 = k)
  | [], ks, h => by
    unfold DicT at h
    cases ks with
    | nil => rfl
    | cons a l => simp at h
  | (a, w) :: kvs, ks, h => by
    unfold DicT at h
    cases ks with
    | nil => simp at h
    | cons p ps =>
      simp only [List.map_cons, List.cons.injEq] at h
      obtain ⟨h1, h2⟩ := h
      rw [List.any_cons, List.any_cons, DicT.any k h2]
      have : decide (a = tkD k) = decide (p.1 = k) := by
        rw [h1]
        exact decide_eq_decide.mpr ⟨tkD_inj, fun z => by rw [z]⟩
      simp only [this]
theorem DicT.repl (k : List Key) (d : D) (v : V) : ∀ {kvs : List (D × D)} {ks : List (List Key × V)}, DicT kvs ks → RepL K β H (kvs.map (·.2)) (ks.map (·.2)) → Rep K β H d v →
    DicT (kvs.map fun p => if p.1 = tkD k then (p.1, d) else p) (ks.map fun p => if p.1 = k then (p.1, v) else p) ∧
      RepL K β H ((kvs.map fun p => if p.1 = tkD k then (p.1, d) else p).map (·.2)) ((ks.map fun p => if p.1 = k then (p.1, v) else p).map (·.2))
  | [], ks, h, _, _ => by
    have : ks = [] := by
      unfold DicT at h
      cases ks with
      | nil => rfl
      | cons a l => simp at h
    subst this
    exact ⟨rfl, rfl⟩
  | (a, w) :: kvs, ks, h, r, rd => by
    unfold DicT at h
    cases ks with
    | nil => simp at h
    | cons p ps =>
      obtain ⟨u, vs, e, r1, r2⟩ := r
      simp only [List.map_cons, List.cons.injEq] at h e
      obtain ⟨h1, h2⟩ := h
      obtain ⟨e1, e2⟩ := e
      obtain ⟨i1, i2⟩ := DicT.repl k d v h2 (by rw [e2]; exact r2) rd
      simp only [List.map_cons]
      by_cases hk : p.1 = k
      · rw [if_pos (show a = tkD k by rw [h1, hk]), if_pos hk]
        refine ⟨?_, _, _, rfl, rd, i2⟩
        show _ :: _ = _ :: _
        rw [show List.map (fun p : D × D => p.1) (kvs.map fun p => if p.1 = tkD k then (p.1, d) else p) = _ from i1, h1]
      · rw [if_neg (fun z => hk (tkD_inj (h1.symm.trans z))), if_neg hk]
        refine ⟨?_, _, _, rfl, by rw [e1]; exact r1, i2⟩
        show _ :: _ = _ :: _
        rw [show List.map (fun p : D × D => p.1) (kvs.map fun p => if p.1 = tkD k then (p.1, d) else p) = _ from i1, h1]
theorem DicT.put (k : List Key) {d : D} {v : V} {kvs : List (D × D)} {ks : List (List Key × V)} (h : DicT kvs ks) (r : RepL K β H (kvs.map (·.2)) (ks.map (·.2))) (rd : Rep K β H d v) :
    DicT (dicPut (tkD k) d kvs) (putK ks k v) ∧ RepL K β H ((dicPut (tkD k) d kvs).map (·.2)) ((putK ks k v).map (·.2)) := by
  unfold dicPut putK
  rw [h.any k]
  split
  · exact DicT.repl k d v h r rd
  · refine ⟨?_, ?_⟩
    · unfold DicT at h ⊢
      rw [List.map_append, List.map_append, h]
      rfl
    · rw [List.map_append, List.map_append]
      exact r.append (RepL.one rd)
theorem DicT.length {kvs : List (D × D)} {ks : List (List Key × V)} (h : DicT kvs ks) : kvs.length = ks.length := by
  have := congrArg List.length h
  simpa using this
/-- a dict of the store -/
theorem Sim.dic (s : Sim K β st H) {n : Nat} {a : Addr} {lk : Bool} {kvs : List (D × D)} (h1 : β[n]? = some a) (h2 : st[n]? = some (.dic lk kvs)) :
    ∃ ks, L2.Rd H a (.dK ks) ∧ DicR kvs ks ∧ RepL K β H (kvs.map (·.2)) (ks.map (·.2)) := by
  obtain ⟨ks, q1, q2, q3⟩ := s.obj n a _ h1 h2
  refine ⟨ks, ?_, q2, q3⟩
  cases lk with
  | false => exact .inl q1
  | true => exact .inr q1
theorem dic_get (s : Sim K β st H) {n : Nat} {a : Addr} {lk : Bool} {kvs : List (D × D)} {k : D} {x : V} (h1 : β[n]? = some a) (h2 : st[n]? = some (.dic lk kvs)) (hk : keyOk k = true) (hx : Rep K β H k x) :
    ∃ o, DGet H a x o ∧ ORep K β H (dicGet k kvs) o := by
  obtain ⟨ks, q1, q2, q3⟩ := s.dic h1 h2
  obtain ⟨j, rfl⟩ := keyOk_iff hk
  exact ⟨valV ks j, .inl ⟨ks, j, q1, rep_keyD hx, rfl⟩, dic_val j q2 q3⟩
theorem Sim.dit (s : Sim K β st H) {n : Nat} {a : Addr} {lk : Bool} {kvs : List (D × D)} (h1 : β[n]? = some a) (h2 : st[n]? = some (.dit lk kvs)) :
    ∃ ks, L2.Rd H a (.dT ks) ∧ DicT kvs ks ∧ RepL K β H (kvs.map (·.2)) (ks.map (·.2)) := by
  obtain ⟨ks, q1, q2, q3⟩ := s.obj n a _ h1 h2
  refine ⟨ks, ?_, q2, q3⟩
  cases lk with
  | false => exact .inl q1
  | true => exact .inr q1
theorem dit_get (s : Sim K β st H) {n : Nat} {a : Addr} {lk : Bool} {kvs : List (D × D)} {k : D} {x : V} (h1 : β[n]? = some a) (h2 : st[n]? = some (.dit lk kvs)) (hk : tkOk k = true) (hx : Rep K β H k x) :
    ∃ o, DGet H a x o ∧ ORep K β H (dicGet k kvs) o := by
  obtain ⟨ks, q1, q2, q3⟩ := s.dit h1 h2
  obtain ⟨ns, rfl⟩ := tkOk_iff hk
  obtain ⟨b, rfl, hb⟩ := rep_tk hx
  refine ⟨valV ks (ns.map Sum.inl), .inr ⟨ks, _, b, q1, rfl, hb, rfl⟩, ?_⟩
  have := dit_val (ns.map Sum.inl) q2 q3
  rw [tkD_ints] at this
  exact this
end
end Mw

set_option Elab.async false
set_option linter.all false
set_option autoImplicit false
set_option maxRecDepth 100000
/-! PyB2: operators keep what PyB says. -/
namespace Mw
open PySem PySem.Spec PyProof.Rows L2

structure Cond (K : PySem.W.Frag) (β : List Addr) (st : Sto) (H0 H : Hp) : Prop where
  sim : Sim K β st H
  ext : ∃ β0, Ext β0 H0 β H
def Res (K : PySem.W.Frag) (β : List Addr) (st : Sto) (H H0 : Hp) (r : RV) (Q : VK) : Prop :=
  ∀ v H', Ext β H β H' → Sim K β st H' → RRep K β H' H0 r v → Q v H'
section
variable {K : PySem.W.Frag} {β : List Addr} {st : Sto} {H H0 : Hp} {Q : VK} {r rx ry : RV} {xs ys : List D} {vs : List V} {d : D} {v x y : V}
theorem Cond.free (c : Cond K β st H0 H) {p : Addr} (h : H p = none) : H0 p = none := by
  obtain ⟨β0, e⟩ := c.ext
  exact e.free h fun hm => c.sim.off h (e.mem hm)
theorem Res.val (q : Res K β st H H0 (.val d) Q) (s : Sim K β st H) (h : Rep K β H d v) : Q v H := q v H Ext.refl s h
theorem Res.tup (q : Res K β st H H0 (.val (.tup xs)) Q) (s : Sim K β st H) {a : Addr} (h : SqU K H a vs) (h2 : RepL K β H xs vs) : Q (.ref a) H := q _ H Ext.refl s ⟨a, vs, rfl, h, h2⟩
theorem Res.tmp (q : Res K β st H H0 (.tmp xs) Q) (c : Cond K β st H0 H) (h : RepL K β H xs vs) : ∀ p, H p = none → Q (.ref p) (upd H p (.lst vs)) := fun p hp =>
  q _ _ (Ext.new hp) (c.sim.new hp) ⟨p, vs, rfl, upd_same, c.sim.off hp, c.free hp, RepL.mono c.sim (Ext.new hp) _ _ h⟩
theorem Res.newTup (q : Res K β st H H0 (.val (.tup xs)) Q) (s : Sim K β st H) (h : RepL K β H xs vs) : ∀ p, H p = none → Q (.ref p) (upd H p (.tup vs)) := fun p hp =>
  q _ _ (Ext.new hp) (s.new hp) ⟨p, vs, rfl, SqU.of upd_same, RepL.mono s (Ext.new hp) _ _ h⟩
theorem listOf_sq (s : Sim K β st H) (h : RRep K β H H0 rx x) (e : listOf st rx = some xs) : ∃ a vs, x = .ref a ∧ SqL K H a vs ∧ RepL K β H xs vs := by
  cases rx with
  | tmp zs =>
    simp only [listOf, Option.some.injEq] at e; subst e
    obtain ⟨a, vs, e1, h1, _, _, h2⟩ := h
    exact ⟨a, vs, e1, SqL.of h1, h2⟩
  | val d =>
    cases d with
    | rol zs =>
      simp only [listOf, Option.some.injEq] at e; subst e
      obtain ⟨a, vs, e1, h1, h2⟩ := h
      exact ⟨a, vs, e1, h1.sq, h2⟩
    | ref n =>
      simp only [listOf] at e
      split at e
      · rename_i zs hz
        simp only [Option.some.injEq] at e; subst e
        obtain ⟨a, h1, e1⟩ := h
        obtain ⟨vs, h2, h3⟩ := s.obj n a _ h1 hz
        exact ⟨a, vs, e1, SqL.of h2, h3⟩
      · cases e
    | _ => simp [listOf] at e
theorem seqOf_sq (s : Sim K β st H) (h : RRep K β H H0 rx x) (e : seqOf st rx = some xs) : ∃ a vs, x = .ref a ∧ (SqL K H a vs ∨ SqT K H a vs) ∧ RepL K β H xs vs := by
  cases rx with
  | tmp zs => obtain ⟨a, vs, h1, h2, h3⟩ := listOf_sq s h (show listOf st (.tmp zs) = some xs from e); exact ⟨a, vs, h1, .inl h2, h3⟩
  | val d =>
    cases d with
    | rol zs => obtain ⟨a, vs, h1, h2, h3⟩ := listOf_sq s h (show listOf st (.val (.rol zs)) = some xs from e); exact ⟨a, vs, h1, .inl h2, h3⟩
    | ref n => obtain ⟨a, vs, h1, h2, h3⟩ := listOf_sq s h (show listOf st (.val (.ref n)) = some xs from e); exact ⟨a, vs, h1, .inl h2, h3⟩
    | tup zs =>
      simp only [seqOf, Option.some.injEq] at e; subst e
      obtain ⟨a, vs, e1, h1, h2⟩ := h
      exact ⟨a, vs, e1, .inr h1.sq, h2⟩
    | _ => simp [seqOf] at e
theorem seqOf_sqU (s : Sim K β st H) (h : RRep K β H H0 rx x) (e : seqOf st rx = some xs) : ∃ a vs, x = .ref a ∧ (SqL K H a vs ∨ SqU K H a vs) ∧ RepL K β H xs vs := by
  by_cases ht : ∃ zs, rx = .val (.tup zs)
  · obtain ⟨zs, rfl⟩ := ht
    simp only [seqOf, Option.some.injEq] at e; subst e
    obtain ⟨a, vs, e1, h1, h2⟩ := h
    exact ⟨a, vs, e1, .inr h1, h2⟩
  · have e' : listOf st rx = some xs := by
      cases rx with
      | tmp zs => exact e
      | val d =>
        cases d with
        | tup zs => exact absurd ⟨zs, rfl⟩ ht
        | rol zs => exact e
        | ref n => exact e
        | _ => simp [seqOf] at e
    obtain ⟨a, vs, h1, h2, h3⟩ := listOf_sq s h e'
    exact ⟨a, vs, h1, .inl h2, h3⟩
theorem mutOf_lst (s : Sim K β st H) (h : RRep K β H H0 rx x) (e : mutOf st rx = some xs) : ∃ a vs, x = .ref a ∧ H a = some (.lst vs) ∧ RepL K β H xs vs := by
  cases rx with
  | tmp zs =>
    simp only [mutOf, Option.some.injEq] at e; subst e
    obtain ⟨a, vs, e1, h1, _, _, h2⟩ := h
    exact ⟨a, vs, e1, h1, h2⟩
  | val d =>
    cases d with
    | ref n =>
      simp only [mutOf] at e
      split at e
      · rename_i zs hz
        simp only [Option.some.injEq] at e; subst e
        obtain ⟨a, h1, e1⟩ := h
        obtain ⟨vs, h2, h3⟩ := s.obj n a _ h1 hz
        exact ⟨a, vs, e1, h2, h3⟩
      · cases e
    | _ => simp [mutOf] at e
theorem szOk_le {n : Nat} (h : szOk n = true) : n ≤ sizeLine := by rw [sizeLine_eq]; simpa [szOk] using h
end
/-- the reading of a two-place operation -/
def rOp (K : PySem.W.Frag) (f : Sto → RV → RV → Option RV) : R2 := fun x y H Q =>
  ∃ β st H0 rx ry r, Cond K β st H0 H ∧ RRep K β H H0 rx x ∧ RRep K β H H0 ry y ∧ f st rx ry = some r ∧ Res K β st H H0 r Q
section
variable {X : Cx}
/-- list + list, any two that can be read -/
theorem op_catL : OpR X (binaryOp .Add) (fun x y H Q => ∃ l b xs zs, x = .ref l ∧ y = .ref b ∧ SqL X.K H l xs ∧ SqL X.K H b zs ∧ xs.length + zs.length ≤ sizeLine ∧ ∀ p, H p = none → Q (.ref p) (upd H p (.lst (xs ++ zs)))) := by
  intro pins s σ H x y v u Q I rx ry h
  obtain ⟨l, b, xs, zs, rfl, rfl, hH, hB, hz, q⟩ := h
  cases rx
  cases ry
  obtain ⟨its, r1, ⟨⟨cls, dd, data, sl⟩, n, ho, hc, hd, hs⟩, z1⟩ := I.list hH
  obtain ⟨its2, r2, ⟨⟨cls2, dd2, data2, sl2⟩, n2, ho2, hc2, hd2, hs2⟩, z2⟩ := I.list hB
  simp only at hc hd hs hc2 hd2 hs2
  subst hc hd hs hc2 hd2 hs2
  have l1 := r1.length
  have l2 := r2.length
  refine concat_meets ⟨_, ho, rfl⟩ ⟨_, ho2, rfl⟩ noFill_list_add seq_list_add PySem.F.slot_list_add PySem.F.entry_list_add (PySem.F.args_list_add_2 _ _) (list_addW l b its.toArray its2.toArray n n2 none none sl sl2 (by simp; omega)) ⟨ho, ho2, ?_⟩
  have e : its.toArray ++ its2.toArray = (its ++ its2).toArray := by simp
  rw [e]
  exact ⟨.ref _, _, I.lnew (t' := s.toks) (r1.append r2) (by rw [List.length_append]; omega), rfl, q _ I.fresh⟩
theorem or_mono {f : Value → Value → Sem Value} {r r' : R2} (h : OpR X f r) (i : ∀ x y H Q, r' x y H Q → r x y H Q) : OpR X f r' := fun pins s σ H x y v u Q I rx ry q => h pins s σ H x y v u Q I rx ry (i x y H Q q)
theorem int2_ok {f : Value → Value → Sem Value} {o : Op} {C : Int → Int → Prop} {g : Int → Int → V}
    (h : OpR X f (rI C g)) (hi : ∀ i j k, intOp o i j = some k → C i j ∧ g i j = .int k) : OpR X f (rOp X.K fun _ => int2 o) := by
  refine or_mono h fun x y H Q hw => ?_
  obtain ⟨β, st, H0, rx, ry, r, c, hx, hy, e, q⟩ := hw
  cases rx with
  | tmp _ => simp [int2] at e
  | val dx =>
    cases dx with
    | int i =>
      cases ry with
      | tmp _ => simp [int2] at e
      | val dy =>
        cases dy with
        | int j =>
          simp only [int2, Option.map_eq_some_iff] at e
          obtain ⟨k, e1, rfl⟩ := e
          obtain ⟨h1, h2⟩ := hi i j k e1
          exact ⟨i, j, hx, hy, h1, by rw [h2]; exact q.val c.sim rfl⟩
        | _ => simp [int2] at e
    | _ => simp [int2] at e
theorem rI0_rI {g : Int → Int → V} {x y : V} {H : Hp} {Q : VK} (h : rI (fun _ _ => True) g x y H Q) : rI0 g x y H Q := by
  obtain ⟨i, j, a, b, _, q⟩ := h
  exact ⟨i, j, a, b, q⟩
def rBI (f : Int → Int → Int) : R2 := fun x y H Q => ∃ a b, x = .bl a ∧ y = .int b ∧ Q (.int (f (if a = true then 1 else 0) b)) H
theorem op_addB : OpR X (binaryOp .Add) (rBI fun i j => i + j) := by
  intro pins s σ H x y v u Q I rx ry h
  obtain ⟨a, b, rfl, rfl, q⟩ := h
  cases rx
  obtain ⟨t, rfl⟩ := ry
  exact PySem.IntBool.add_bool_int ⟨.int _, H, I.tok _, ⟨_, rfl⟩, q⟩
theorem op_subB : OpR X (binaryOp .Sub) (rBI fun i j => i - j) := by
  intro pins s σ H x y v u Q I rx ry h
  obtain ⟨a, b, rfl, rfl, q⟩ := h
  cases rx
  obtain ⟨t, rfl⟩ := ry
  exact PySem.IntBool.sub_bool_int ⟨.int _, H, I.tok _, ⟨_, rfl⟩, q⟩
theorem op_subB2 : OpR X (binaryOp .Sub) (fun x y H Q => ∃ a b, x = .int a ∧ y = .bl b ∧ Q (.int (a - (if b = true then 1 else 0))) H) := by
  intro pins s σ H x y v u Q I rx ry h
  obtain ⟨a, b, rfl, rfl, q⟩ := h
  obtain ⟨t, rfl⟩ := rx
  cases ry
  exact PySem.IntBool.sub_int_bool ⟨.int _, H, I.tok _, ⟨_, rfl⟩, q⟩
theorem op_addD : OpR X (binaryOp .Add) (rOp X.K fun st => addApp st) := by
  refine or_mono ((((op_add (X := X)).or op_addB).or op_add_str).or ((op_catA (X := X)).or op_catL)) fun x y H Q hw => ?_
  obtain ⟨β, st, H0, rx, ry, r, c, hx, hy, e, q⟩ := hw
  have lists : addL st rx ry = some r → (∃ l b xs zs, x = V.ref l ∧ y = V.ref b ∧ SqL X.K H l xs ∧ SqL X.K H b zs ∧ xs.length + zs.length ≤ sizeLine ∧ ∀ p, H p = none → Q (.ref p) (upd H p (.lst (xs ++ zs)))) := fun e => by
    unfold addL at e
    split at e
    · rename_i a b ea eb
      split at e
      · rename_i hs
        simp only [Option.some.injEq] at e; subst e
        obtain ⟨l, vs, h1, h2, h3⟩ := listOf_sq c.sim hx ea
        obtain ⟨l', ws, g1, g2, g3⟩ := listOf_sq c.sim hy eb
        refine ⟨l, l', vs, ws, h1, g1, h2, g2, ?_, q.tmp c (h3.append g3)⟩
        rw [← h3.length, ← g3.length]
        exact szOk_le hs
      · cases e
    · cases e
  unfold addApp at e
  dsimp only at e
  split at e
  · simp only [Option.some.injEq] at e; subst e
    exact .inl (.inl (.inl ⟨_, _, hx, hy, q.val c.sim rfl⟩))
  · simp only [Option.some.injEq] at e; subst e
    exact .inl (.inl (.inr ⟨_, _, hx, hy, q.val c.sim rfl⟩))
  · split at e
    · rename_i hs
      simp only [Option.some.injEq] at e; subst e
      exact .inl (.inr ⟨_, _, hx, hy, szOk_le hs, q.val c.sim rfl⟩)
    · cases e
  · rename_i a b
    split at e
    · rename_i hs
      simp only [Option.some.injEq] at e; subst e
      obtain ⟨l, vs, h1, h2, h3⟩ := hx
      obtain ⟨l', ws, g1, g2, g3⟩ := hy
      refine .inr (.inl ⟨l, l', vs, ws, h1, g1, h2.sq, g2.sq, ?_, fun ez => ?_, fun _ ez => ?_, fun _ _ => q.newTup c.sim (h3.append g3)⟩)
      · rw [← h3.length, ← g3.length]
        exact szOk_le hs
      · subst ez
        have : a = [] := List.length_eq_zero_iff.mp (by rw [h3.length]; rfl)
        subst this
        exact q.tup c.sim g2 (by simpa using g3)
      · subst ez
        have : b = [] := List.length_eq_zero_iff.mp (by rw [g3.length]; rfl)
        subst this
        exact q.tup c.sim h2 (by simpa using h3)
    · cases e
  · exact .inr (.inr (lists e))
theorem op_mulD : OpR X (binaryOp .Mult) (rOp X.K mulApp) := by
  refine or_mono ((op_mul (X := X)).or ((op_repT (X := X)).or op_rep)) fun x y H Q hw => ?_
  obtain ⟨β, st, H0, rx, ry, r, c, hx, hy, e, q⟩ := hw
  unfold mulApp at e
  split at e
  · split at e
    · rename_i hs
      simp only [Option.some.injEq] at e; subst e
      exact .inl ⟨_, _, hx, hy, show _ ∨ _ from of_decide_eq_true hs, q.val c.sim rfl⟩
    · cases e
  · rename_i a k
    split at e
    · rename_i hs
      simp only [Option.some.injEq] at e; subst e
      obtain ⟨s1, s2, s3, s4⟩ := of_decide_eq_true hs
      obtain ⟨l, vs, h1, h2, h3⟩ := hx
      refine .inr (.inl ⟨l, k, vs, h1, hy, h2.sq, fun z => s1 ?_, s2, s3, by rw [← h3.length]; exact s4, q.newTup c.sim (h3.rep k.toNat)⟩)
      subst z
      exact List.length_eq_zero_iff.mp (by rw [h3.length]; rfl)
    · cases e
  · rename_i k _ _
    split at e
    · rename_i a ea
      split at e
      · rename_i hs
        simp only [Option.some.injEq] at e; subst e
        simp only [Bool.and_eq_true, decide_eq_true_eq] at hs
        obtain ⟨l, vs, h1, h2, h3⟩ := mutOf_lst c.sim hx ea
        exact .inr (.inr ⟨l, k, vs, h1, hy, h2, by omega, by omega, by rw [← h3.length]; exact szOk_le hs.2, q.tmp c (h3.rep k.toNat)⟩)
      · cases e
    · cases e
  · cases e
theorem rOp_congr {f g : Sto → RV → RV → Option RV} {K : PySem.W.Frag} (h : ∀ st x y, f st x y = g st x y) : rOp K f = rOp K g := by
  have : f = g := by funext st x y; exact h st x y
  rw [this]
/-- which of the model's operators an operator is -/
def opIs : Op → Operator → Bool
  | .add, .Add => true | .sub, .Sub => true | .mul, .Mult => true | .fdiv, .FloorDiv => true | .mod, .Mod => true | .pow, .Pow => true
  | .shl, .LShift => true | .shr, .RShift => true | .band, .BitAnd => true | .bor, .BitOr => true
  | _, _ => false
theorem op_ok {o : Op} {p : Operator} (h : opIs o p = true) : OpR X (binaryOp p) (rOp X.K fun st => binApp st o) := by
  have i0 : ∀ {f : Value → Value → Sem Value} {g : Int → Int → V}, OpR X f (rI0 g) → OpR X f (rI (fun _ _ => True) g) := fun h => or_mono h fun _ _ _ _ => rI0_rI
  cases o <;> cases p <;> first | cases h | skip
  · exact op_addD
  · refine or_mono (((int2_ok (o := .sub) (i0 op_sub) fun i j k e => ⟨trivial, by simp only [intOp, Option.some.injEq] at e; rw [e]⟩)).or (op_subB.or op_subB2)) fun x y H Q hw => ?_
    obtain ⟨β, st, H0, rx, ry, r, c, hx, hy, e, q⟩ := hw
    simp only [binApp] at e
    unfold subApp at e
    split at e
    · simp only [Option.some.injEq] at e; subst e
      exact .inr (.inl ⟨_, _, hx, hy, q.val c.sim rfl⟩)
    · simp only [Option.some.injEq] at e; subst e
      exact .inr (.inr ⟨_, _, hx, hy, q.val c.sim rfl⟩)
    · exact .inl ⟨β, st, H0, rx, ry, r, c, hx, hy, e, q⟩
  · exact op_mulD
  · refine int2_ok (o := .fdiv) op_fdiv fun i j k e => ?_
    simp only [intOp] at e
    split at e
    · rename_i hc
      simp only [Option.some.injEq] at e
      exact ⟨by simpa [CDiv, CPow, powOk] using hc, by rw [e]⟩
    · cases e
  · refine int2_ok (o := .mod) op_mod fun i j k e => ?_
    simp only [intOp] at e
    split at e
    · rename_i hc
      simp only [Option.some.injEq] at e
      exact ⟨by simpa [CDiv, CPow, powOk] using hc, by rw [e]⟩
    · cases e
  · refine int2_ok (o := .pow) op_pow fun i j k e => ?_
    simp only [intOp] at e
    split at e
    · rename_i hc
      simp only [Option.some.injEq] at e
      exact ⟨by simpa [CDiv, CPow, powOk] using hc, by rw [e]⟩
    · cases e
  · refine int2_ok (o := .shl) op_shl fun i j k e => ?_
    simp only [intOp] at e
    split at e
    · rename_i hc
      simp only [Option.some.injEq] at e
      exact ⟨by simpa [CDiv, CPow, powOk] using hc, by rw [e]⟩
    · cases e
  · refine int2_ok (o := .shr) op_shr fun i j k e => ?_
    simp only [intOp] at e
    split at e
    · rename_i hc
      simp only [Option.some.injEq] at e
      exact ⟨by simpa [CDiv, CPow, powOk] using hc, by rw [e]⟩
    · cases e
  · exact int2_ok (o := .band) (i0 op_and) fun i j k e => ⟨trivial, by simp only [intOp, Option.some.injEq] at e; rw [e]⟩
  · exact int2_ok (o := .bor) (i0 op_or) fun i j k e => ⟨trivial, by simp only [intOp, Option.some.injEq] at e; rw [e]⟩
end
end Mw

set_option Elab.async false
set_option linter.all false
set_option autoImplicit false
set_option maxRecDepth 100000
/-! PyB3: comparisons, subscripts, slices. -/
namespace Mw
open PySem PySem.Spec PyProof.Rows L2
section
variable {K : PySem.W.Frag} {β : List Addr} {st : Sto} {H H0 : Hp} {Q : VK} {r rx ry : RV} {xs ys : List D} {vs : List V} {d : D} {v x y : V}
theorem mapO_all {α γ : Type} {f : α → Option γ} {R : α → γ → Prop} : ∀ {l : List α} {m : List γ}, mapO f l = some m → (∀ a b, a ∈ l → f a = some b → R a b) → Paired R l m
  | [], m, h, _ => by simp only [mapO, Option.some.injEq] at h; subst h; exact .nil
  | a :: l, m, h, hr => by
    simp only [mapO] at h
    split at h
    · rename_i b hb
      split at h
      · rename_i bs hbs
        simp only [Option.some.injEq] at h; subst h
        exact .cons (hr a b (by simp) hb) (mapO_all hbs fun a b ha => hr a b (List.mem_cons_of_mem _ ha))
      · cases h
    · cases h
theorem strOk_of {s : Str} (h : (s.cps.all fun x => decide (x < 1114112)) = true) : PyData.strOk s = true := by
  unfold PyData.strOk
  exact h
/-- data read off: what the model's rules for == ask -/
theorem toPy_dp (s : Sim K β st H) : ∀ (k : Nat) (d : D) (p : PyData) (v : V), toPy st k d = some p → Rep K β H d v → Dp K H v p ∧ p.canLay0 = true ∧ p.depth ≤ k := by
  have leaf : ∀ (k : Nat) (d : D) (p : PyData) (v : V), (match d with
      | .non => some PyData.none
      | .bl b => some (.bool b)
      | .int i => some (.int i)
      | .str s => if (s.cps.all fun x => decide (x < 1114112)) = true then some (.str s) else none
      | _ => none) = some p → Rep K β H d v → Dp K H v p ∧ p.canLay0 = true ∧ p.depth ≤ k := by
    intro k d p v h r
    cases d with
    | non => simp only [Option.some.injEq] at h; subst h; cases r; exact ⟨.non, rfl, Nat.zero_le _⟩
    | bl b => simp only [Option.some.injEq] at h; subst h; cases r; exact ⟨.bl b, rfl, Nat.zero_le _⟩
    | int b => simp only [Option.some.injEq] at h; subst h; cases r; exact ⟨.int b, rfl, Nat.zero_le _⟩
    | str b =>
      simp only at h
      split at h
      · rename_i hs
        simp only [Option.some.injEq] at h; subst h; cases r
        exact ⟨.str b, by simpa [PyData.canLay0] using strOk_of hs, Nat.zero_le _⟩
      · cases h
    | _ => cases h
  intro k
  induction k with
  | zero => exact fun d p v h r => leaf 0 d p v h r
  | succ k ih =>
    have all : ∀ (xs : List D) (ps : List PyData) (vs : List V), mapO (toPy st k) xs = some ps → RepL K β H xs vs → DpAll K H vs ps ∧ PyData.canLayAll0 ps = true ∧ PyData.depthAll ps ≤ k := by
      intro xs
      induction xs with
      | nil =>
        intro ps vs h r
        simp only [mapO, Option.some.injEq] at h; subst h
        simp only [RepL] at r; subst r
        exact ⟨.nil, rfl, Nat.zero_le _⟩
      | cons x xs ihx =>
        intro ps vs h r
        obtain ⟨v, rs, rfl, h1, h2⟩ := r
        simp only [mapO] at h
        split at h
        · rename_i p hp
          split at h
          · rename_i qs hq
            simp only [Option.some.injEq] at h; subst h
            obtain ⟨a1, a2, a3⟩ := ih x p v hp h1
            obtain ⟨b1, b2, b3⟩ := ihx qs rs hq h2
            refine ⟨.cons a1 b1, ?_, ?_⟩
            · simp [PyData.canLayAll0, a2, b2]
            · simp only [PyData.depthAll]; omega
          · cases h
        · cases h
    intro d p v h r
    cases d with
    | tup xs =>
      simp only [toPy, Option.map_eq_some_iff] at h
      obtain ⟨ps, h1, rfl⟩ := h
      obtain ⟨a, vs, rfl, h2, h3⟩ := r
      obtain ⟨a1, a2, a3⟩ := all xs ps vs h1 h3
      exact ⟨.tup h2.sq a1, by simpa [PyData.canLay0] using a2, by simp only [PyData.depth]; omega⟩
    | rol xs =>
      simp only [toPy, Option.map_eq_some_iff] at h
      obtain ⟨ps, h1, rfl⟩ := h
      obtain ⟨a, vs, rfl, h2, h3⟩ := r
      obtain ⟨a1, a2, a3⟩ := all xs ps vs h1 h3
      exact ⟨.lst h2.sq a1, by simpa [PyData.canLay0] using a2, by simp only [PyData.depth]; omega⟩
    | ref n =>
      simp only [toPy] at h
      split at h
      · rename_i xs hx
        simp only [Option.map_eq_some_iff] at h
        obtain ⟨ps, h1, rfl⟩ := h
        obtain ⟨a, h2, rfl⟩ := r
        obtain ⟨vs, h3, h4⟩ := s.obj n a _ h2 hx
        obtain ⟨a1, a2, a3⟩ := all xs ps vs h1 h4
        exact ⟨.lst (SqL.of h3) a1, by simpa [PyData.canLay0] using a2, by simp only [PyData.depth]; omega⟩
      · cases h
    | non => exact leaf _ _ p v (by simpa [toPy] using h) r
    | bl b => exact leaf _ _ p v (by simpa [toPy] using h) r
    | int b => exact leaf _ _ p v (by simpa [toPy] using h) r
    | str b => exact leaf _ (.str b) p v (by simpa only [toPy] using h) r
theorem toPyL_dp (s : Sim K β st H) (k : Nat) : ∀ (xs : List D) (ps : List PyData) (vs : List V), mapO (toPy st k) xs = some ps → RepL K β H xs vs → DpAll K H vs ps ∧ PyData.canLayAll0 ps = true ∧ PyData.depthAll ps ≤ k := by
  intro xs
  induction xs with
  | nil =>
    intro ps vs h r
    simp only [mapO, Option.some.injEq] at h; subst h
    simp only [RepL] at r; subst r
    exact ⟨.nil, rfl, Nat.zero_le _⟩
  | cons x xs ihx =>
    intro ps vs h r
    obtain ⟨v, rs, rfl, h1, h2⟩ := r
    simp only [mapO] at h
    split at h
    · rename_i p hp
      split at h
      · rename_i qs hq
        simp only [Option.some.injEq] at h; subst h
        obtain ⟨a1, a2, a3⟩ := toPy_dp s k x p v hp h1
        obtain ⟨b1, b2, b3⟩ := ihx qs rs hq h2
        refine ⟨.cons a1 b1, ?_, ?_⟩
        · simp [PyData.canLayAll0, a2, b2]
        · simp only [PyData.depthAll]; omega
      · cases h
    · cases h
theorem shaped_of {p : PyData} (a : p.canLay0 = true) (b : p.depth ≤ 60) : SeqAt.shaped p = true := by
  unfold SeqAt.shaped
  rw [a, decide_eq_true (show p.depth ≤ 64 by omega)]
  rfl
theorem rvPy_dp (s : Sim K β st H) {p : PyData} (h : rvPy st rx = some p) (r : RRep K β H H0 rx x) : Dp K H x p ∧ SeqAt.shaped p = true := by
  cases rx with
  | val d =>
    obtain ⟨a, b, c⟩ := toPy_dp s 60 d p x h r
    exact ⟨a, shaped_of b c⟩
  | tmp xs =>
    simp only [rvPy, Option.map_eq_some_iff] at h
    obtain ⟨ps, h1, rfl⟩ := h
    obtain ⟨a, vs, rfl, h2, _, _, h3⟩ := r
    obtain ⟨a1, a2, a3⟩ := toPyL_dp s 59 xs ps vs h1 h3
    exact ⟨.lst (SqL.of h2) a1, shaped_of (by simpa [PyData.canLay0] using a2) (by simp only [PyData.depth]; omega)⟩
end
/-- an operation that answers a truth -/
def rBl (K : PySem.W.Frag) (f : Sto → RV → RV → Option Bool) : R2 := rOp K fun st x y => (f st x y).map fun b => .val (.bl b)
theorem rBl_out {K : PySem.W.Frag} {f : Sto → RV → RV → Option Bool} {x y : V} {H : Hp} {Q : VK} (h : rBl K f x y H Q) :
    ∃ β st H0 rx ry b, Sim K β st H ∧ RRep K β H H0 rx x ∧ RRep K β H H0 ry y ∧ f st rx ry = some b ∧ Q (.bl b) H := by
  obtain ⟨β, st, H0, rx, ry, r, c, hx, hy, e, q⟩ := h
  simp only [Option.map_eq_some_iff] at e
  obtain ⟨b, e1, rfl⟩ := e
  exact ⟨β, st, H0, rx, ry, b, c.sim, hx, hy, e1, q.val c.sim rfl⟩
section
variable {X : Cx}
def cmIs : Cm → CmpOp → Bool
  | .eq, .Eq => true | .ne, .NotEq => true | .lt, .Lt => true | .le, .LtE => true | .gt, .Gt => true | .ge, .GtE => true
  | .isin, .In => true | .notin, .NotIn => true | .isN, .Is => true | .notN, .IsNot => true
  | _, _ => false
/-- x in t, t a tuple of data -/
theorem op_inT (hu : X.A.units + 65 < cLine) : OpR X (compareOp .In) (fun x y H Q => ∃ d ds, Dp X.K H x d ∧ Dp X.K H y (.tuple ds) ∧ SeqAt.shaped d = true ∧ SeqAt.shaped (.tuple ds) = true ∧ Q (.bl (ds.any fun z => PyData.eqv z d)) H) := by
  intro pins s σ H x y v u Q I rx ry h
  obtain ⟨d, ds, hd, he, sd, se, q⟩ := h
  obtain ⟨as, r1⟩ := Dp.reads I d x v hd rx
  obtain ⟨bs, r2⟩ := Dp.reads I (.tuple ds) y u he ry
  exact SeqAt.in_tuple_reads r2 r1 (SeqAt.canLay_of_shaped se) (SeqAt.canLay_of_shaped sd) (room_in_shaped sd hu) ⟨.bl _, H, I, rfl, q⟩
theorem op_notInT (hu : X.A.units + 65 < cLine) : OpR X (compareOp .NotIn) (fun x y H Q => ∃ d ds, Dp X.K H x d ∧ Dp X.K H y (.tuple ds) ∧ SeqAt.shaped d = true ∧ SeqAt.shaped (.tuple ds) = true ∧ Q (.bl (!ds.any fun z => PyData.eqv z d)) H) := by
  intro pins s σ H x y v u Q I rx ry h
  obtain ⟨d, ds, hd, he, sd, se, q⟩ := h
  obtain ⟨as, r1⟩ := Dp.reads I d x v hd rx
  obtain ⟨bs, r2⟩ := Dp.reads I (.tuple ds) y u he ry
  exact SeqAt.notIn_tuple_reads r2 r1 (SeqAt.canLay_of_shaped se) (SeqAt.canLay_of_shaped sd) (room_in_shaped sd hu) ⟨.bl _, H, I, rfl, q⟩
theorem op_inDic (hu : X.A.units + 65 < cLine) : OpR X (compareOp .In) (fun x y H Q => ∃ a o, y = .ref a ∧ DGet H a x o ∧ Q (.bl o.isSome) H) := by
  intro pins s σ H x y v u Q I rx ry h
  obtain ⟨a, o, rfl, g, q⟩ := h
  obtain rfl : u = Value.ref a := ry
  exact d_in (by omega) I g rx fun s' I' => ⟨.bl o.isSome, H, I', rfl, q⟩
theorem op_notInDic (hu : X.A.units + 65 < cLine) : OpR X (compareOp .NotIn) (fun x y H Q => ∃ a o, y = .ref a ∧ DGet H a x o ∧ Q (.bl (!o.isSome)) H) := by
  intro pins s σ H x y v u Q I rx ry h
  obtain ⟨a, o, rfl, g, q⟩ := h
  obtain rfl : u = Value.ref a := ry
  exact d_notIn (by omega) I g rx fun s' I' => ⟨.bl (!o.isSome), H, I', rfl, q⟩
theorem inApp_out {K : PySem.W.Frag} {β : List Addr} {st : Sto} {H H0 : Hp} {rx ry : RV} {x y : V} {b : Bool} (s : Sim K β st H) (hx : RRep K β H H0 rx x) (hy : RRep K β H H0 ry y) (e : inApp st rx ry = some b) :
    (∃ i j, x = .str i ∧ y = .str j ∧ b = !(Builtin.Str.occurrences j i 0 j.length 1).isEmpty) ∨
    (∃ d ds, Dp K H x d ∧ Dp K H y (.list ds) ∧ SeqAt.shaped d = true ∧ SeqAt.shaped (.list ds) = true ∧ b = ds.any fun z => PyData.eqv z d) ∨
    (∃ d ds, Dp K H x d ∧ Dp K H y (.tuple ds) ∧ SeqAt.shaped d = true ∧ SeqAt.shaped (.tuple ds) = true ∧ b = ds.any fun z => PyData.eqv z d) ∨
    (∃ a o, y = .ref a ∧ DGet H a x o ∧ b = o.isSome) := by
  have go : ∀ {zs : List D} {ws : List V}, RepL K β H zs ws → (match rvPy st rx, mapO (toPy st 59) zs with
      | some p, some qs => some (qs.any fun q => PyData.eqv q p)
      | _, _ => none) = some b → ∃ d ds, Dp K H x d ∧ DpAll K H ws ds ∧ SeqAt.shaped d = true ∧ SeqAt.shaped (.list ds) = true ∧ SeqAt.shaped (.tuple ds) = true ∧ b = ds.any fun z => PyData.eqv z d := by
    intro zs ws hz h
    split at h
    · rename_i p qs hp hq
      simp only [Option.some.injEq] at h; subst h
      obtain ⟨a1, a2⟩ := rvPy_dp s hp hx
      obtain ⟨b1, b2, b3⟩ := toPyL_dp s 59 zs qs ws hq hz
      exact ⟨p, qs, a1, b1, a2, shaped_of (by simpa [PyData.canLay0] using b2) (by simp only [PyData.depth]; omega), shaped_of (by simpa [PyData.canLay0] using b2) (by simp only [PyData.depth]; omega), rfl⟩
    · cases h
  cases ry with
  | tmp zs =>
    obtain ⟨a, ws, rfl, h1, _, _, h2⟩ := hy
    obtain ⟨d, ds, g1, g2, g3, g4, _, g5⟩ := go h2 e
    exact .inr (.inl ⟨d, ds, g1, .lst (SqL.of h1) g2, g3, g4, g5⟩)
  | val dy =>
    cases dy with
    | str j =>
      cases rx with
      | tmp _ => cases e
      | val dx =>
        cases dx with
        | str i =>
          simp only [inApp, Option.some.injEq] at e
          exact .inl ⟨i, j, hx, hy, e.symm⟩
        | _ => cases e
    | tup zs =>
      obtain ⟨a, ws, rfl, h1, h2⟩ := hy
      obtain ⟨d, ds, g1, g2, g3, _, g4, g5⟩ := go h2 e
      exact .inr (.inr (.inl ⟨d, ds, g1, .tup h1.sq g2, g3, g4, g5⟩))
    | rol zs =>
      obtain ⟨a, ws, rfl, h1, h2⟩ := hy
      obtain ⟨d, ds, g1, g2, g3, g4, _, g5⟩ := go h2 e
      exact .inr (.inl ⟨d, ds, g1, .lst h1.sq g2, g3, g4, g5⟩)
    | ref n =>
      obtain ⟨a, h1, rfl⟩ := hy
      simp only [inApp] at e
      split at e
      · rename_i lk kvs hk
        split at e
        · rename_i k
          split at e
          · rename_i hkk
            simp only [Option.some.injEq] at e; subst e
            obtain ⟨o, g1, g2⟩ := dic_get s h1 hk hkk hx
            exact .inr (.inr (.inr ⟨a, o, rfl, g1, g2.some_eq⟩))
          · cases e
        · cases e
      · rename_i lk kvs hk
        split at e
        · rename_i k
          split at e
          · rename_i hkk
            simp only [Option.some.injEq] at e; subst e
            obtain ⟨o, g1, g2⟩ := dit_get s h1 hk hkk hx
            exact .inr (.inr (.inr ⟨a, o, rfl, g1, g2.some_eq⟩))
          · cases e
        · cases e
      · rename_i zs hz
        obtain ⟨ws, h3, h4⟩ := s.obj n a _ h1 hz
        obtain ⟨d, ds, g1, g2, g3, g4, _, g5⟩ := go h4 e
        exact .inr (.inl ⟨d, ds, g1, .lst (SqL.of h3) g2, g3, g4, g5⟩)
      · cases e
    | _ => cases e
theorem isNon_iff {K : PySem.W.Frag} {β : List Addr} {H H0 : Hp} {rx : RV} {x : V} (h : RRep K β H H0 rx x) : isNon rx = decide (x = .non) := by
  cases rx with
  | tmp zs => obtain ⟨a, vs, rfl, _⟩ := h; rfl
  | val d =>
    cases d with
    | non => cases h; rfl
    | bl _ => cases h; rfl
    | int _ => cases h; rfl
    | str _ => cases h; rfl
    | tup _ => obtain ⟨a, vs, rfl, _⟩ := h; rfl
    | rol _ => obtain ⟨a, vs, rfl, _⟩ := h; rfl
    | ref _ => obtain ⟨a, _, rfl⟩ := h; rfl
theorem intsOf_eq : ∀ {xs : List D} {ns : List Int}, intsOf xs = some ns → xs = ns.map .int
  | [], ns, h => by simp only [intsOf, mapO, Option.some.injEq] at h; subst h; rfl
  | x :: xs, ns, h => by
    simp only [intsOf, mapO] at h
    split at h
    · rename_i y hy
      split at h
      · rename_i ys hys
        simp only [Option.some.injEq] at h; subst h
        cases x with
        | int i => simp only [Option.some.injEq] at hy; subst hy; rw [List.map_cons, intsOf_eq hys]
        | _ => cases hy
      · cases h
    · cases h
theorem RepL.ints {K : PySem.W.Frag} {β : List Addr} {H : Hp} : ∀ {ns : List Int} {vs : List V}, RepL K β H (ns.map .int) vs → vs = ns.map V.int
  | [], vs, h => h
  | n :: ns, vs, h => by
    obtain ⟨v, r, rfl, h1, h2⟩ := h
    rw [List.map_cons, RepL.ints h2, show v = .int n from h1]
/-- rows of unlike lengths -/
def LenR (K : PySem.W.Frag) (H : Hp) (x y : V) : Prop :=
  (∃ a b xs ys, x = .ref a ∧ y = .ref b ∧ SqL K H a xs ∧ SqL K H b ys ∧ xs.length ≠ ys.length) ∨
  (∃ a b xs ys, x = .ref a ∧ y = .ref b ∧ SqT K H a xs ∧ SqT K H b ys ∧ xs.length ≠ ys.length ∧ (xs = [] ∨ ys = []))
theorem op_eqL (hu : X.A.units + 65 < cLine) : OpR X (compareOp .Eq) (fun x y H Q => LenR X.K H x y ∧ Q (.bl false) H) := by
  intro pins s σ H x y v u Q I rx ry h
  obtain ⟨h, q⟩ := h
  rcases h with ⟨a, b, xs, ys, rfl, rfl, ha, hb, hl⟩ | ⟨a, b, xs, ys, rfl, rfl, ha, hb, hl, he⟩
  · cases (show v = Value.ref a from rx)
    cases (show u = Value.ref b from ry)
    obtain ⟨us, r1, p1, _⟩ := I.list ha
    obtain ⟨ws, r2, p2, _⟩ := I.list hb
    refine SeqAt.eq_list_lengthsAt p1.isList p2.isList ?_ (by omega) ⟨.bl false, H, I, rfl, q⟩
    rw [bne_iff_ne, List.size_toArray, List.size_toArray, ← r1.length, ← r2.length]
    exact hl
  · cases (show v = Value.ref a from rx)
    cases (show u = Value.ref b from ry)
    obtain ⟨us, r1, p1, _⟩ := I.tuple ha
    obtain ⟨ws, r2, p2, _⟩ := I.tuple hb
    have e1 : us.toArray.size = xs.length := by rw [List.size_toArray, ← r1.length]
    have e2 : ws.toArray.size = ys.length := by rw [List.size_toArray, ← r2.length]
    have hm : min us.toArray.size ws.toArray.size = 0 := by
      rcases he with rfl | rfl
      · rw [e1]; simp
      · rw [e2]; simp
    have hr := SeqAt.RcAt.tuples (s := s) (A := X.A) (e := fun _ => true) p1 p2 (by omega) fun j h1 h2 => by omega
    have hb2 : ((List.range (min us.toArray.size ws.toArray.size)).all (fun _ => true) && us.toArray.size == ws.toArray.size) = false := by
      rw [hm, e1, e2]
      simpa using hl
    rw [hb2] at hr
    exact hr _ _ _ _ ⟨.bl false, H, I, rfl, q⟩
theorem op_neL (hu : X.A.units + 65 < cLine) : OpR X (compareOp .NotEq) (fun x y H Q => LenR X.K H x y ∧ Q (.bl true) H) := by
  intro pins s σ H x y v u Q I rx ry h
  obtain ⟨h, q⟩ := h
  rcases h with ⟨a, b, xs, ys, rfl, rfl, ha, hb, hl⟩ | ⟨a, b, xs, ys, rfl, rfl, ha, hb, hl, he⟩
  · cases (show v = Value.ref a from rx)
    cases (show u = Value.ref b from ry)
    obtain ⟨us, r1, p1, _⟩ := I.list ha
    obtain ⟨ws, r2, p2, _⟩ := I.list hb
    refine SeqAt.RcNeAt.lists_lengths p1.isList p2.isList ?_ (by omega) _ _ _ _ ⟨.bl true, H, I, rfl, q⟩
    rw [bne_iff_ne, List.size_toArray, List.size_toArray, ← r1.length, ← r2.length]
    exact hl
  · cases (show v = Value.ref a from rx)
    cases (show u = Value.ref b from ry)
    obtain ⟨us, r1, p1, _⟩ := I.tuple ha
    obtain ⟨ws, r2, p2, _⟩ := I.tuple hb
    have e1 : us.toArray.size = xs.length := by rw [List.size_toArray, ← r1.length]
    have e2 : ws.toArray.size = ys.length := by rw [List.size_toArray, ← r2.length]
    have hm : min us.toArray.size ws.toArray.size = 0 := by
      rcases he with rfl | rfl
      · rw [e1]; simp
      · rw [e2]; simp
    have hr := SeqAt.RcNeAt.tuples (s := s) (A := X.A) (e := fun _ => true) p1 p2 (by omega) fun j h1 h2 => by omega
    have hb2 : (!((List.range (min us.toArray.size ws.toArray.size)).all (fun _ => true) && us.toArray.size == ws.toArray.size)) = true := by
      rw [hm, e1, e2]
      simpa using hl
    rw [hb2] at hr
    exact hr _ _ _ _ ⟨.bl true, H, I, rfl, q⟩
theorem lenEq_out {K : PySem.W.Frag} {β : List Addr} {st : Sto} {H H0 : Hp} {rx ry : RV} {x y : V} {b : Bool} (s : Sim K β st H) (hx : RRep K β H H0 rx x) (hy : RRep K β H H0 ry y) (e : lenEq st rx ry = some b) : b = false ∧ LenR K H x y := by
  unfold lenEq at e
  split at e
  · rename_i xs ys
    split at e
    · rename_i hne
      simp only [Option.some.injEq] at e; subst e
      obtain ⟨a, vs, rfl, h1, h2⟩ := hx
      obtain ⟨a', vs', rfl, g1, g2⟩ := hy
      have l1 := h2.length
      have l2 := g2.length
      refine ⟨rfl, .inr ⟨a, a', vs, vs', rfl, rfl, h1.sq, g1.sq, ?_, ?_⟩⟩
      · cases xs <;> cases ys <;> simp_all <;> omega
      · cases xs with
        | nil => left; exact List.eq_nil_of_length_eq_zero (by simp at l1; omega)
        | cons _ _ => cases ys with
          | nil => right; exact List.eq_nil_of_length_eq_zero (by simp at l2; omega)
          | cons _ _ => simp at hne
    · cases e
  · split at e
    · rename_i xs ys h1 h2
      split at e
      · rename_i hne
        simp only [Option.some.injEq] at e; subst e
        obtain ⟨a, vs, rfl, p1, p2⟩ := listOf_sq s hx h1
        obtain ⟨a', vs', rfl, q1, q2⟩ := listOf_sq s hy h2
        have := of_decide_eq_true hne
        exact ⟨rfl, .inl ⟨a, a', vs, vs', rfl, rfl, p1, q1, by rw [← p2.length, ← q2.length]; exact this⟩⟩
      · cases e
    · cases e
theorem pyEq_out {K : PySem.W.Frag} {β : List Addr} {st : Sto} {H H0 : Hp} {rx ry : RV} {x y : V} {b : Bool} (s : Sim K β st H) (hx : RRep K β H H0 rx x) (hy : RRep K β H H0 ry y) (e : pyEq st rx ry = some b) :
    (∃ p q, Dp K H x p ∧ Dp K H y q ∧ SeqAt.shaped p = true ∧ SeqAt.shaped q = true ∧ b = PyData.eqv p q) ∨ (b = false ∧ LenR K H x y) := by
  unfold pyEq orE at e
  split at e
  · rename_i c hc
    simp only [Option.some.injEq] at e; subst e
    unfold pyEqD at hc
    split at hc
    · rename_i p q' hp hq
      simp only [Option.some.injEq] at hc; subst hc
      obtain ⟨a1, a2⟩ := rvPy_dp s hp hx
      obtain ⟨b1, b2⟩ := rvPy_dp s hq hy
      exact .inl ⟨p, q', a1, b1, a2, b2, rfl⟩
    · cases hc
  · exact .inr (lenEq_out s hx hy e)
/-- THE COMPARISONS -/
theorem cm_ok {o : Cm} {p : CmpOp} (h : cmIs o p = true) (hu : X.A.units + 65 < cLine) : OpR X (compareOp p) (rBl X.K fun st => cmpApp st o) := by
  cases o <;> cases p <;> first | cases h | skip
  · refine or_mono ((op_eqD (X := X) (by omega)).or (op_eqL hu)) fun x y H Q hw => ?_
    obtain ⟨β, st, H0, rx, ry, b, s, hx, hy, e, q⟩ := rBl_out hw
    rcases pyEq_out s hx hy (show pyEq st rx ry = some b from e) with ⟨p, q', a1, b1, a2, b2, rfl⟩ | ⟨rfl, h⟩
    · exact .inl ⟨p, q', a1, b1, a2, b2, q⟩
    · exact .inr ⟨h, q⟩
  · refine or_mono ((op_neD (X := X) (by omega)).or (op_neL hu)) fun x y H Q hw => ?_
    obtain ⟨β, st, H0, rx, ry, b, s, hx, hy, e, q⟩ := rBl_out hw
    simp only [cmpApp, Option.map_eq_some_iff] at e
    obtain ⟨c, e, rfl⟩ := e
    rcases pyEq_out s hx hy e with ⟨p, q', a1, b1, a2, b2, rfl⟩ | ⟨rfl, h⟩
    · exact .inl ⟨p, q', a1, b1, a2, b2, q⟩
    · exact .inr ⟨h, q⟩
  · refine or_mono ((op_lt (X := X)).or (op_lt_str.or (op_ltT (by omega)))) fun x y H Q hw => ?_
    obtain ⟨β, st, H0, rx, ry, b, s, hx, hy, e, q⟩ := rBl_out hw
    simp only [cmpApp] at e
    split at e
    · simp only [Option.some.injEq] at e; subst e
      exact .inl ⟨_, _, hx, hy, q⟩
    · simp only [Option.some.injEq] at e; subst e
      exact .inr (.inl ⟨_, _, hx, hy, q⟩)
    · split at e
      · rename_i ns ms hn hm
        simp only [Option.some.injEq] at e; subst e
        obtain ⟨a, vs, h1, h2, h3⟩ := hx
        obtain ⟨a', vs', g1, g2, g3⟩ := hy
        have e1 := intsOf_eq hn
        have e2 := intsOf_eq hm
        subst e1 e2
        rw [RepL.ints h3] at h2
        rw [RepL.ints g3] at g2
        exact .inr (.inr ⟨a, a', ns, ms, h1, g1, h2.sq, g2.sq, q⟩)
      · cases e
    · cases e
  · refine or_mono ((op_le (X := X)).or op_le_str) fun x y H Q hw => ?_
    obtain ⟨β, st, H0, rx, ry, b, s, hx, hy, e, q⟩ := rBl_out hw
    simp only [cmpApp] at e
    split at e
    · simp only [Option.some.injEq] at e; subst e
      exact .inl ⟨_, _, hx, hy, q⟩
    · simp only [Option.some.injEq] at e; subst e
      exact .inr ⟨_, _, hx, hy, q⟩
    · cases e
  · refine or_mono ((op_gt (X := X)).or op_gt_str) fun x y H Q hw => ?_
    obtain ⟨β, st, H0, rx, ry, b, s, hx, hy, e, q⟩ := rBl_out hw
    simp only [cmpApp] at e
    split at e
    · simp only [Option.some.injEq] at e; subst e
      exact .inl ⟨_, _, hx, hy, q⟩
    · simp only [Option.some.injEq] at e; subst e
      exact .inr ⟨_, _, hx, hy, q⟩
    · cases e
  · refine or_mono ((op_ge (X := X)).or op_ge_str) fun x y H Q hw => ?_
    obtain ⟨β, st, H0, rx, ry, b, s, hx, hy, e, q⟩ := rBl_out hw
    simp only [cmpApp] at e
    split at e
    · simp only [Option.some.injEq] at e; subst e
      exact .inl ⟨_, _, hx, hy, q⟩
    · simp only [Option.some.injEq] at e; subst e
      exact .inr ⟨_, _, hx, hy, q⟩
    · cases e
  · refine or_mono ((op_in_str (X := X)).or ((op_inD hu).or ((op_inT hu).or (op_inDic hu)))) fun x y H Q hw => ?_
    obtain ⟨β, st, H0, rx, ry, b, s, hx, hy, e, q⟩ := rBl_out hw
    rcases inApp_out s hx hy (show inApp st rx ry = some b from e) with ⟨i, j, h1, h2, rfl⟩ | ⟨d, ds, h1, h2, h3, h4, rfl⟩ | ⟨d, ds, h1, h2, h3, h4, rfl⟩ | ⟨a, oo, h1, h2, rfl⟩
    · exact .inl ⟨i, j, h1, h2, q⟩
    · exact .inr (.inl ⟨d, ds, h1, h2, h3, h4, q⟩)
    · exact .inr (.inr (.inl ⟨d, ds, h1, h2, h3, h4, q⟩))
    · exact .inr (.inr (.inr ⟨a, oo, h1, h2, q⟩))
  · refine or_mono ((op_notin_str (X := X)).or ((op_notInD hu).or ((op_notInT hu).or (op_notInDic hu)))) fun x y H Q hw => ?_
    obtain ⟨β, st, H0, rx, ry, b, s, hx, hy, e, q⟩ := rBl_out hw
    simp only [cmpApp, Option.map_eq_some_iff] at e
    obtain ⟨b', e, rfl⟩ := e
    rcases inApp_out s hx hy e with ⟨i, j, h1, h2, rfl⟩ | ⟨d, ds, h1, h2, h3, h4, rfl⟩ | ⟨d, ds, h1, h2, h3, h4, rfl⟩ | ⟨a, oo, h1, h2, rfl⟩
    · exact .inl ⟨i, j, h1, h2, q⟩
    · exact .inr (.inl ⟨d, ds, h1, h2, h3, h4, q⟩)
    · exact .inr (.inr (.inl ⟨d, ds, h1, h2, h3, h4, q⟩))
    · exact .inr (.inr (.inr ⟨a, oo, h1, h2, q⟩))
  · refine or_mono ((op_isN (X := X)).or op_is_bl) fun x y H Q hw => ?_
    obtain ⟨β, st, H0, rx, ry, b, s, hx, hy, e, q⟩ := rBl_out hw
    simp only [cmpApp] at e
    split at e
    · split at e
      · simp only [Option.some.injEq] at e; subst e
        exact .inr ⟨_, _, hx, hy, q⟩
      · cases e
    · split at e
      · rename_i hn
        simp only [Option.some.injEq] at e; subst e
        rw [isNon_iff hy] at hn
        rw [isNon_iff hx] at q
        exact .inl ⟨of_decide_eq_true hn, q⟩
      · cases e
  · refine or_mono ((op_notN (X := X)).or op_isnot_bl) fun x y H Q hw => ?_
    obtain ⟨β, st, H0, rx, ry, b, s, hx, hy, e, q⟩ := rBl_out hw
    simp only [cmpApp] at e
    split at e
    · split at e
      · simp only [Option.some.injEq] at e; subst e
        exact .inr ⟨_, _, hx, hy, q⟩
      · cases e
    · split at e
      · rename_i hn
        simp only [Option.some.injEq] at e; subst e
        rw [isNon_iff hy] at hn
        rw [isNon_iff hx] at q
        exact .inl ⟨of_decide_eq_true hn, q⟩
      · cases e
end
end Mw

set_option Elab.async false
set_option linter.all false
set_option autoImplicit false
set_option maxRecDepth 100000
/-! PyB4: subscripts, slices, truth, built-in calls, methods, stores. -/
namespace Mw
open PySem PySem.Spec PyProof.Rows L2
section
variable {K : PySem.W.Frag} {β : List Addr} {st : Sto} {H H0 : Hp} {Q : VK} {r rx ry : RV} {xs ys : List D} {vs : List V} {d : D} {v x y : V}
theorem RepL.atI {i : Int} (h : RepL K β H xs vs) (e : L2.atI xs i = some d) : ∃ v, L2.atI vs i = some v ∧ Rep K β H d v := by
  unfold L2.atI at e ⊢
  rw [h.length] at e
  cases hi : ixN vs.length i with
  | none => rw [hi] at e; cases e
  | some j =>
    rw [hi] at e
    exact h.get (show xs[j]? = some d from e)
theorem RepL.cut (h : RepL K β H xs vs) (lo hi : Option Int) : RepL K β H (cutD xs lo hi) (cutV vs lo hi) := by
  unfold cutD cutV
  rw [h.length]
  exact (h.drop _).take _
theorem truth_ok (s : Sim K β st H) (hx : RRep K β H H0 rx x) {b : Bool} (e : truth st rx = some b) : TruV K x H b := by
  have iso : ∀ {zs : List D} {ws : List V}, RepL K β H zs ws → (!zs.isEmpty) = !ws.isEmpty := fun {zs ws} h => by
    have := h.length
    cases zs <;> cases ws <;> simp_all
  cases rx with
  | tmp zs =>
    obtain ⟨a, ws, rfl, h1, _, _, h2⟩ := hx
    simp only [truth, Option.some.injEq] at e; subst e
    exact .inl ⟨ws, SqL.of h1, iso h2⟩
  | val d =>
    cases d with
    | non => cases hx; simp only [truth, Option.some.injEq] at e; exact e.symm
    | bl b => cases hx; simp only [truth, Option.some.injEq] at e; exact e.symm
    | int b => cases hx; simp only [truth, Option.some.injEq] at e; exact e.symm
    | str z =>
      cases hx
      simp only [truth] at e
      split at e
      · rename_i hs
        simp only [Option.some.injEq] at e; subst e
        refine ⟨szOk_le hs, ?_⟩
        cases h : z.length with
        | zero => rfl
        | succ n => simp; omega
      · cases e
    | tup zs =>
      obtain ⟨a, ws, rfl, h1, h2⟩ := hx
      simp only [truth, Option.some.injEq] at e; subst e
      exact .inr (.inl ⟨ws, h1.sq, iso h2⟩)
    | rol zs =>
      obtain ⟨a, ws, rfl, h1, h2⟩ := hx
      simp only [truth, Option.some.injEq] at e; subst e
      exact .inl ⟨ws, h1.sq, iso h2⟩
    | ref n =>
      obtain ⟨a, h1, rfl⟩ := hx
      simp only [truth] at e
      split at e
      · rename_i zs hz
        simp only [Option.some.injEq] at e; subst e
        obtain ⟨ws, h3, h4⟩ := s.obj n a _ h1 hz
        exact .inl ⟨ws, SqL.of h3, iso h4⟩
      · rename_i kvs hk
        simp only [Option.some.injEq] at e; subst e
        obtain ⟨ks, h3, h4, h5⟩ := s.obj n a _ h1 hk
        refine .inr (.inr ⟨ks, h3, ?_⟩)
        have := h4.length
        cases kvs <;> cases ks <;> simp_all
      · cases e
/-- what a subscript reads -/
theorem idx_out (c : Cond K β st H0 H) (hx : RRep K β H H0 rx x) (hy : RRep K β H H0 ry y) (e : idxApp st rx ry = some r) (q : Res K β st H H0 r Q) : rIx K x y H Q ∨ ∃ a v, x = .ref a ∧ DGet H a y (some v) ∧ Q v H := by
  unfold idxApp at e
  split at e
  · rename_i i
    have hyi : y = .int i := hy
    subst hyi
    cases rx with
    | tmp zs =>
      obtain ⟨a, ws, rfl, h1, _, _, h2⟩ := hx
      simp only [Option.map_eq_some_iff] at e
      obtain ⟨d, e1, rfl⟩ := e
      obtain ⟨v, g1, g2⟩ := h2.atI e1
      exact .inl (.inl ⟨a, ws, i, v, rfl, rfl, SqL.of h1, g1, q.val c.sim g2⟩)
    | val dx =>
      cases dx with
      | str z =>
        simp only at e
        split at e
        · rename_i hs
          simp only [Option.map_eq_some_iff] at e
          obtain ⟨cc, e1, rfl⟩ := e
          exact .inl (.inr (.inr ⟨z, i, cc, hx, rfl, szOk_le hs, e1, q.val c.sim rfl⟩))
        · cases e
      | tup zs =>
        obtain ⟨a, ws, rfl, h1, h2⟩ := hx
        simp only [Option.map_eq_some_iff] at e
        obtain ⟨d, e1, rfl⟩ := e
        obtain ⟨v, g1, g2⟩ := h2.atI e1
        exact .inl (.inr (.inl ⟨a, ws, i, v, rfl, rfl, h1.sq, g1, q.val c.sim g2⟩))
      | rol zs =>
        obtain ⟨a, ws, rfl, h1, h2⟩ := hx
        simp only [Option.map_eq_some_iff] at e
        obtain ⟨d, e1, rfl⟩ := e
        obtain ⟨v, g1, g2⟩ := h2.atI e1
        exact .inl (.inl ⟨a, ws, i, v, rfl, rfl, h1.sq, g1, q.val c.sim g2⟩)
      | ref n =>
        obtain ⟨a, h1, rfl⟩ := hx
        simp only at e
        split at e
        · rename_i zs hz
          simp only [Option.map_eq_some_iff] at e
          obtain ⟨d, e1, rfl⟩ := e
          obtain ⟨ws, h3, h4⟩ := c.sim.obj n a _ h1 hz
          obtain ⟨v, g1, g2⟩ := h4.atI e1
          exact .inl (.inl ⟨a, ws, i, v, rfl, rfl, SqL.of h3, g1, q.val c.sim g2⟩)
        · rename_i lk kvs hk
          simp only [Option.map_eq_some_iff] at e
          obtain ⟨d, e1, rfl⟩ := e
          obtain ⟨o, g1, g2⟩ := dic_get c.sim h1 hk (k := .int i) rfl rfl
          rw [e1] at g2
          cases o with
          | none => exact g2.elim
          | some v => exact .inr ⟨a, v, rfl, g1, q.val c.sim g2⟩
        · cases e
      | _ => cases e
  · rename_i k _
    cases rx with
    | tmp zs => cases e
    | val dx =>
      cases dx with
      | ref n =>
        obtain ⟨a, h1, rfl⟩ := hx
        simp only at e
        split at e
        · rename_i lk kvs hk
          split at e
          · rename_i hkk
            simp only [Option.map_eq_some_iff] at e
            obtain ⟨d, e1, rfl⟩ := e
            obtain ⟨o, g1, g2⟩ := dic_get c.sim h1 hk hkk hy
            rw [e1] at g2
            cases o with
            | none => exact g2.elim
            | some v => exact .inr ⟨a, v, rfl, g1, q.val c.sim g2⟩
          · cases e
        · rename_i lk kvs hk
          split at e
          · rename_i hkk
            simp only [Option.map_eq_some_iff] at e
            obtain ⟨d, e1, rfl⟩ := e
            obtain ⟨o, g1, g2⟩ := dit_get c.sim h1 hk hkk hy
            rw [e1] at g2
            cases o with
            | none => exact g2.elim
            | some v => exact .inr ⟨a, v, rfl, g1, q.val c.sim g2⟩
          · cases e
        · cases e
      | _ => cases e
  · cases e
end
section
variable {X : Cx}
/-- d[k] -/
theorem ix_dic (hu : X.A.units + 65 < cLine) : IxR X (fun x y H Q => ∃ a v, x = .ref a ∧ DGet H a y (some v) ∧ Q v H) := fun value slice pins s σ H x y v u Q I rx ry h hs => by
  obtain ⟨a, w, rfl, g, q⟩ := h
  obtain rfl : v = Value.ref a := rx
  unfold subscriptTail
  refine wpAny_bind ?_
  have hT := dict_typeIs I g
  rw [getitemInPython_of_ne hT.not_modules]
  refine wpAny_bind (wpAny_specialOf hT PySem.F.slot_dict_getitem.lookup ?_)
  have fin : wpAny (model X.prog X.w) X.A (subscripted slice false (.ref a) u) (fun r s₃ => wpAny (model X.prog X.w) X.A (letTemporaryGo value (.ref a) r >>= fun _ => pure r) (EP X pins σ Q) X.xe s₃) X.xe s := by
    rw [hs]
    exact wpAny_operating (d_getItem (by omega) I g ry fun w' s3 I3 rw' => wpAny_bind (wpAny_letTemporaryGo (wpAny_pure ⟨w, H, I3, rw', q⟩)))
  first
    | exact wpAny_pure (wpAny_bind fin)
    | exact wpAny_bind (wpAny_pure (wpAny_bind fin))
    | exact wpAny_bind fin
theorem ix_ok (hu : X.A.units + 65 < cLine) : IxR X (rOp X.K idxApp) := fun value slice pins s σ H x y v u Q I rx ry h hs => by
  obtain ⟨β, st, H0, rx', ry', r, c, hx, hy, e, q⟩ := h
  rcases idx_out c hx hy e q with h | h
  · exact ix_seq value slice pins s σ H x y v u Q I rx ry h hs
  · exact ix_dic hu value slice pins s σ H x y v u Q I rx ry h hs
/-- the reading of a slice -/
def rSli (K : PySem.W.Frag) : V → Option Int → Option Int → Hp → VK → Prop := fun x lo hi H Q =>
  ∃ β st H0 rx r, Cond K β st H0 H ∧ RRep K β H H0 rx x ∧ sliApp st rx lo hi = some r ∧ Res K β st H H0 r Q
theorem sli_ok : SlR X (rSli X.K) := by
  intro pins s σ H x v vl vu lo hi sl Q I rx hs pl pu h
  obtain ⟨β, st, H0, rx', r, c, hx, e, q⟩ := h
  have go : rSlL X.K x lo hi H Q ∨ (rSlA X.K x lo hi H Q ∨ rSlS x lo hi H Q) := by
    unfold sliApp at e
    split at e
    · rename_i zs
      simp only [Option.some.injEq] at e; subst e
      obtain ⟨a, ws, rfl, h1, h2⟩ := hx
      refine .inr (.inl ⟨a, ws, rfl, h1.sq, fun hw => ?_, fun _ => q.newTup c.sim (h2.cut lo hi)⟩)
      have hc := h2.cut lo hi
      have e2 : cutV ws lo hi = ws := by
        unfold cutV
        rw [hw.1, hw.2]
        simp
      rw [e2] at hc
      exact q.tup c.sim h1 hc
    · split at e
      · rename_i z hs
        simp only [Option.some.injEq] at e; subst e
        exact .inr (.inr ⟨z, hx, szOk_le hs, q.val c.sim rfl⟩)
      · cases e
    · simp only [Option.map_eq_some_iff] at e
      obtain ⟨zs, e1, rfl⟩ := e
      obtain ⟨a, ws, h1, h2, h3⟩ := listOf_sq c.sim hx e1
      exact .inl ⟨a, ws, h1, h2, q.tmp c (h3.cut lo hi)⟩
  exact (sl_list.or (sl_tupA.or sl_str)) pins s σ H x v vl vu lo hi sl Q I rx hs pl pu go

/-! ### built-in calls -/
def RRepL (K : PySem.W.Frag) (β : List Addr) (H H0 : Hp) : List RV → List V → Prop
  | [], vs => vs = []
  | r :: rs, vs => ∃ v w, vs = v :: w ∧ RRep K β H H0 r v ∧ RRepL K β H H0 rs w
def rBi (K : PySem.W.Frag) (b : BI) : List V → Hp → VK → Prop := fun vs H Q =>
  ∃ β st H0 rs r, Cond K β st H0 H ∧ RRepL K β H H0 rs vs ∧ biApp st b rs = some r ∧ Res K β st H H0 r Q
theorem callR_mono {f : Value} {r r' : List V → Hp → VK → Prop} (h : CallR X f r) (i : ∀ xs H Q, r' xs H Q → r xs H Q) : CallR X f r' := fun pins s σ H xs us Q I rx q => h pins s σ H xs us Q I rx (i xs H Q q)
theorem callR_or {f : Value} {r r' : List V → Hp → VK → Prop} (h : CallR X f r) (h' : CallR X f r') : CallR X f (fun xs H Q => r xs H Q ∨ r' xs H Q) := fun pins s σ H xs us Q I rx q =>
  q.elim (h pins s σ H xs us Q I rx) (h' pins s σ H xs us Q I rx)
theorem one_rep {K : PySem.W.Frag} {β : List Addr} {H H0 : Hp} {r : RV} {vs : List V} (h : RRepL K β H H0 [r] vs) : ∃ v, vs = [v] ∧ RRep K β H H0 r v := by
  obtain ⟨v, w, rfl, h1, h2⟩ := h
  exact ⟨v, by rw [show w = [] from h2], h1⟩
theorem two_rep {K : PySem.W.Frag} {β : List Addr} {H H0 : Hp} {r r' : RV} {vs : List V} (h : RRepL K β H H0 [r, r'] vs) : ∃ v v', vs = [v, v'] ∧ RRep K β H H0 r v ∧ RRep K β H H0 r' v' := by
  obtain ⟨v, w, rfl, h1, h2⟩ := h
  obtain ⟨v', rfl, h3⟩ := one_rep h2
  exact ⟨v, v', rfl, h1, h3⟩
theorem bi_len : CallR X (.builtin "len") (rBi X.K .len) := callR_mono (callR_or (callR_or call_len call_lenD) call_len_dT) fun xs H Q h => by
  obtain ⟨β, st, H0, rs, r, c, hr, e, q⟩ := h
  simp only [biApp] at e
  unfold biLen at e
  split at e
  case h_2 => cases e
  rename_i rx
  obtain ⟨x, rfl, hx⟩ := one_rep hr
  cases rx with
  | tmp zs =>
    obtain ⟨a, ws, rfl, h1, _, _, h2⟩ := hx
    simp only [Option.some.injEq] at e; subst e
    exact .inl (.inl ⟨.ref a, zs.length, rfl, .inl ⟨ws, SqL.of h1, h2.length⟩, q.val c.sim rfl⟩)
  | val dx =>
    cases dx with
    | str z =>
      simp only at e
      split at e
      · rename_i hs
        simp only [Option.some.injEq] at e; subst e
        cases hx
        exact .inl (.inl ⟨.str z, z.length, rfl, ⟨szOk_le hs, rfl⟩, q.val c.sim rfl⟩)
      · cases e
    | tup zs =>
      obtain ⟨a, ws, rfl, h1, h2⟩ := hx
      simp only [Option.some.injEq] at e; subst e
      exact .inl (.inl ⟨.ref a, zs.length, rfl, .inr ⟨ws, h1.sq, h2.length⟩, q.val c.sim rfl⟩)
    | rol zs =>
      obtain ⟨a, ws, rfl, h1, h2⟩ := hx
      simp only [Option.some.injEq] at e; subst e
      exact .inl (.inl ⟨.ref a, zs.length, rfl, .inl ⟨ws, h1.sq, h2.length⟩, q.val c.sim rfl⟩)
    | ref n =>
      obtain ⟨a, h1, rfl⟩ := hx
      simp only at e
      split at e
      · rename_i zs hz
        simp only [Option.some.injEq] at e; subst e
        obtain ⟨ws, h3, h4⟩ := c.sim.obj n a _ h1 hz
        exact .inl (.inl ⟨.ref a, zs.length, rfl, .inl ⟨ws, SqL.of h3, h4.length⟩, q.val c.sim rfl⟩)
      · rename_i kvs hk
        simp only [Option.some.injEq] at e; subst e
        obtain ⟨ks, h3, h4, h5⟩ := c.sim.obj n a _ h1 hk
        exact .inl (.inr ⟨a, ks, rfl, h3, by rw [← h4.length]; exact q.val c.sim rfl⟩)
      · rename_i kvs hk
        simp only [Option.some.injEq] at e; subst e
        obtain ⟨ks, h3, h4, h5⟩ := c.sim.obj n a _ h1 hk
        exact .inr ⟨a, ks, rfl, h3, by rw [← h4.length]; exact q.val c.sim rfl⟩
      · cases e
    | _ => cases e
theorem bi_int : CallR X (.type "int") (rBi X.K .int) := callR_mono (callR_or call_int1 call_int_str) fun xs H Q h => by
  obtain ⟨β, st, H0, rs, r, c, hr, e, q⟩ := h
  simp only [biApp] at e
  unfold biInt at e
  split at e
  · obtain ⟨x, rfl, hx⟩ := one_rep hr
    cases hx
    simp only [Option.some.injEq] at e; subst e
    exact .inl (.inl ⟨_, rfl, q.val c.sim rfl⟩)
  · obtain ⟨x, rfl, hx⟩ := one_rep hr
    cases hx
    simp only [Option.some.injEq] at e; subst e
    exact .inl (.inr ⟨_, rfl, q.val c.sim rfl⟩)
  · split at e
    · rename_i hs
      obtain ⟨x, rfl, hx⟩ := one_rep hr
      cases hx
      simp only [Option.map_eq_some_iff] at e
      obtain ⟨n, e1, rfl⟩ := e
      exact .inr ⟨_, n, rfl, e1, of_decide_eq_true hs, q.val c.sim rfl⟩
    · cases e
  · cases e
theorem call_str_bl : CallR X (.type "str") (fun xs H Q => ∃ b, xs = [.bl b] ∧ Q (.str (if b = true then "True" else "False")) H) := by
  intro pins s σ H xs us Q I r h
  obtain ⟨b, rfl, q⟩ := h
  obtain ⟨u, rfl, ru⟩ := vals1 r
  cases ru
  exact PySem.P.str_of_bool ⟨.str _, H, I.tok _, ⟨_, rfl⟩, q⟩
theorem call_str_non : CallR X (.type "str") (fun xs H Q => xs = [.non] ∧ Q (.str "None") H) := by
  intro pins s σ H xs us Q I r h
  obtain ⟨rfl, q⟩ := h
  obtain ⟨u, rfl, ru⟩ := vals1 r
  cases ru
  exact PySem.P.str_of_none ⟨.str _, H, I.tok _, ⟨_, rfl⟩, q⟩
theorem bi_str : CallR X (.type "str") (rBi X.K .str) := callR_mono (callR_or (callR_or call_str_int SkE.call_str_str) (callR_or call_str_bl call_str_non)) fun xs H Q h => by
  obtain ⟨β, st, H0, rs, r, c, hr, e, q⟩ := h
  simp only [biApp] at e
  unfold biStr at e
  split at e
  · obtain ⟨x, rfl, hx⟩ := one_rep hr
    cases hx
    simp only [strInt, Option.map_eq_some_iff] at e
    obtain ⟨z, e1, rfl⟩ := e
    split at e1
    · rename_i hs
      simp only [Option.some.injEq] at e1; subst e1
      exact .inl (.inl ⟨_, rfl, hs, q.val c.sim rfl⟩)
    · cases e1
  · obtain ⟨x, rfl, hx⟩ := one_rep hr
    cases hx
    simp only [Option.some.injEq] at e; subst e
    exact .inl (.inr ⟨_, rfl, q.val c.sim rfl⟩)
  · obtain ⟨x, rfl, hx⟩ := one_rep hr
    cases hx
    simp only [Option.some.injEq] at e; subst e
    exact .inr (.inl ⟨_, rfl, q.val c.sim rfl⟩)
  · obtain ⟨x, rfl, hx⟩ := one_rep hr
    cases hx
    simp only [Option.some.injEq] at e; subst e
    exact .inr (.inr ⟨rfl, q.val c.sim rfl⟩)
  · cases e
theorem bi_bool : CallR X (.type "bool") (rBi X.K .bool) := callR_mono call_bool1 fun xs H Q h => by
  obtain ⟨β, st, H0, rs, r, c, hr, e, q⟩ := h
  simp only [biApp] at e
  unfold biBool at e
  split at e
  · obtain ⟨x, rfl, hx⟩ := one_rep hr
    cases hx
    simp only [Option.some.injEq] at e; subst e
    exact .inl ⟨_, rfl, q.val c.sim rfl⟩
  · obtain ⟨x, rfl, hx⟩ := one_rep hr
    cases hx
    simp only [Option.some.injEq] at e; subst e
    exact .inr ⟨_, rfl, q.val c.sim rfl⟩
  · cases e
theorem bi_tuple : CallR X (.type "tuple") (rBi X.K .tuple) := callR_mono call_tuple_of fun xs H Q h => by
  obtain ⟨β, st, H0, rs, r, c, hr, e, q⟩ := h
  simp only [biApp] at e
  unfold biTuple at e
  split at e
  · obtain ⟨x, rfl, hx⟩ := one_rep hr
    simp only [Option.map_eq_some_iff] at e
    obtain ⟨zs, e1, rfl⟩ := e
    obtain ⟨a, ws, rfl, h1, h2⟩ := seqOf_sqU c.sim hx e1
    rcases h1 with h1 | h1
    · exact ⟨a, ws, rfl, .inl ⟨h1, q.newTup c.sim h2⟩⟩
    · exact ⟨a, ws, rfl, .inr ⟨h1.sq, q.tup c.sim h1 h2⟩⟩
  · cases e
theorem bi_list : CallR X (.type "list") (rBi X.K .list) := callR_mono call_list_of fun xs H Q h => by
  obtain ⟨β, st, H0, rs, r, c, hr, e, q⟩ := h
  simp only [biApp] at e
  unfold biList at e
  split at e
  · obtain ⟨x, rfl, hx⟩ := one_rep hr
    simp only [Option.map_eq_some_iff] at e
    obtain ⟨zs, e1, rfl⟩ := e
    obtain ⟨a, ws, rfl, h1, h2⟩ := seqOf_sq c.sim hx e1
    exact ⟨a, ws, rfl, h1, q.tmp c h2⟩
  · cases e
theorem listInts {K : PySem.W.Frag} {β : List Addr} {st : Sto} {H H0 : Hp} {rx : RV} {x : V} {zs : List D} {ns : List Int} (s : Sim K β st H) (hx : RRep K β H H0 rx x) (e1 : listOf st rx = some zs) (e2 : intsOf zs = some ns) :
    ∃ a, x = .ref a ∧ SqL K H a (ns.map V.int) := by
  obtain ⟨a, ws, rfl, h1, h2⟩ := listOf_sq s hx e1
  have e3 := intsOf_eq e2
  subst e3
  rw [h2.ints] at h1
  exact ⟨a, rfl, h1⟩
theorem fold_max : ∀ (xs : List Int) (x : Int), (xs.foldl (fun m y => if y > m then y else m) x) ∈ x :: xs ∧ ∀ y ∈ x :: xs, y ≤ xs.foldl (fun m y => if y > m then y else m) x
  | [], x => by simp
  | z :: zs, x => by
    obtain ⟨h1, h2⟩ := fold_max zs (if z > x then z else x)
    simp only [List.foldl_cons]
    refine ⟨?_, fun y hy => ?_⟩
    · rcases List.mem_cons.mp h1 with h | h
      · rw [h]
        split
        · simp
        · simp
      · simp [h]
    · have h0 := h2 _ List.mem_cons_self
      rcases List.mem_cons.mp hy with rfl | hy
      · refine Int.le_trans ?_ h0
        split <;> omega
      · rcases List.mem_cons.mp hy with rfl | hy
        · refine Int.le_trans ?_ h0
          split <;> omega
        · exact h2 y (List.mem_cons_of_mem _ hy)
theorem fold_min : ∀ (xs : List Int) (x : Int), (xs.foldl (fun m y => if y < m then y else m) x) ∈ x :: xs ∧ ∀ y ∈ x :: xs, xs.foldl (fun m y => if y < m then y else m) x ≤ y
  | [], x => by simp
  | z :: zs, x => by
    obtain ⟨h1, h2⟩ := fold_min zs (if z < x then z else x)
    simp only [List.foldl_cons]
    refine ⟨?_, fun y hy => ?_⟩
    · rcases List.mem_cons.mp h1 with h | h
      · rw [h]
        split
        · simp
        · simp
      · simp [h]
    · have h0 := h2 _ List.mem_cons_self
      rcases List.mem_cons.mp hy with rfl | hy
      · refine Int.le_trans h0 ?_
        split <;> omega
      · rcases List.mem_cons.mp hy with rfl | hy
        · refine Int.le_trans h0 ?_
          split <;> omega
        · exact h2 y (List.mem_cons_of_mem _ hy)
def rOf (K : PySem.W.Frag) (F : Sto → List RV → Option RV) : List V → Hp → VK → Prop := fun vs H Q =>
  ∃ β st H0 rs r, Cond K β st H0 H ∧ RRepL K β H H0 rs vs ∧ F st rs = some r ∧ Res K β st H H0 r Q
theorem rOf_or {f : Value} {F G : Sto → List RV → Option RV} (h : CallR X f (rOf X.K F)) (h' : CallR X f (rOf X.K G)) : CallR X f (rOf X.K fun st rs => orE (F st rs) (G st rs)) :=
  callR_mono (callR_or h h') fun xs H Q ⟨β, st, H0, rs, r, c, hr, e, q⟩ => by
    simp only [orE] at e
    split at e
    · rename_i x hx
      simp only [Option.some.injEq] at e; subst e
      exact .inl ⟨β, st, H0, rs, _, c, hr, hx, q⟩
    · exact .inr ⟨β, st, H0, rs, r, c, hr, e, q⟩
theorem bi_maxI (hc : X.calm = true) : CallR X (.builtin "max") (rOf X.K biMaxI) := callR_mono (callR_or (call_max2 hc) (cr_max hc)) fun xs H Q h => by
  obtain ⟨β, st, H0, rs, r, c, hr, e, q⟩ := h
  unfold biMaxI at e
  split at e
  · obtain ⟨x, y, rfl, hx, hy⟩ := two_rep hr
    cases hx; cases hy
    simp only [Option.some.injEq] at e; subst e
    exact .inl ⟨_, _, rfl, q.val c.sim rfl⟩
  · obtain ⟨x, rfl, hx⟩ := one_rep hr
    simp only [Option.bind_eq_some_iff, Option.map_eq_some_iff] at e
    obtain ⟨zs, e1, ns, e2, m, e3, rfl⟩ := e
    obtain ⟨a, rfl, h1⟩ := listInts c.sim hx e1 e2
    cases ns with
    | nil => cases e3
    | cons n ns =>
      simp only [maxI, Option.some.injEq] at e3; subst e3
      obtain ⟨f1, f2⟩ := fold_max ns n
      exact .inr ⟨a, n :: ns, rfl, h1, by simp, fun m hm hl => by
        have := Int.le_antisymm (f2 m hm) (hl _ f1)
        rw [this]
        exact q.val c.sim rfl⟩
  · cases e
theorem bi_minI (hc : X.calm = true) : CallR X (.builtin "min") (rOf X.K biMinI) := callR_mono (callR_or (call_min2 hc) (cr_min hc)) fun xs H Q h => by
  obtain ⟨β, st, H0, rs, r, c, hr, e, q⟩ := h
  unfold biMinI at e
  split at e
  · obtain ⟨x, y, rfl, hx, hy⟩ := two_rep hr
    cases hx; cases hy
    simp only [Option.some.injEq] at e; subst e
    exact .inl ⟨_, _, rfl, q.val c.sim rfl⟩
  · obtain ⟨x, rfl, hx⟩ := one_rep hr
    simp only [Option.bind_eq_some_iff, Option.map_eq_some_iff] at e
    obtain ⟨zs, e1, ns, e2, m, e3, rfl⟩ := e
    obtain ⟨a, rfl, h1⟩ := listInts c.sim hx e1 e2
    cases ns with
    | nil => cases e3
    | cons n ns =>
      simp only [minI, Option.some.injEq] at e3; subst e3
      obtain ⟨f1, f2⟩ := fold_min ns n
      exact .inr ⟨a, n :: ns, rfl, h1, by simp, fun m hm hl => by
        have := Int.le_antisymm (hl _ f1) (f2 m hm)
        rw [this]
        exact q.val c.sim rfl⟩
  · cases e
theorem blsOf_eq : ∀ {xs : List D} {bs : List Bool}, blsOf xs = some bs → xs = bs.map .bl
  | [], ns, h => by simp only [blsOf, mapO, Option.some.injEq] at h; subst h; rfl
  | x :: xs, ns, h => by
    simp only [blsOf, mapO] at h
    split at h
    · rename_i y hy
      split at h
      · rename_i ys hys
        simp only [Option.some.injEq] at h; subst h
        cases x with
        | bl i => simp only [Option.some.injEq] at hy; subst hy; rw [List.map_cons, blsOf_eq hys]
        | _ => cases hy
      · cases h
    · cases h
theorem RepL.bls {K : PySem.W.Frag} {β : List Addr} {H : Hp} : ∀ {ns : List Bool} {vs : List V}, RepL K β H (ns.map .bl) vs → vs = ns.map V.bl
  | [], vs, h => h
  | n :: ns, vs, h => by
    obtain ⟨v, r, rfl, h1, h2⟩ := h
    rw [List.map_cons, RepL.bls h2, show v = .bl n from h1]
theorem strsOf_eq : ∀ {xs : List D} {bs : List Str}, strsOf xs = some bs → xs = bs.map .str
  | [], ns, h => by simp only [strsOf, mapO, Option.some.injEq] at h; subst h; rfl
  | x :: xs, ns, h => by
    simp only [strsOf, mapO] at h
    split at h
    · rename_i y hy
      split at h
      · rename_i ys hys
        simp only [Option.some.injEq] at h; subst h
        cases x with
        | str i => simp only [Option.some.injEq] at hy; subst hy; rw [List.map_cons, strsOf_eq hys]
        | _ => cases hy
      · cases h
    · cases h
theorem RepL.strs {K : PySem.W.Frag} {β : List Addr} {H : Hp} : ∀ {ns : List Str} {vs : List V}, RepL K β H (ns.map .str) vs → vs = ns.map V.str
  | [], vs, h => h
  | n :: ns, vs, h => by
    obtain ⟨v, r, rfl, h1, h2⟩ := h
    rw [List.map_cons, RepL.strs h2, show v = .str n from h1]
theorem RepL.ofStrs {K : PySem.W.Frag} {β : List Addr} {H : Hp} : ∀ (ns : List Str), RepL K β H (ns.map .str) (ns.map V.str)
  | [] => rfl
  | n :: ns => ⟨_, _, rfl, rfl, RepL.ofStrs ns⟩
theorem RepL.ofInts {K : PySem.W.Frag} {β : List Addr} {H : Hp} : ∀ (ns : List Int), RepL K β H (ns.map .int) (ns.map V.int)
  | [] => rfl
  | n :: ns => ⟨_, _, rfl, rfl, RepL.ofInts ns⟩
theorem bi_any (hc : X.calm = true) : CallR X (.builtin "any") (rBi X.K .any) := callR_mono (cr_any hc) fun xs H Q h => by
  obtain ⟨β, st, H0, rs, r, c, hr, e, q⟩ := h
  simp only [biApp] at e
  unfold biAny at e
  split at e
  · obtain ⟨x, rfl, hx⟩ := one_rep hr
    simp only [Option.bind_eq_some_iff, Option.map_eq_some_iff] at e
    obtain ⟨zs, e1, ns, e2, rfl⟩ := e
    obtain ⟨a, ws, rfl, h1, h2⟩ := listOf_sq c.sim hx e1
    have e3 := blsOf_eq e2
    subst e3
    rw [h2.bls] at h1
    exact ⟨a, ns, rfl, h1, q.val c.sim rfl⟩
  · cases e
theorem bi_all (hc : X.calm = true) : CallR X (.builtin "all") (rBi X.K .all) := callR_mono (cr_all hc) fun xs H Q h => by
  obtain ⟨β, st, H0, rs, r, c, hr, e, q⟩ := h
  simp only [biApp] at e
  unfold biAll at e
  split at e
  · obtain ⟨x, rfl, hx⟩ := one_rep hr
    simp only [Option.bind_eq_some_iff, Option.map_eq_some_iff] at e
    obtain ⟨zs, e1, ns, e2, rfl⟩ := e
    obtain ⟨a, ws, rfl, h1, h2⟩ := listOf_sq c.sim hx e1
    have e3 := blsOf_eq e2
    subst e3
    rw [h2.bls] at h1
    exact ⟨a, ns, rfl, h1, q.val c.sim rfl⟩
  · cases e
theorem bi_abs : CallR X (.builtin "abs") (rBi X.K .abs) := callR_mono call_abs fun xs H Q h => by
  obtain ⟨β, st, H0, rs, r, c, hr, e, q⟩ := h
  simp only [biApp] at e
  unfold biAbs at e
  split at e
  · obtain ⟨x, rfl, hx⟩ := one_rep hr
    cases hx
    simp only [Option.some.injEq] at e; subst e
    exact ⟨_, rfl, q.val c.sim rfl⟩
  · cases e
/-- isinstance(x, T) -/
def tyName : Ty → String
  | .int => "int" | .bool => "bool" | .str => "str" | .tuple => "tuple" | .list => "list" | .dict => "dict"
theorem isTy_out {K : PySem.W.Frag} {β : List Addr} {st : Sto} {H H0 : Hp} {rx : RV} {x : V} {t : Ty} {b : Bool} (s : Sim K β st H) (hx : RRep K β H H0 rx x) (e : isTy st t rx = some b) :
    ∃ c, TyX K H x c ∧ PySem.W.kitOne K c (.type (tyName t)) = some b := by
  have tup : ∀ {a : Addr} {ws : List V}, SqT K H a ws → TyX K H (.ref a) (.type "tuple") := fun h => by
    rcases h with (h | ⟨o, h⟩) | ⟨o, its, n, h1, h2, _⟩
    · exact .base (.tup h)
    · exact .fTuple h
    · exact .kTuple h1 h2
  have fro : ∀ {a : Addr} {ws : List V}, SqF K H a ws → TyX K H (.ref a) (.type "list") := fun h => by
    rcases h with ⟨o, h⟩ | ⟨o, its, n, h1, h2, _⟩
    · exact .base (.frz h)
    · exact .kList h1 h2
  cases rx with
  | tmp zs =>
    obtain ⟨a, ws, rfl, h1, _⟩ := hx
    simp only [isTy, Option.some.injEq] at e; subst e
    exact ⟨_, .base (.lst h1), by cases t <;> exact kit_ty (by decide +kernel)⟩
  | val d =>
    cases d with
    | non => cases hx; simp only [isTy, Option.some.injEq] at e; subst e; exact ⟨_, .base .non, by cases t <;> exact kit_ty (by decide +kernel)⟩
    | bl _ => cases hx; simp only [isTy, Option.some.injEq] at e; subst e; exact ⟨_, .base (.bl _), by cases t <;> exact kit_ty (by decide +kernel)⟩
    | int _ => cases hx; simp only [isTy, Option.some.injEq] at e; subst e; exact ⟨_, .base (.int _), by cases t <;> exact kit_ty (by decide +kernel)⟩
    | str _ => cases hx; simp only [isTy, Option.some.injEq] at e; subst e; exact ⟨_, .base (.str _), by cases t <;> exact kit_ty (by decide +kernel)⟩
    | tup zs =>
      obtain ⟨a, ws, rfl, h1, h2⟩ := hx
      simp only [isTy, Option.some.injEq] at e; subst e
      exact ⟨_, tup h1.sq, by cases t <;> exact kit_ty (by decide +kernel)⟩
    | rol zs =>
      obtain ⟨a, ws, rfl, h1, h2⟩ := hx
      simp only [isTy, Option.some.injEq] at e; subst e
      exact ⟨_, fro h1, by cases t <;> exact kit_ty (by decide +kernel)⟩
    | ref n =>
      obtain ⟨a, h1, rfl⟩ := hx
      simp only [isTy] at e
      split at e
      · rename_i zs hz
        simp only [Option.some.injEq] at e; subst e
        obtain ⟨ws, h3, h4⟩ := s.obj n a _ h1 hz
        exact ⟨_, .base (.lst h3), by cases t <;> exact kit_ty (by decide +kernel)⟩
      · rename_i lk kvs hk
        simp only [Option.some.injEq] at e; subst e
        obtain ⟨ks, h3, h4, h5⟩ := s.obj n a _ h1 hk
        cases lk with
        | false => exact ⟨_, .base (.dK h3), by cases t <;> exact kit_ty (by decide +kernel)⟩
        | true => obtain ⟨o, h3⟩ := h3; exact ⟨_, .fDict h3, by cases t <;> exact kit_ty (by decide +kernel)⟩
      · rename_i kvs hk
        simp only [Option.some.injEq] at e; subst e
        obtain ⟨ks, h3, h4, h5⟩ := s.obj n a _ h1 hk
        exact ⟨_, .base (.dT h3), by cases t <;> exact kit_ty (by decide +kernel)⟩
      · cases e
end
end Mw

set_option Elab.async false
set_option linter.all false
set_option autoImplicit false
set_option maxRecDepth 100000
/-! PyB5: methods, stores; laying a new list into the store. -/
namespace Mw
open PySem PySem.Spec PyProof.Rows L2
section
variable {K : PySem.W.Frag} {β β' β0 : List Addr} {st : Sto} {H H' H0 : Hp} {Q : VK} {r rx ry : RV} {xs ys : List D} {vs : List V} {d : D} {v x y : V}
mutual
theorem Rep.grow (g : ∀ (n : Nat) (a : Addr), β[n]? = some a → β'[n]? = some a) : ∀ (d : D) (v : V), Rep K β H d v → Rep K β' H d v
  | .non, _, h => h
  | .bl _, _, h => h
  | .int _, _, h => h
  | .str _, _, h => h
  | .tup xs, v, h => by obtain ⟨a, vs, e1, h1, h2⟩ := h; exact ⟨a, vs, e1, h1, RepL.grow g xs vs h2⟩
  | .rol xs, v, h => by obtain ⟨a, vs, e1, h1, h2⟩ := h; exact ⟨a, vs, e1, h1, RepL.grow g xs vs h2⟩
  | .ref n, v, h => by obtain ⟨a, h1, h2⟩ := h; exact ⟨a, g n a h1, h2⟩
theorem RepL.grow (g : ∀ (n : Nat) (a : Addr), β[n]? = some a → β'[n]? = some a) : ∀ (ds : List D) (vs : List V), RepL K β H ds vs → RepL K β' H ds vs
  | [], _, h => h
  | x :: xs, vs, h => by obtain ⟨v, r, e1, h1, h2⟩ := h; exact ⟨v, r, e1, Rep.grow g x v h1, RepL.grow g xs r h2⟩
end
theorem grow_app {p : Addr} (n : Nat) (a : Addr) (h : β[n]? = some a) : (β ++ [p])[n]? = some a := by
  rw [List.getElem?_append_left (List.getElem?_eq_some_iff.mp h).1]; exact h
theorem EnvR.grow (g : ∀ (n : Nat) (a : Addr), β[n]? = some a → β'[n]? = some a) {ρ : Env} {σ : L2.St} (h : EnvR K β H ρ σ) : EnvR K β' H ρ σ :=
  ⟨h.1, fun i d hi => let ⟨v, h1, h2⟩ := h.2 i d hi; ⟨v, h1, Rep.grow g d v h2⟩⟩
theorem Ext.grow (e : Ext β H β' H') (n : Nat) (a : Addr) (h : β[n]? = some a) : β'[n]? = some a := e.get h
theorem Ext.lay (e : Ext β0 H0 β H) {p : Addr} (h : H0 p = none) : Ext β0 H0 (β ++ [p]) H := by
  obtain ⟨new, rfl, f⟩ := e.pre
  refine ⟨⟨new ++ [p], by rw [List.append_assoc], fun b hb => ?_⟩, e.keep, e.frz⟩
  rcases List.mem_append.mp hb with z | z
  · exact f b z
  · simp only [List.mem_singleton] at z; rw [z]; exact h
theorem lst_nf {H : Hp} {a : Addr} {ws : List V} (h : H a = some (.lst ws)) : ∀ o u, H a ≠ some (.frz o u) := fun o u z => by rw [h] at z; cases z
theorem Ext.write (e : Ext β0 H0 β H) {a : Addr} {o : HO} (h : a ∈ β) (nf : ∀ o u, H a ≠ some (.frz o u)) : Ext β0 H0 β (upd H a o) := by
  refine ⟨e.pre, fun b u hb hn => ?_, fun b o u hb => by
    have := e.frz b o u hb
    rw [upd_ne fun z => by rw [z] at this; exact nf _ _ this]
    exact this⟩
  have hne : b ≠ a := fun z => by
    subst z
    obtain ⟨new, rfl, f⟩ := e.pre
    rcases List.mem_append.mp h with z | z
    · exact hn z
    · rw [f b z] at hb; cases hb
  rw [upd_ne hne]
  exact e.keep b u hb hn
theorem Sim.write (s : Sim K β st H) {n : Nat} {a : Addr} {zs : List D} {ws ws0 : List V} (hn : β[n]? = some a) (h0 : H a = some (.lst ws0)) (r : RepL K β H zs ws) : Sim K β (st.set n (.lst zs)) (upd H a (.lst ws)) := by
  have e : Ext β H β (upd H a (.lst ws)) := Ext.refl.write (List.mem_of_getElem? hn) (lst_nf h0)
  refine ⟨by simp [s.len], s.nd, fun m b o h1 h2 => ?_⟩
  by_cases hm : n = m
  · subst hm
    have hl : n < st.length := s.len ▸ (List.getElem?_eq_some_iff.mp hn).1
    rw [List.getElem?_set_self hl] at h2
    simp only [Option.some.injEq] at h2
    subst h2
    rw [hn] at h1
    simp only [Option.some.injEq] at h1
    subst h1
    exact ⟨ws, upd_same, RepL.mono s e _ _ r⟩
  · rw [List.getElem?_set_ne hm] at h2
    refine (s.obj m b o h1 h2).mono s e (upd_ne fun z => hm ?_)
    subst z
    have l1 := (List.getElem?_eq_some_iff.mp hn)
    have l2 := (List.getElem?_eq_some_iff.mp h1)
    exact (List.getElem_inj s.nd).mp (l1.2.trans l2.2.symm)
/-- an answer laid down -/
theorem mat_ok (e : Ext β0 H0 β H) (s : Sim K β st H) (h : RRep K β H H0 r v) :
    ∃ β', Ext β0 H0 β' H ∧ Sim K β' (mat r st).2 H ∧ Rep K β' H (mat r st).1 v ∧ ∀ (n : Nat) (a : Addr), β[n]? = some a → β'[n]? = some a := by
  cases r with
  | val d => exact ⟨β, e, s, h, fun _ _ q => q⟩
  | tmp xs =>
    obtain ⟨a, vs, rfl, h1, h2, h3, h4⟩ := h
    refine ⟨β ++ [a], e.lay h3, s.lay h1 h2 h4, ⟨a, ?_, rfl⟩, grow_app⟩
    rw [← s.len, List.getElem?_append_right (Nat.le_refl _)]
    simp
end
/-- the reading of a method -/
def rMt (K : PySem.W.Frag) (m : MT) : V → List V → Hp → VK → Prop := fun x vs H Q =>
  ∃ β0 H0 β st rx rs r st', Ext β0 H0 β H ∧ Sim K β st H ∧ RRep K β H H0 rx x ∧ RRepL K β H H0 rs vs ∧ mtApp st m rx rs = some (r, st') ∧
    ∀ v β' H', Ext β0 H0 β' H' → Sim K β' st' H' → RRep K β' H' H0 r v → Q v H'
section
variable {X : Cx}
theorem mtR_mono {id : String} {r r' : V → List V → Hp → VK → Prop} (h : MtR X id r) (i : ∀ x xs H Q, r' x xs H Q → r x xs H Q) : MtR X id r' := fun pins s σ H x xs v us Q I rx rs q => h pins s σ H x xs v us Q I rx rs (i x xs H Q q)
/-- the receiver of a list's method -/
theorem recv_lst {K : PySem.W.Frag} {β : List Addr} {st : Sto} {H H0 : Hp} {n : Nat} {x : V} {zs : List D} (s : Sim K β st H) (hx : RRep K β H H0 (.val (.ref n)) x) (hz : st[n]? = some (.lst zs)) :
    ∃ a ws, x = .ref a ∧ β[n]? = some a ∧ H a = some (.lst ws) ∧ RepL K β H zs ws := by
  obtain ⟨a, h1, rfl⟩ := hx
  obtain ⟨ws, h2, h3⟩ := s.obj n a _ h1 hz
  exact ⟨a, ws, rfl, h1, h2, h3⟩
/-- a list's method that writes it -/
theorem wrote {K : PySem.W.Frag} {β0 β' : List Addr} {st' : Sto} {H H0 : Hp} {n : Nat} {a : Addr} {zs : List D} {ws : List V} {Q : VK} {d : D} {v : V} {ws0 : List V} (h0 : H a = some (.lst ws0)) (e0 : Ext β0 H0 β' H) (s : Sim K β' st' H) (hn : β'[n]? = some a) (r : RepL K β' H zs ws) (rd : Rep K β' H d v)
    (q : ∀ v β'' H', Ext β0 H0 β'' H' → Sim K β'' (st'.set n (.lst zs)) H' → RRep K β'' H' H0 (.val d) v → Q v H') : Q v (upd H a (.lst ws)) :=
  q v β' _ (e0.write (List.mem_of_getElem? hn) (lst_nf h0)) (s.write hn h0 r) (Rep.mono s (Ext.refl.write (List.mem_of_getElem? hn) (lst_nf h0)) d v rd)
theorem mt_append_ok : MtR X "list.append" (rMt X.K .append) := mtR_mono mt_append fun x vs H Q h => by
  obtain ⟨β0, H0, β, st, rx, rs, r, st', e0, s, hx, hr, e, q⟩ := h
  simp only [mtApp] at e
  unfold mtAppend at e
  split at e
  case h_2 => cases e
  split at e
  case h_2 => cases e
  split at e
  case isFalse => cases e
  rename_i n ra _ zs hz hs
  simp only [Option.some.injEq, Prod.mk.injEq] at e
  obtain ⟨rfl, rfl⟩ := e
  obtain ⟨a, ws, rfl, h1, h2, h3⟩ := recv_lst s hx hz
  obtain ⟨y, rfl, hy⟩ := one_rep hr
  obtain ⟨β', e1, s1, r1, g⟩ := mat_ok e0 s hy
  refine ⟨a, ws, y, rfl, rfl, h2, ?_, wrote h2 (d := .non) e1 s1 (g n a h1) ((RepL.grow g _ _ h3).append (RepL.one r1)) rfl q⟩
  rw [← h3.length, sizeLine_eq]
  exact of_decide_eq_true hs
theorem mt_extend_ok : MtR X "list.extend" (rMt X.K .extend) := mtR_mono mt_extend fun x vs H Q h => by
  obtain ⟨β0, H0, β, st, rx, rs, r, st', e0, s, hx, hr, e, q⟩ := h
  simp only [mtApp] at e
  unfold mtExtend at e
  split at e
  case h_2 => cases e
  split at e
  case h_2 => cases e
  split at e
  case h_2 => cases e
  split at e
  case isFalse => cases e
  rename_i n ra _ zs hz _ us hu hs
  simp only [Option.some.injEq, Prod.mk.injEq] at e
  obtain ⟨rfl, rfl⟩ := e
  obtain ⟨a, ws, rfl, h1, h2, h3⟩ := recv_lst s hx hz
  obtain ⟨y, rfl, hy⟩ := one_rep hr
  obtain ⟨b, us', rfl, g1, g2⟩ := mutOf_lst s hy hu
  refine ⟨a, b, ws, us', rfl, rfl, h2, g1, ?_, wrote h2 (d := .non) e0 s h1 (h3.append g2) rfl q⟩
  rw [← h3.length, ← g2.length]
  exact szOk_le hs
theorem mt_insert_ok : MtR X "list.insert" (rMt X.K .insert) := mtR_mono mt_insert fun x vs H Q h => by
  obtain ⟨β0, H0, β, st, rx, rs, r, st', e0, s, hx, hr, e, q⟩ := h
  simp only [mtApp] at e
  unfold mtInsert at e
  split at e
  case h_2 => cases e
  split at e
  case h_2 => cases e
  split at e
  case isFalse => cases e
  rename_i n i ra _ zs hz hs
  simp only [Option.some.injEq, Prod.mk.injEq] at e
  obtain ⟨rfl, rfl⟩ := e
  obtain ⟨a, ws, rfl, h1, h2, h3⟩ := recv_lst s hx hz
  obtain ⟨y0, y, rfl, hy0, hy⟩ := two_rep hr
  cases hy0
  obtain ⟨β', e1, s1, r1, g⟩ := mat_ok e0 s hy
  obtain ⟨d1, d2, d3⟩ := of_decide_eq_true hs
  have h3' := RepL.grow g _ _ h3
  refine ⟨a, ws, i, y, rfl, rfl, h2, ?_, d1, by omega, wrote h2 (d := .non) e1 s1 (g n a h1) (((h3'.take i.toNat).append (RepL.one r1)).append (h3'.drop i.toNat)) rfl q⟩
  rw [← h3.length, sizeLine_eq]
  exact d3
theorem mt_pop_ok : MtR X "list.pop" (rMt X.K .pop) := mtR_mono (r := fun x vs H Q => rPop x vs H Q ∨ rPopAt x vs H Q) (MtR.or mt_pop mt_popAt) fun x vs H Q h => by
  obtain ⟨β0, H0, β, st, rx, rs, r, st', e0, s, hx, hr, e, q⟩ := h
  simp only [mtApp] at e
  unfold mtPop at e
  split at e
  · split at e
    case h_2 => cases e
    split at e
    case h_2 => cases e
    rename_i n _ zs hz _ y hy
    simp only [Option.some.injEq, Prod.mk.injEq] at e
    obtain ⟨rfl, rfl⟩ := e
    obtain ⟨a, ws, rfl, h1, h2, h3⟩ := recv_lst s hx hz
    obtain ⟨v, g1, g2⟩ := h3.get hy
    have hv : vs = [] := hr
    subst hv
    refine .inl ⟨a, ws, v, rfl, rfl, h2, by rw [← h3.length]; exact g1, wrote h2 e0 s h1 ?_ g2 q⟩
    rw [List.dropLast_eq_take, List.dropLast_eq_take, h3.length]
    exact h3.take _
  · split at e
    case h_2 => cases e
    split at e
    case h_2 => cases e
    split at e
    case h_2 => cases e
    split at e
    case isFalse => cases e
    rename_i n i _ zs hz _ k hk _ y hy hi
    simp only [Option.some.injEq, Prod.mk.injEq] at e
    obtain ⟨rfl, rfl⟩ := e
    obtain ⟨a, ws, rfl, h1, h2, h3⟩ := recv_lst s hx hz
    obtain ⟨v, g1, g2⟩ := h3.get hy
    obtain ⟨w, rfl, hw⟩ := one_rep hr
    cases hw
    have hi' := i62_iff.mp hi
    exact .inr ⟨a, ws, i, k, v, rfl, rfl, h2, by omega, by omega, by rw [← h3.length]; exact hk, g1, wrote h2 e0 s h1 (h3.erase k) g2 q⟩
  · cases e
theorem findIdx_out {α : Type} {p : α → Bool} {l : List α} {j : Nat} (h : l.findIdx? p = some j) : ∃ z, l[j]? = some z ∧ p z = true ∧ ∀ (m : Nat) (z' : α), m < j → l[m]? = some z' → p z' = false := by
  obtain ⟨h1, h2, h3⟩ := List.findIdx?_eq_some_iff_getElem.mp h
  refine ⟨l[j], by simp [h1], h2, fun m z' hm hz => ?_⟩
  have := h3 m hm
  rw [List.getElem?_eq_getElem (by omega)] at hz
  simp only [Option.some.injEq] at hz
  subst hz
  simpa using this
theorem mt_index_ok (hu : X.A.units + 65 < cLine) : MtR X "list.index" (rMt X.K .index) := mtR_mono (mt_indexD hu) fun x vs H Q h => by
  obtain ⟨β0, H0, β, st, rx, rs, r, st', e0, s, hx, hr, e, q⟩ := h
  simp only [mtApp] at e
  unfold mtIndex at e
  split at e
  case h_2 => cases e
  split at e
  case h_2 => cases e
  split at e
  case h_2 => cases e
  rename_i ra _ zs hz _ _ p qs hp hq
  simp only [Option.map_eq_some_iff, Prod.mk.injEq] at e
  obtain ⟨j, e1, rfl, rfl⟩ := e
  obtain ⟨y, rfl, hy⟩ := one_rep hr
  obtain ⟨a, ws, rfl, h1, h2⟩ := listOf_sq s hx hz
  obtain ⟨b1, b2, b3⟩ := toPyL_dp s 59 zs qs ws hq h2
  obtain ⟨a1, a2⟩ := rvPy_dp s hp hy
  obtain ⟨z, f1, f2, f3⟩ := findIdx_out e1
  exact ⟨a, y, p, qs, j, z, rfl, rfl, .lst h1 b1, a1, shaped_of (by simpa [PyData.canLay0] using b2) (by simp only [PyData.depth]; omega), a2, f1, f2, f3, q _ β H e0 s rfl⟩
theorem mt_join_ok : MtR X "str.join" (rMt X.K .join) := mtR_mono mt_join fun x vs H Q h => by
  obtain ⟨β0, H0, β, st, rx, rs, r, st', e0, s, hx, hr, e, q⟩ := h
  simp only [mtApp] at e
  unfold mtJoin at e
  split at e
  case h_2 => cases e
  split at e
  case h_2 => cases e
  split at e
  case h_2 => cases e
  split at e
  case isFalse => cases e
  rename_i z ra _ zs hz _ ys hy hs
  simp only [Option.some.injEq, Prod.mk.injEq] at e
  obtain ⟨rfl, rfl⟩ := e
  obtain ⟨y, rfl, hy'⟩ := one_rep hr
  obtain ⟨a, ws, rfl, h1, h2⟩ := seqOf_sq s hy' hz
  have e3 := strsOf_eq hy
  subst e3
  rw [h2.strs] at h1
  exact ⟨z, a, ys, hx, rfl, h1, of_decide_eq_true hs, q _ β H e0 s rfl⟩
theorem mt_split_ok : MtR X "str.split" (rMt X.K .split) := mtR_mono mt_split fun x vs H Q h => by
  obtain ⟨β0, H0, β, st, rx, rs, r, st', e0, s, hx, hr, e, q⟩ := h
  simp only [mtApp] at e
  unfold mtSplit at e
  split at e
  case h_2 => cases e
  split at e
  case isFalse => cases e
  rename_i z b hs
  simp only [Option.some.injEq, Prod.mk.injEq] at e
  obtain ⟨rfl, rfl⟩ := e
  obtain ⟨y, rfl, hy⟩ := one_rep hr
  cases hy
  refine ⟨z, b, hx, rfl, hs.1, szOk_le hs.2, fun p hp => ?_⟩
  have hp0 : H0 p = none := e0.free hp fun hm => s.off hp (e0.mem hm)
  exact q _ β _ (e0.trans (Ext.new hp) s.nd) (s.new hp) ⟨p, _, rfl, upd_same, s.off hp, hp0, RepL.ofStrs _⟩
theorem mt_upper_ok : MtR X "str.upper" (rMt X.K .upper) := mtR_mono mt_upper fun x vs H Q h => by
  obtain ⟨β0, H0, β, st, rx, rs, r, st', e0, s, hx, hr, e, q⟩ := h
  simp only [mtApp] at e
  unfold mtUpper at e
  split at e
  case h_2 => cases e
  split at e
  case isFalse => cases e
  rename_i z hs
  simp only [Option.some.injEq, Prod.mk.injEq] at e
  obtain ⟨rfl, rfl⟩ := e
  have hv : vs = [] := hr
  subst hv
  exact ⟨z, hx, rfl, of_decide_eq_true hs, q _ β H e0 s rfl⟩
/-! ### o[i] = v -/
def rPut (K : PySem.W.Frag) : V → V → V → Hp → (Hp → Prop) → Prop := fun o i v H Q =>
  ∃ β0 H0 β st rx ry d st', Ext β0 H0 β H ∧ Sim K β st H ∧ RRep K β H H0 rx o ∧ RRep K β H H0 ry i ∧ Rep K β H d v ∧ putApp st rx ry d = some st' ∧
    ∀ β' H', Ext β0 H0 β' H' → Sim K β' st' H' → (∀ (n : Nat) (a : Addr), β[n]? = some a → β'[n]? = some a) → Q H'
/-- a dict's object is written -/
theorem Sim.writeD {K : PySem.W.Frag} {β : List Addr} {st : Sto} {H : Hp} (s : Sim K β st H) {n : Nat} {a : Addr} {lk : Bool} {kvs : List (D × D)} {ks : List (Key × V)} {u : HO} (hn : β[n]? = some a) (e : Ext β H β (upd H a u)) (hu : if lk = true then ∃ o, u = .frz o (.dK ks) else u = .dK ks) (h : DicR kvs ks) (r : RepL K β H (kvs.map (·.2)) (ks.map (·.2))) : Sim K β (st.set n (.dic lk kvs)) (upd H a u) := by
  refine ⟨by simp [s.len], s.nd, fun m b o h1 h2 => ?_⟩
  by_cases hm : n = m
  · subst hm
    have hl : n < st.length := s.len ▸ (List.getElem?_eq_some_iff.mp hn).1
    rw [List.getElem?_set_self hl] at h2
    simp only [Option.some.injEq] at h2
    subst h2
    rw [hn] at h1
    simp only [Option.some.injEq] at h1
    subst h1
    refine ⟨ks, ?_, h, RepL.mono s e _ _ r⟩
    cases lk with
    | false => rw [upd_same, show u = .dK ks from hu]; rfl
    | true =>
      obtain ⟨o, ho⟩ := (show ∃ o, u = .frz o (.dK ks) from hu)
      exact ⟨o, by rw [upd_same, ho]⟩
  · rw [List.getElem?_set_ne hm] at h2
    refine (s.obj m b o h1 h2).mono s e (upd_ne fun z => hm ?_)
    subst z
    have l1 := (List.getElem?_eq_some_iff.mp hn)
    have l2 := (List.getElem?_eq_some_iff.mp h1)
    exact (List.getElem_inj s.nd).mp (l1.2.trans l2.2.symm)
/-- a dict's object is written -/
theorem Sim.writeT {K : PySem.W.Frag} {β : List Addr} {st : Sto} {H : Hp} (s : Sim K β st H) {n : Nat} {a : Addr} {lk : Bool} {kvs : List (D × D)} {ks : List (List Key × V)} {u : HO} (hn : β[n]? = some a) (e : Ext β H β (upd H a u)) (hu : if lk = true then ∃ o, u = .frz o (.dT ks) else u = .dT ks) (h : DicT kvs ks) (r : RepL K β H (kvs.map (·.2)) (ks.map (·.2))) : Sim K β (st.set n (.dit lk kvs)) (upd H a u) := by
  refine ⟨by simp [s.len], s.nd, fun m b o h1 h2 => ?_⟩
  by_cases hm : n = m
  · subst hm
    have hl : n < st.length := s.len ▸ (List.getElem?_eq_some_iff.mp hn).1
    rw [List.getElem?_set_self hl] at h2
    simp only [Option.some.injEq] at h2
    subst h2
    rw [hn] at h1
    simp only [Option.some.injEq] at h1
    subst h1
    refine ⟨ks, ?_, h, RepL.mono s e _ _ r⟩
    cases lk with
    | false => rw [upd_same, show u = .dT ks from hu]; rfl
    | true =>
      obtain ⟨o, ho⟩ := (show ∃ o, u = .frz o (.dT ks) from hu)
      exact ⟨o, by rw [upd_same, ho]⟩
  · rw [List.getElem?_set_ne hm] at h2
    refine (s.obj m b o h1 h2).mono s e (upd_ne fun z => hm ?_)
    subst z
    have l1 := (List.getElem?_eq_some_iff.mp hn)
    have l2 := (List.getElem?_eq_some_iff.mp h1)
    exact (List.getElem_inj s.nd).mp (l1.2.trans l2.2.symm)
theorem set_dic (hu : X.A.units + 65 < cLine) : PSet X (fun o i v H Q => ∃ a H', o = .ref a ∧ DPut H a i v H' ∧ Q H') := fun pins s0 σ H o i v ov iv u Q I ro ri rv h => by
  obtain ⟨a, H', rfl, g, q⟩ := h
  obtain rfl : ov = Value.ref a := ro
  exact d_setItem (by omega) I g ri rv fun s' I' => ⟨H', I', q⟩
theorem dK_nf {H : Hp} {a : Addr} {ks : List (Key × V)} (h : H a = some (.dK ks)) : ∀ o u, H a ≠ some (.frz o u) := fun o u z => by rw [h] at z; cases z
theorem dT_nf {H : Hp} {a : Addr} {ks : List (List Key × V)} (h : H a = some (.dT ks)) : ∀ o u, H a ≠ some (.frz o u) := fun o u z => by rw [h] at z; cases z
theorem put_ok (hu : X.A.units + 65 < cLine) : PSet X (rPut X.K) := fun pins s0 σ H o i v ov iv u Q I ro ri rv h => by
  obtain ⟨β0, H0, β, st, rx, ry, d, st', e0, s, hx, hy, hd, e, q⟩ := h
  unfold putApp at e
  split at e
  case h_2 => cases e
  split at e
  · split at e
    case h_2 => cases e
    rename_i n _ zs hz _ k
    simp only [Option.map_eq_some_iff] at e
    obtain ⟨j, e1, rfl⟩ := e
    obtain ⟨a, ws, rfl, h1, h2, h3⟩ := recv_lst s hx hz
    exact set_list pins s0 σ H _ i v ov iv u Q I ro ri rv ⟨a, ws, k, j, rfl, hy, h2, by rw [← h3.length]; exact e1, q β _ (e0.write (List.mem_of_getElem? h1) (lst_nf h2)) (s.write h1 h2 (h3.set j hd)) fun _ _ z => z⟩
  · rename_i n _ lk kvs hk
    split at e
    case h_2 => cases e
    rename_i k
    split at e
    case isFalse => cases e
    rename_i hc
    simp only [Bool.and_eq_true, decide_eq_true_eq] at hc
    simp only [Option.some.injEq] at e; subst e
    obtain ⟨a, h1, rfl⟩ := hx
    obtain ⟨ks, h2, h3, h4⟩ := s.obj n a _ h1 hk
    obtain ⟨j, rfl⟩ := keyOk_iff hc.1
    obtain ⟨p1, p2⟩ := h3.put j h4 hd
    have h2' : H a = some (.dK ks) := h2
    have el : Ext β H β (upd H a (.dK (putK ks j v))) := Ext.refl.write (List.mem_of_getElem? h1) (dK_nf h2')
    refine set_dic hu pins s0 σ H _ i v ov iv u Q I ro ri rv ⟨a, _, rfl, .inl ⟨ks, j, h2', rep_keyD hy, by rw [← h3.length, sizeLine_eq]; exact hc.2, rfl⟩, ?_⟩
    exact q β _ (e0.write (List.mem_of_getElem? h1) (dK_nf h2')) (s.writeD h1 el rfl p1 p2) fun _ _ z => z
  · rename_i n _ lk kvs hk
    split at e
    case h_2 => cases e
    rename_i k
    split at e
    case isFalse => cases e
    rename_i hc
    simp only [Bool.and_eq_true, decide_eq_true_eq] at hc
    simp only [Option.some.injEq] at e; subst e
    obtain ⟨a, h1, rfl⟩ := hx
    obtain ⟨ks, h2, h3, h4⟩ := s.obj n a _ h1 hk
    obtain ⟨ns, rfl⟩ := tkOk_iff hc.1
    obtain ⟨b, rfl, hb⟩ := rep_tk hy
    obtain ⟨p1, p2⟩ := h3.put (ns.map Sum.inl) h4 hd
    rw [tkD_ints] at p1 p2
    have h2' : H a = some (.dT ks) := h2
    have el : Ext β H β (upd H a (.dT (putK ks (ns.map Sum.inl) v))) := Ext.refl.write (List.mem_of_getElem? h1) (dT_nf h2')
    refine set_dic hu pins s0 σ H _ _ v ov iv u Q I ro ri rv ⟨a, _, rfl, .inr ⟨ks, ns.map Sum.inl, b, h2', rfl, hb, by rw [← h3.length, sizeLine_eq]; exact hc.2, rfl⟩, ?_⟩
    exact q β _ (e0.write (List.mem_of_getElem? h1) (dT_nf h2')) (s.writeT h1 el rfl p1 p2) fun _ _ z => z
  · cases e
end
end Mw

set_option Elab.async false
set_option linter.all false
set_option autoImplicit false
set_option maxRecDepth 100000
/-! PyC: the readings of the interpreter's expressions; each construct's case. -/
namespace Mw
open PySem PySem.Spec PyProof.Rows L2

def tE (K : PySem.W.Frag) (C : Call) (c : CE) : TE := fun σ H Q =>
  ∃ β st ρ r st', Sim K β st H ∧ EnvR K β H ρ σ ∧ ev C c ρ st = some (r, st') ∧ ∀ v β' H', Ext β H β' H' → Sim K β' st' H' → RRep K β' H' H r v → Q v H'
def tT (K : PySem.W.Frag) (C : Call) (c : CE) : TT := fun σ H Q =>
  ∃ β st ρ b st', Sim K β st H ∧ EnvR K β H ρ σ ∧ evT C c ρ st = some (b, st') ∧ ∀ β' H', Ext β H β' H' → Sim K β' st' H' → Q b H'
def tA (K : PySem.W.Frag) (C : Call) (es : CEs) : TA := fun σ H Q =>
  ∃ β st ρ ds st', Sim K β st H ∧ EnvR K β H ρ σ ∧ evA C es ρ st = some (ds, st') ∧ ∀ vs β' H', Ext β H β' H' → Sim K β' st' H' → RepL K β' H' ds vs → Q vs H'
def tR (K : PySem.W.Frag) (C : Call) (es : CEs) : TA := fun σ H Q =>
  ∃ β st ρ rs st', Sim K β st H ∧ EnvR K β H ρ σ ∧ evR C es ρ st = some (rs, st') ∧ ∀ vs β' H', Ext β H β' H' → Sim K β' st' H' → RRepL K β' H' H rs vs → Q vs H'
def tCs (K : PySem.W.Frag) (C : Call) (es : CEs) : TT := fun σ H Q =>
  ∃ β st ρ b st', Sim K β st H ∧ EnvR K β H ρ σ ∧ evC C es ρ st = some (b, st') ∧ ∀ β' H', Ext β H β' H' → Sim K β' st' H' → Q b H'
def tP (K : PySem.W.Frag) (C : Call) (es : CEs) : L2.TO := fun σ H Q =>
  ∃ β st ρ o st', Sim K β st H ∧ EnvR K β H ρ σ ∧ evP C es ρ st = some (o, st') ∧ ∀ β' H', Ext β H β' H' → Sim K β' st' H' → Q o H'
section
variable {X : Cx} {C : Call} {K : PySem.W.Frag}
theorem PE.imp {e : Expr} {t t' : TE} (h : PE X e t) (i : ∀ σ H Q, t' σ H Q → t σ H Q) : PE X e t' := ⟨fun pins s σ H Q I hw => h.run pins s σ H Q I (i σ H Q hw)⟩
theorem PT.imp {e : Expr} {t t' : TT} (h : PT X e t) (i : ∀ σ H Q, t' σ H Q → t σ H Q) : PT X e t' := ⟨fun pins s σ H Q I hw => h.run pins s σ H Q I (i σ H Q hw)⟩
theorem PW.imp {e : Expr} {t t' : TT} (h : PW X e t) (i : ∀ σ H Q, t' σ H Q → t σ H Q) : PW X e t' := ⟨fun wh pins s σ H Q I hw => h.run wh pins s σ H Q I (i σ H Q hw)⟩
theorem PA.imp {e : List Expr} {t t' : TA} (h : PA X e t) (i : ∀ σ H Q, t' σ H Q → t σ H Q) : PA X e t' := ⟨fun pos pins s σ H Q I hw => h.run pos pins s σ H Q I (i σ H Q hw)⟩
section
variable {β : List Addr} {st st1 : Sto} {ρ : Env} {σ : L2.St} {H : Hp} {a : CE} {x : RV}
theorem seq1 (s : Sim K β st H) (en : EnvR K β H ρ σ) (e : ev C a ρ st = some (x, st1)) {P : V → Hp → Prop}
    (k : ∀ v β1 H1, Ext β H β1 H1 → Sim K β1 st1 H1 → RRep K β1 H1 H x v → EnvR K β1 H1 ρ σ → P v H1) : tE K C a σ H P :=
  ⟨β, st, ρ, x, st1, s, en, e, fun v β1 H1 e1 s1 r1 => k v β1 H1 e1 s1 r1 (en.mono s e1)⟩
theorem seqT (s : Sim K β st H) (en : EnvR K β H ρ σ) {b : Bool} (e : evT C a ρ st = some (b, st1)) {P : Bool → Hp → Prop}
    (k : ∀ β1 H1, Ext β H β1 H1 → Sim K β1 st1 H1 → EnvR K β1 H1 ρ σ → P b H1) : tT K C a σ H P :=
  ⟨β, st, ρ, b, st1, s, en, e, fun β1 H1 e1 s1 => k β1 H1 e1 s1 (en.mono s e1)⟩
end
/-- a test by its value's truth -/
theorem tT_tE {a : CE} {σ : L2.St} {H : Hp} {Q : Bool → Hp → Prop} (h : tT K C a σ H Q) : tE K C a σ H fun x H' => ∃ k, TruV K x H' k ∧ Q k H' := by
  obtain ⟨β, st, ρ, b, st', s, en, e, q⟩ := h
  unfold evT at e
  split at e
  · cases e
  · rename_i x st1 e1
    simp only [Option.map_eq_some_iff, Prod.mk.injEq] at e
    obtain ⟨b', e2, rfl, rfl⟩ := e
    exact seq1 s en e1 fun v β1 H1 x1 s1 r1 en1 => ⟨b', truth_ok s1 r1 e2, q β1 H1 x1 s1⟩
/-- a truth is its own -/
theorem tT_bl {a : CE} {σ : L2.St} {H : Hp} {Q : Bool → Hp → Prop} (h : tT K C a σ H Q) (hb : ∀ ρ st r st', ev C a ρ st = some (r, st') → ∃ b, r = .val (.bl b)) : tE K C a σ H fun x H' => ∃ k, x = .bl k ∧ Q k H' := by
  obtain ⟨β, st, ρ, b, st', s, en, e, q⟩ := h
  unfold evT at e
  split at e
  · cases e
  · rename_i x st1 e1
    obtain ⟨c, rfl⟩ := hb _ _ _ _ e1
    simp only [truth, Option.map_some, Option.some.injEq, Prod.mk.injEq] at e
    obtain ⟨rfl, rfl⟩ := e
    exact seq1 s en e1 fun v β1 H1 x1 s1 r1 en1 => ⟨c, r1, q β1 H1 x1 s1⟩

/-! ### the cases -/
theorem e_var {i : Nat} {x : Str} {pos : Pos} (hN : X.N[i]? = some x) (hv : Vis X.env.scope x) (hd : (x == ("__debug__" : Str)) = false) (hc : (x == ("__classdict__" : Str)) = false) : PE X (.Name x pos) (tE X.K C (.var i)) :=
  PE.imp (pe_var hN hv hd hc) fun σ H Q ⟨β, st, ρ, r, st', s, en, e, q⟩ => by
    simp only [ev] at e
    split at e
    · rename_i d hd
      simp only [Option.some.injEq, Prod.mk.injEq] at e
      obtain ⟨rfl, rfl⟩ := e
      obtain ⟨v, h1, h2⟩ := en.get hd
      exact ⟨v, h1, q v β H Ext.refl s h2⟩
    · cases e
/-- constants -/
theorem e_cst {d : D} {v : V} {e : Expr} (h : PE X e (tC v)) (r : ∀ β H, Rep X.K β H d v) : PE X e (tE X.K C (.cst d)) :=
  PE.imp h fun σ H Q ⟨β, st, ρ, r', st', s, en, e, q⟩ => by
    simp only [ev, Option.some.injEq, Prod.mk.injEq] at e
    obtain ⟨rfl, rfl⟩ := e
    exact q v β H Ext.refl s (r β H)
section
variable {a b c : CE} {l r m : Expr} {pos : Pos}
theorem e_bin {o : Op} {op : Operator} (h : opIs o op = true) (ha : PE X l (tE X.K C a)) (hb : PE X r (tE X.K C b)) : PE X (.BinOp l op r pos) (tE X.K C (.bin o a b)) :=
  PE.imp (pe_op (op_ok h) ha hb) fun σ H Q ⟨β, st, ρ, r, st', s, en, e, q⟩ => by
    simp only [ev] at e
    split at e
    · cases e
    · rename_i x st1 e1
      split at e
      · cases e
      · rename_i y st2 e2
        simp only [Option.map_eq_some_iff, Prod.mk.injEq] at e
        obtain ⟨z, e3, rfl, rfl⟩ := e
        refine seq1 s en e1 fun v β1 H1 x1 s1 r1 en1 => seq1 s1 en1 e2 fun w β2 H2 x2 s2 r2 en2 => ?_
        have x12 := x1.trans x2 s2.nd
        exact ⟨β2, st2, H, x, y, z, ⟨s2, β, x12⟩, r1.mono s1 x2 s2.nd, r2.back x1 x2, e3, fun u H' xx ss rr => q u β2 H' (x12.trans xx ss.nd) ss rr⟩
theorem e_cmp {o : Cm} {op : CmpOp} (h : cmIs o op = true) (hu : X.A.units + 65 < cLine) (ha : PE X l (tE X.K C a)) (hb : PE X r (tE X.K C b)) (hm : behindInMarks op r = false) : PE X (.Compare l [op] [r] pos) (tE X.K C (.cmp o a b)) :=
  PE.imp (pe_cmpR (cm_ok h hu) ha hb hm) fun σ H Q ⟨β, st, ρ, r, st', s, en, e, q⟩ => by
    simp only [ev] at e
    split at e
    · cases e
    · rename_i x st1 e1
      split at e
      · cases e
      · rename_i y st2 e2
        simp only [Option.map_eq_some_iff, Prod.mk.injEq] at e
        obtain ⟨z, e3, rfl, rfl⟩ := e
        refine seq1 s en e1 fun v β1 H1 x1 s1 r1 en1 => seq1 s1 en1 e2 fun w β2 H2 x2 s2 r2 en2 => ?_
        have x12 := x1.trans x2 s2.nd
        exact ⟨β2, st2, H, x, y, .val (.bl z), ⟨s2, β, x12⟩, r1.mono s1 x2 s2.nd, r2.back x1 x2, by simp only [e3, Option.map_some], fun u H' xx ss rr => q u β2 H' (x12.trans xx ss.nd) ss rr⟩
theorem cmp_bl {o : Cm} (ρ : Env) (st : Sto) (r : RV) (st' : Sto) (e : ev C (.cmp o a b) ρ st = some (r, st')) : ∃ b, r = .val (.bl b) := by
  simp only [ev] at e
  split at e
  · cases e
  · split at e
    · cases e
    · simp only [Option.map_eq_some_iff, Prod.mk.injEq] at e
      obtain ⟨z, e3, rfl, rfl⟩ := e
      exact ⟨z, rfl⟩
theorem pt_of_bl {e : Expr} {t : TE} {c : CE} (h : PT X e (tTest t)) (i : ∀ σ H Q, tE X.K C c σ H Q → t σ H Q) (hb : ∀ ρ st r st', ev C c ρ st = some (r, st') → ∃ b, r = .val (.bl b)) : PT X e (tT X.K C c) :=
  PT.imp h fun σ H Q hw => i σ H _ (tT_bl hw hb)
theorem c_cmp {o : Cm} {op : CmpOp} (h : cmIs o op = true) (hu : X.A.units + 65 < cLine) (ha : PE X l (tE X.K C a)) (hb : PE X r (tE X.K C b)) (hm : behindInMarks op r = false) : PT X (.Compare l [op] [r] pos) (tT X.K C (.cmp o a b)) :=
  pt_of_bl (pt_cmpR (cm_ok h hu) ha hb hm) (fun σ H Q ⟨β, st, ρ, r, st', s, en, e, q⟩ => by
    simp only [ev] at e
    split at e
    · cases e
    · rename_i x st1 e1
      split at e
      · cases e
      · rename_i y st2 e2
        simp only [Option.map_eq_some_iff, Prod.mk.injEq] at e
        obtain ⟨z, e3, rfl, rfl⟩ := e
        refine seq1 s en e1 fun v β1 H1 x1 s1 r1 en1 => seq1 s1 en1 e2 fun w β2 H2 x2 s2 r2 en2 => ?_
        have x12 := x1.trans x2 s2.nd
        exact ⟨β2, st2, H, x, y, .val (.bl z), ⟨s2, β, x12⟩, r1.mono s1 x2 s2.nd, r2.back x1 x2, by simp only [e3, Option.map_some], fun u H' xx ss rr => q u β2 H' (x12.trans xx ss.nd) ss rr⟩) (cmp_bl (C := C))
theorem chain_in {o o' : Cm} {σ : L2.St} {H : Hp} {Q : VK} (h : tE K C (.chain o o' a b c) σ H Q) : tChain (rBl K fun st => cmpApp st o) (rBl K fun st => cmpApp st o') (tE K C a) (tE K C b) (tE K C c) σ H Q := by
  obtain ⟨β, st, ρ, r, st', s, en, e, q⟩ := h
  simp only [ev] at e
  split at e
  · cases e
  · rename_i x st1 e1
    split at e
    · cases e
    · rename_i y st2 e2
      split at e
      · cases e
      · rename_i e3
        simp only [Option.some.injEq, Prod.mk.injEq] at e
        obtain ⟨rfl, rfl⟩ := e
        refine seq1 s en e1 fun v β1 H1 x1 s1 r1 en1 => seq1 s1 en1 e2 fun w β2 H2 x2 s2 r2 en2 => ?_
        have x12 := x1.trans x2 s2.nd
        refine ⟨β2, st2, H, x, y, .val (.bl false), ⟨s2, β, x12⟩, r1.mono s1 x2 s2.nd, r2.back x1 x2, by simp only [e3, Option.map_some], fun u H' xx ss rr => ⟨false, rr, ?_⟩⟩
        rw [if_neg (by decide)]
        exact q _ β2 H' (x12.trans xx ss.nd) ss rfl
      · rename_i e3
        split at e
        · cases e
        · rename_i z st3 e4
          simp only [Option.map_eq_some_iff, Prod.mk.injEq] at e
          obtain ⟨t, e5, rfl, rfl⟩ := e
          refine seq1 s en e1 fun v β1 H1 x1 s1 r1 en1 => seq1 s1 en1 e2 fun w β2 H2 x2 s2 r2 en2 => ?_
          have x12 := x1.trans x2 s2.nd
          refine ⟨β2, st2, H, x, y, .val (.bl true), ⟨s2, β, x12⟩, r1.mono s1 x2 s2.nd, r2.back x1 x2, by simp only [e3, Option.map_some], fun u H' xx ss rr => ⟨true, rr, ?_⟩⟩
          rw [if_pos rfl]
          refine seq1 ss (en2.mono s2 xx) e4 fun w' β3 H3 x3 s3 r3 en3 => ?_
          have x13 := x12.trans (xx.trans x3 s3.nd) s3.nd
          exact ⟨β3, st3, H, y, z, .val (.bl t), ⟨s3, β, x13⟩, ((r2.back x1 x2).mono s2 xx ss.nd).mono ss x3 s3.nd, r3.back (x12.trans xx ss.nd) x3, by simp only [e5, Option.map_some], fun u H' xx ss rr => q u β3 H' (x13.trans xx ss.nd) ss rr⟩
theorem e_chain {o o' : Cm} {op op' : CmpOp} (h : cmIs o op = true) (h' : cmIs o' op' = true) (hu : X.A.units + 65 < cLine) (ha : PE X l (tE X.K C a)) (hb : PE X m (tE X.K C b)) (hc : PE X r (tE X.K C c)) (hm : lastMarks [op, op'] [m, r] = false) :
    PE X (.Compare l [op, op'] [m, r] pos) (tE X.K C (.chain o o' a b c)) :=
  PE.imp (pe_chain (cm_ok h hu) (cm_ok h' hu) ha hb hc hm) fun σ H Q => chain_in
theorem c_chain {o o' : Cm} {op op' : CmpOp} (h : cmIs o op = true) (h' : cmIs o' op' = true) (hu : X.A.units + 65 < cLine) (ha : PE X l (tE X.K C a)) (hb : PE X m (tE X.K C b)) (hc : PE X r (tE X.K C c)) (hm : lastMarks [op, op'] [m, r] = false) :
    PT X (.Compare l [op, op'] [m, r] pos) (tT X.K C (.chain o o' a b c)) :=
  pt_of_bl (pt_chain (cm_ok h hu) (cm_ok h' hu) ha hb hc hm) (fun σ H Q => chain_in) fun ρ st r st' e => by
    simp only [ev] at e
    split at e
    · cases e
    · split at e
      · cases e
      · split at e
        · cases e
        · simp only [Option.some.injEq, Prod.mk.injEq] at e
          exact ⟨false, e.1.symm⟩
        · split at e
          · cases e
          · simp only [Option.map_eq_some_iff, Prod.mk.injEq] at e
            obtain ⟨t, e5, rfl, rfl⟩ := e
            exact ⟨t, rfl⟩
theorem e_neg (ha : PE X l (tE X.K C a)) : PE X (.UnaryOp .USub l pos) (tE X.K C (.neg a)) :=
  PE.imp (pe_un un_neg ha) fun σ H Q ⟨β, st, ρ, r, st', s, en, e, q⟩ => by
    simp only [ev] at e
    split at e
    · rename_i i st1 e1
      simp only [Option.some.injEq, Prod.mk.injEq] at e
      obtain ⟨rfl, rfl⟩ := e
      exact seq1 s en e1 fun v β1 H1 x1 s1 r1 en1 => ⟨i, r1, q _ β1 H1 x1 s1 rfl⟩
    · cases e
theorem e_not (ha : PE X l (tE X.K C a)) : PE X (.UnaryOp .Not l pos) (tE X.K C (.not a)) :=
  PE.imp (pe_notT ha) fun σ H Q ⟨β, st, ρ, r, st', s, en, e, q⟩ => by
    simp only [ev] at e
    split at e
    · cases e
    · rename_i x st1 e1
      simp only [Option.map_eq_some_iff, Prod.mk.injEq] at e
      obtain ⟨b, e2, rfl, rfl⟩ := e
      exact seq1 s en e1 fun v β1 H1 x1 s1 r1 en1 => ⟨b, truth_ok s1 r1 e2, q _ β1 H1 x1 s1 rfl⟩
theorem c_not (ha : PT X l (tT X.K C a)) : PT X (.UnaryOp .Not l pos) (tT X.K C (.not a)) :=
  PT.imp (pt_not ha) fun σ H Q ⟨β, st, ρ, b, st', s, en, e, q⟩ => by
    unfold evT at e
    simp only [ev] at e
    split at e
    · cases e
    · rename_i x st1 e1
      split at e1
      · cases e1
      · rename_i y st2 e2
        simp only [Option.map_eq_some_iff, Prod.mk.injEq] at e1 e
        obtain ⟨t, e3, rfl, rfl⟩ := e1
        obtain ⟨u, e4, rfl, rfl⟩ := e
        simp only [truth, Option.some.injEq] at e4
        subst e4
        exact seqT s en (show evT C a ρ st = some (t, st2) by unfold evT; rw [e2]; simp only [e3, Option.map_some]) fun β1 H1 x1 s1 en1 => q β1 H1 x1 s1
theorem e_ite (hc : PT X m (tT X.K C c)) (ha : PE X l (tE X.K C a)) (hb : PE X r (tE X.K C b)) : PE X (.IfExp m l r pos) (tE X.K C (.ite c a b)) :=
  PE.imp (pe_ifExp hc ha hb) fun σ H Q ⟨β, st, ρ, r, st', s, en, e, q⟩ => by
    simp only [ev] at e
    split at e
    · cases e
    · rename_i x st1 e1
      have eT : ∀ t, truth st1 x = some t → evT C c ρ st = some (t, st1) := fun t h => by unfold evT; rw [e1]; simp only [h, Option.map_some]
      split at e
      · cases e
      · rename_i ht
        refine seqT s en (eT _ ht) fun β1 H1 x1 s1 en1 => ?_
        rw [if_pos rfl]
        exact seq1 s1 en1 e fun v β2 H2 x2 s2 r2 en2 => q v β2 H2 (x1.trans x2 s2.nd) s2 (r2.back x1 x2)
      · rename_i ht
        refine seqT s en (eT _ ht) fun β1 H1 x1 s1 en1 => ?_
        rw [if_neg (by decide)]
        exact seq1 s1 en1 e fun v β2 H2 x2 s2 r2 en2 => q v β2 H2 (x1.trans x2 s2.nd) s2 (r2.back x1 x2)
/-- and, or as values: b reads all that follows -/
theorem e_and {rest : List Expr} (ha : PE X l (tE X.K C a)) (hb : PE X (.BoolOp .And (r :: rest) pos) (tE X.K C b)) : PE X (.BoolOp .And (l :: r :: rest) pos) (tE X.K C (.and a b)) :=
  PE.imp (pe_andT ha hb) fun σ H Q ⟨β, st, ρ, r, st', s, en, e, q⟩ => by
    simp only [ev] at e
    split at e
    · cases e
    · rename_i x st1 e1
      split at e
      · cases e
      · rename_i ht
        simp only [Option.some.injEq, Prod.mk.injEq] at e
        obtain ⟨rfl, rfl⟩ := e
        exact seq1 s en e1 fun v β1 H1 x1 s1 r1 en1 => ⟨false, truth_ok s1 r1 ht, by rw [if_neg (by decide)]; exact q v β1 H1 x1 s1 r1⟩
      · rename_i ht
        refine seq1 s en e1 fun v β1 H1 x1 s1 r1 en1 => ⟨true, truth_ok s1 r1 ht, ?_⟩
        rw [if_pos rfl]
        exact seq1 s1 en1 e fun v β2 H2 x2 s2 r2 en2 => q v β2 H2 (x1.trans x2 s2.nd) s2 (r2.back x1 x2)
theorem e_or {rest : List Expr} (ha : PE X l (tE X.K C a)) (hb : PE X (.BoolOp .Or (r :: rest) pos) (tE X.K C b)) : PE X (.BoolOp .Or (l :: r :: rest) pos) (tE X.K C (.or a b)) :=
  PE.imp (pe_orT ha hb) fun σ H Q ⟨β, st, ρ, r, st', s, en, e, q⟩ => by
    simp only [ev] at e
    split at e
    · cases e
    · rename_i x st1 e1
      split at e
      · cases e
      · rename_i ht
        simp only [Option.some.injEq, Prod.mk.injEq] at e
        obtain ⟨rfl, rfl⟩ := e
        exact seq1 s en e1 fun v β1 H1 x1 s1 r1 en1 => ⟨true, truth_ok s1 r1 ht, by rw [if_pos rfl]; exact q v β1 H1 x1 s1 r1⟩
      · rename_i ht
        refine seq1 s en e1 fun v β1 H1 x1 s1 r1 en1 => ⟨false, truth_ok s1 r1 ht, ?_⟩
        rw [if_neg (by decide)]
        exact seq1 s1 en1 e fun v β2 H2 x2 s2 r2 en2 => q v β2 H2 (x1.trans x2 s2.nd) s2 (r2.back x1 x2)
theorem evT_and {ρ : Env} {st st' : Sto} {b' : Bool} (e : evT C (.and a b) ρ st = some (b', st')) : ∃ t st1, evT C a ρ st = some (t, st1) ∧ (if t = true then evT C b ρ st1 = some (b', st') else b' = false ∧ st' = st1) := by
  unfold evT at e
  simp only [ev] at e
  split at e
  · cases e
  · rename_i x st1 e1
    split at e1
    · cases e1
    · rename_i y st2 e2
      have eT : ∀ t, truth st2 y = some t → evT C a ρ st = some (t, st2) := fun t h => by unfold evT; rw [e2]; simp only [h, Option.map_some]
      split at e1
      · cases e1
      · rename_i ht
        simp only [Option.some.injEq, Prod.mk.injEq] at e1
        obtain ⟨rfl, rfl⟩ := e1
        simp only [ht, Option.map_some, Option.some.injEq, Prod.mk.injEq] at e
        exact ⟨false, st2, eT _ ht, by rw [if_neg (by decide)]; exact ⟨e.1.symm, e.2.symm⟩⟩
      · rename_i ht
        refine ⟨true, st2, eT _ ht, ?_⟩
        rw [if_pos rfl]
        unfold evT
        rw [e1]
        exact e
theorem evT_or {ρ : Env} {st st' : Sto} {b' : Bool} (e : evT C (.or a b) ρ st = some (b', st')) : ∃ t st1, evT C a ρ st = some (t, st1) ∧ (if t = true then b' = true ∧ st' = st1 else evT C b ρ st1 = some (b', st')) := by
  unfold evT at e
  simp only [ev] at e
  split at e
  · cases e
  · rename_i x st1 e1
    split at e1
    · cases e1
    · rename_i y st2 e2
      have eT : ∀ t, truth st2 y = some t → evT C a ρ st = some (t, st2) := fun t h => by unfold evT; rw [e2]; simp only [h, Option.map_some]
      split at e1
      · cases e1
      · rename_i ht
        simp only [Option.some.injEq, Prod.mk.injEq] at e1
        obtain ⟨rfl, rfl⟩ := e1
        simp only [ht, Option.map_some, Option.some.injEq, Prod.mk.injEq] at e
        exact ⟨true, st2, eT _ ht, by rw [if_pos rfl]; exact ⟨e.1.symm, e.2.symm⟩⟩
      · rename_i ht
        refine ⟨false, st2, eT _ ht, ?_⟩
        rw [if_neg (by decide)]
        unfold evT
        rw [e1]
        exact e
theorem w_and {rest : List Expr} (ha : PT X l (tT X.K C a)) (hb : PW X (.BoolOp .And (r :: rest) pos) (tT X.K C b)) : PW X (.BoolOp .And (l :: r :: rest) pos) (tT X.K C (.and a b)) :=
  PW.imp (pw_and ha hb) fun σ H Q ⟨β, st, ρ, b', st', s, en, e, q⟩ => by
    obtain ⟨t, st1, e1, e2⟩ := evT_and e
    refine seqT s en e1 fun β1 H1 x1 s1 en1 => ?_
    cases t with
    | true =>
      rw [if_pos rfl] at e2 ⊢
      exact seqT s1 en1 e2 fun β2 H2 x2 s2 en2 => q β2 H2 (x1.trans x2 s2.nd) s2
    | false =>
      rw [if_neg (by decide)] at e2 ⊢
      obtain ⟨rfl, rfl⟩ := e2
      exact q β1 H1 x1 s1
theorem w_or {rest : List Expr} (ha : PT X l (tT X.K C a)) (hb : PW X (.BoolOp .Or (r :: rest) pos) (tT X.K C b)) : PW X (.BoolOp .Or (l :: r :: rest) pos) (tT X.K C (.or a b)) :=
  PW.imp (pw_or ha hb) fun σ H Q ⟨β, st, ρ, b', st', s, en, e, q⟩ => by
    obtain ⟨t, st1, e1, e2⟩ := evT_or e
    refine seqT s en e1 fun β1 H1 x1 s1 en1 => ?_
    cases t with
    | true =>
      rw [if_pos rfl] at e2 ⊢
      obtain ⟨rfl, rfl⟩ := e2
      exact q β1 H1 x1 s1
    | false =>
      rw [if_neg (by decide)] at e2 ⊢
      exact seqT s1 en1 e2 fun β2 H2 x2 s2 en2 => q β2 H2 (x1.trans x2 s2.nd) s2
end
end
end Mw

set_option Elab.async false
set_option linter.all false
set_option autoImplicit false
set_option maxRecDepth 100000
/-! PyX: a tuple put the other way round. -/
namespace Mw
open PySem PySem.Spec PyProof.Rows L2
theorem fm_congr {α β : Type} {f g : α → Option β} : ∀ {l : List α}, (∀ x ∈ l, f x = g x) → l.filterMap f = l.filterMap g
  | [], _ => rfl
  | x :: xs, h => by
    rw [List.filterMap_cons, List.filterMap_cons, h x (List.mem_cons_self ..), fm_congr fun y hy => h y (List.mem_cons_of_mem _ hy)]
theorem pick_rev (xs : Array Value) : ((List.range xs.size).filterMap fun (m : Nat) => xs[((xs.size : Int) - 1 + (m : Int) * (-1)).toNat]?) = xs.toList.reverse := by
  have h : (List.range xs.size).filterMap (fun (m : Nat) => xs[((xs.size : Int) - 1 + (m : Int) * (-1)).toNat]?) = (List.range xs.size).filterMap fun (m : Nat) => some (xs.toList.reverse.getD m .none) := by
    refine fm_congr fun m hm => ?_
    have hm' : m < xs.size := List.mem_range.mp hm
    have e : ((xs.size : Int) - 1 + (m : Int) * (-1)).toNat = xs.size - 1 - m := by omega
    rw [e, Array.getElem?_eq_getElem (by omega)]
    congr 1
    rw [List.getD_eq_getElem?_getD, List.getElem?_reverse (by rw [Array.length_toList]; exact hm'), Array.length_toList, Array.getElem?_toList, Array.getElem?_eq_getElem (by omega)]
    rfl
  rw [h, List.filterMap_eq_map']
  refine List.ext_getElem? fun m => ?_
  rw [List.getElem?_map]
  by_cases hm : m < xs.size
  · rw [List.getElem?_range hm]
    have : m < xs.toList.reverse.length := by rw [List.length_reverse, Array.length_toList]; exact hm
    simp [List.getD_eq_getElem?_getD, List.getElem?_eq_getElem this]
  · rw [List.getElem?_eq_none (by simpa using hm), List.getElem?_eq_none (by rw [List.length_reverse, Array.length_toList]; omega)]
    rfl
section
variable {prog : Program} {w : World} {A : Around} {E : Value → Shared → Prop} {s : Shared}
theorem applied_rev {sl : Addr} {vl vu vs : Value} {n : Nat} {Q : Int × Int × Nat → Shared → Prop} (hs : s.heap.IsSliceOf sl vl vu vs) (pl : IsPart vl none) (pu : IsPart vu none) (ps : IsPart vs (some (-1)))
    (h : Q ((n : Int) - 1, -1, n) s) : wpAny (model prog w) A (Builtin.Slice.sliceApplied (.ref sl) (pure (n : Int))) Q E s := by
  obtain ⟨os, hos, hcs, hds⟩ := id hs
  unfold Builtin.Slice.sliceApplied Builtin.Slice.sliceFields
  refine wpAny_bind (wpAny_bind (wpAny_field hos hds (x := vl) rfl (wpAny_bind (wpAny_field hos hds (x := vu) rfl (wpAny_bind (wpAny_field hos hds (x := vs) rfl (wpAny_pure ?_)))))))
  refine wpAny_bind (HT.slicePart_ ps ?_)
  show wpAny _ _ (if ((-1 : Int) == 0) = true then _ else _) _ _ s
  rw [if_neg (by decide)]
  refine wpAny_bind (HT.slicePart_ pl (wpAny_bind (HT.slicePart_ pu (wpAny_bind (wpAny_pure ?_)))))
  show wpAny _ _ (pure ((n : Int) - 1, (-1 : Int), Builtin.Slice.slicePlaces ((n : Int) - 1) (-1) (-1))) _ _ s
  have e : Builtin.Slice.slicePlaces ((n : Int) - 1) (-1) (-1) = n := by
    unfold Builtin.Slice.slicePlaces
    rw [if_neg (by decide), show (- -1 : Int) = 1 from rfl, Int.ediv_one]
    split <;> omega
  rw [e]
  exact wpAny_pure h
theorem getItem_tuple_rev {t sl : Addr} {items : Array Value} {vl vu vs : Value} {Q : Value → Shared → Prop} (ht : IsTup s.heap t items) (hs : s.heap.IsSliceOf sl vl vu vs) (pl : IsPart vl none) (pu : IsPart vu none) (ps : IsPart vs (some (-1)))
    (h : Q (.ref s.heap.objs.size) { s with heap := s.heap.push { cls := .type "tuple", data := .seq items.toList.reverse.toArray } })
    (hsz : items.size ≤ sizeLine) : wpAny (model prog w) A (getItem (.ref t) (.ref sl)) Q E s := by
  have htake : sizeOk (.seq items.toList.reverse.toArray) := by
    show items.toList.reverse.toArray.size ≤ sizeLine
    simpa using hsz
  obtain ⟨os, hos, hcs, hds⟩ := id hs
  have hTs : s.TypeIs (.ref sl) "slice" := ⟨os, hos, hcs⟩
  unfold getItem
  refine wpAny_holding ?_
  refine wpAny_bind (wpAny_sequenceKey ht.typeIs (by decide) ?_)
  refine wpAny_bind (wpAny_callSpecial?_slot (name := Str.ofString "__getitem__") ht.typeIs PyProof.Rows.slot_tuple_getitem
    (wpAny_call_entry PyProof.Rows.slot_tuple_getitem ht.typeIs entry_tuple_getitem ?_ (args_tuple_getitem _ _)))
  show wpAny _ _ (Builtin.Tuple.tupleItemsOf (.ref t) >>= _) _ _ s
  refine wpAny_bind (tupleItemsOf_ ht ?_)
  refine wpAny_bind (wpAny_typeOf hTs ?_)
  rw [if_pos (by decide)]
  refine wpAny_bind (applied_rev hs pl pu ps ?_)
  have hno : ¬ (((items.size : Int) - 1 == 0 && (-1 : Int) == 1 && items.size == items.size) = true) := by simp
  show wpAny _ _ (if ((items.size : Int) - 1 == 0 && (-1 : Int) == 1 && items.size == items.size) = true then _ else _) _ _ s
  rw [if_neg hno, pick_rev]
  first
    | exact wpAny_bind (m := Builtin.Tuple.tupleExact _) (wpAny_newObj_type (wpAny_pure ⟨_, rfl, wpAny_pure h⟩) htake)
    | exact wpAny_bind (m := Builtin.Tuple.tupleExact _) (wpAny_newObj_type (wpAny_bind (wpAny_pure (wpAny_pure ⟨_, rfl, wpAny_pure h⟩))) htake)
end
def tRevT (K : PySem.W.Frag) (te : TE) : TE := fun σ H Q => te σ H fun x H1 => ∃ a xs, x = .ref a ∧ SqT K H1 a xs ∧ ∀ p, H1 p = none → Q (.ref p) (upd H1 p (.tup xs.reverse))
theorem pe_revT {X : Cx} {e : Expr} {te : TE} {k : Nat} {p1 p2 p3 pos : Pos} (he : PE X e te) : PE X (.Subscript e (.Slice none none (some (.UnaryOp .USub (.Constant (.int 1) k p1) p2)) p3) pos) (tRevT X.K te) := by
  refine ⟨fun pins s σ H Q I h => ?_⟩
  refine Subscript_ (thn (he.run pins s σ H _ I h) fun v s1 ⟨x, H1, I1, r1, q1⟩ => ?_)
  obtain ⟨a, xs, ex, hx, q⟩ := q1
  subst ex
  cases r1
  have hst : PO X (some (.UnaryOp .USub (.Constant (.int 1) k p1) p2)) (tPart (tUn (rU fun i => .int (-i)) (tC (.int 1)))) := po_some (pe_un un_neg pe_int)
  refine wpAny_Slice (thn (po_none.run pins s1 σ H1 (fun o H2 => o = none ∧ H2 = H1) I1 ⟨rfl, rfl⟩) fun vl s2 ⟨l, H2, I2, pl, el, e2⟩ => ?_)
  subst el e2
  refine thn (po_none.run pins s2 σ H2 (fun o H3 => o = none ∧ H3 = H2) I2 ⟨rfl, rfl⟩) fun vu s3 ⟨u, H3, I3, pu, eu, e3⟩ => ?_
  subst eu e3
  refine thn (hst.run pins s3 σ H3 (fun o H4 => o = some (-1) ∧ H4 = H3) I3 ⟨1, rfl, -1, rfl, rfl, rfl⟩) fun vs s4 ⟨o, H4, I4, ps, eo, e4⟩ => ?_
  subst eo e4
  have I5 : Inv X pins σ H4 { s4 with heap := s4.heap.push { cls := .type "slice", data := .fields #[vl, vu, vs] } } := I4.kept (t' := s4.toks) fun b ob q => Heap.get?_push_of_some _ q
  obtain ⟨its, r, ht, hz⟩ := I5.tuple hx
  have hlen := r.length
  show wpAny (model X.prog X.w) X.A (subscriptTail e (.Slice none none (some (.UnaryOp .USub (.Constant (.int 1) k p1) p2)) p3) (.ref a) (.ref s4.heap.objs.size)) (EP X pins σ Q) X.xe { s4 with heap := s4.heap.push { cls := .type "slice", data := .fields #[vl, vu, vs] } }
  refine tail_any (ops := [.ref a, .ref s4.heap.objs.size]) ht.typeIs (PyProof.Rows.slot_tuple_getitem.lookup) ?_ (by with_unfolding_all rfl)
  refine getItem_tuple_rev ht (Heap.IsSliceOf.new _ vl vu vs) pl pu ps ?_ (by rw [List.size_toArray]; omega)
  refine ⟨.ref _, _, I5.laid (t' := s4.toks) (o := .tup xs.reverse) (fun b ob q => Heap.get?_push_of_some _ q) (Nat.le_refl _) ?_, rfl, q _ (I5.hok.fresh (Nat.le_refl _))⟩
  exact ⟨by rw [List.length_reverse]; exact hz, _, r.reverse, IsTup.new _ _⟩
end Mw

set_option Elab.async false
set_option linter.all false
set_option autoImplicit false
set_option maxRecDepth 100000
/-! PyC2: arguments, displays, subscripts, slices, calls, methods. -/
namespace Mw
open PySem PySem.Spec PyProof.Rows L2
/-- expressions that stand as themselves in a list of arguments -/
def plainE : Expr → Bool
  | .Starred .. => false
  | .Slice .. => false
  | .Set .. => false
  | _ => true
theorem star_plain {e : Expr} {es : List Expr} {env : PySem.Env} (h : plainE e = true) : starEach (e :: es) env = (false, eval e env) :: starEach es env := by
  cases e <;> first | rfl | (cases h)
theorem stars_plain : ∀ {es : List Expr} {env : PySem.Env} {pos : Pos}, es.all plainE = true → (backTo pos (starEach es env)).any (·.1) = false
  | [], _, _, _ => rfl
  | e :: es, env, pos, h => by
    rw [List.all_cons, Bool.and_eq_true] at h
    rw [star_plain h.1]
    show (false || (backTo pos (starEach es env)).any (·.1)) = false
    rw [stars_plain h.2]
    rfl
theorem plain_ix {e : Expr} (h : plainE e = true) : PlainIx e := by
  cases e <;> first | (intro _ _; rfl) | (cases h)
theorem plain_mark {op : CmpOp} {e : Expr} (h : plainE e = true) : behindInMarks op e = false := by
  cases e <;> first | rfl | (cases h)
section
variable {X : Cx} {C : Call} {K : PySem.W.Frag} {a b c : CE} {es : CEs} {l r m e : Expr} {ls : List Expr} {pos : Pos}
theorem a_nil : PA X [] (tA X.K C .nil) := PA.imp pa_nil fun σ H Q ⟨β, st, ρ, r, st', s, en, e, q⟩ => by
  simp only [evA, Option.some.injEq, Prod.mk.injEq] at e
  obtain ⟨rfl, rfl⟩ := e
  exact q [] β H Ext.refl s rfl
theorem r_nil : PA X [] (tR X.K C .nil) := PA.imp pa_nil fun σ H Q ⟨β, st, ρ, r, st', s, en, e, q⟩ => by
  simp only [evR, Option.some.injEq, Prod.mk.injEq] at e
  obtain ⟨rfl, rfl⟩ := e
  exact q [] β H Ext.refl s rfl
theorem a_cons (hp : plainE e = true) (ha : PE X e (tE X.K C a)) (hr : PA X ls (tA X.K C es)) : PA X (e :: ls) (tA X.K C (.cons a es)) :=
  PA.imp (pa_cons ha hr (star_plain hp)) fun σ H Q ⟨β, st, ρ, r, st', s, en, e, q⟩ => by
    simp only [evA] at e
    split at e
    · cases e
    · rename_i x st1 e1
      split at e
      · cases e
      · rename_i ds st2 e2
        simp only [Option.some.injEq, Prod.mk.injEq] at e
        obtain ⟨rfl, rfl⟩ := e
        refine seq1 s en e1 fun v β1 H1 x1 s1 r1 en1 => ?_
        obtain ⟨β1', xm, sm, rm, g⟩ := mat_ok x1 s1 r1
        refine ⟨β1', (mat x st1).2, ρ, ds, st2, sm, en1.grow g, e2, fun vs β2 H2 x2 s2 r2 => ?_⟩
        exact q (v :: vs) β2 H2 (xm.trans x2 s2.nd) s2 ⟨v, vs, rfl, Rep.mono sm x2 _ _ rm, r2⟩
theorem RRepL.back {β0 β1 β2 : List Addr} {H0 H1 H2 : Hp} (e : Ext β0 H0 β1 H1) (e2 : Ext β1 H1 β2 H2) : ∀ {rs : List RV} {vs : List V}, RRepL K β2 H2 H1 rs vs → RRepL K β2 H2 H0 rs vs
  | [], _, h => h
  | r :: rs, _, h => by
    obtain ⟨v, w, rfl, h1, h2⟩ := h
    exact ⟨v, w, rfl, h1.back e e2, RRepL.back e e2 h2⟩
theorem r_cons (hp : plainE e = true) (ha : PE X e (tE X.K C a)) (hr : PA X ls (tR X.K C es)) : PA X (e :: ls) (tR X.K C (.cons a es)) :=
  PA.imp (pa_cons ha hr (star_plain hp)) fun σ H Q ⟨β, st, ρ, r, st', s, en, e, q⟩ => by
    simp only [evR] at e
    split at e
    · cases e
    · rename_i x st1 e1
      split at e
      · cases e
      · rename_i ds st2 e2
        simp only [Option.some.injEq, Prod.mk.injEq] at e
        obtain ⟨rfl, rfl⟩ := e
        refine seq1 s en e1 fun v β1 H1 x1 s1 r1 en1 => ?_
        refine ⟨β1, st1, ρ, ds, st2, s1, en1, e2, fun vs β2 H2 x2 s2 r2 => ?_⟩
        exact q (v :: vs) β2 H2 (x1.trans x2 s2.nd) s2 ⟨v, vs, rfl, r1.mono s1 x2 s2.nd, r2.back x1 x2⟩
theorem e_tup {k : Nat} (h : PA X ls (tA X.K C es)) (hz : ls.length ≤ 1000) (hl : ∀ ρ st ds st', evA C es ρ st = some (ds, st') → ds.length = ls.length) : PE X (.Tuple ls k pos) (tE X.K C (.tup es)) :=
  PE.imp (pe_tup h) fun σ H Q ⟨β, st, ρ, r, st', s, en, e, q⟩ => by
    simp only [ev, Option.map_eq_some_iff, Prod.mk.injEq] at e
    obtain ⟨⟨ds, st1⟩, e1, rfl, rfl⟩ := e
    refine ⟨β, st, ρ, ds, st1, s, en, e1, fun vs β1 H1 x1 s1 r1 => ⟨?_, fun p hp => ?_⟩⟩
    · have := hl _ _ _ _ e1
      rw [← r1.length, this]
      exact Nat.le_trans hz (by rw [sizeLine_eq]; decide)
    · exact q _ β1 _ (x1.trans (Ext.new hp) s1.nd) (s1.new hp) ⟨p, vs, rfl, SqU.of upd_same, RepL.mono s1 (Ext.new hp) _ _ r1⟩
theorem e_lst (h : PA X ls (tA X.K C es)) (hz : ls.length ≤ 1000) (hl : ∀ ρ st ds st', evA C es ρ st = some (ds, st') → ds.length = ls.length) : PE X (.List ls pos) (tE X.K C (.lst es)) :=
  PE.imp (pe_lst h) fun σ H Q ⟨β, st, ρ, r, st', s, en, e, q⟩ => by
    simp only [ev, Option.map_eq_some_iff, Prod.mk.injEq] at e
    obtain ⟨⟨ds, st1⟩, e1, rfl, rfl⟩ := e
    refine ⟨β, st, ρ, ds, st1, s, en, e1, fun vs β1 H1 x1 s1 r1 => ⟨?_, fun p hp => ?_⟩⟩
    · have := hl _ _ _ _ e1
      rw [← r1.length, this]
      exact Nat.le_trans hz (by rw [sizeLine_eq]; decide)
    · exact q _ β1 _ (x1.trans (Ext.new hp) s1.nd) (s1.new hp) ⟨p, vs, rfl, upd_same, s1.off hp, x1.free hp fun hm => s1.off hp (x1.mem hm), RepL.mono s1 (Ext.new hp) _ _ r1⟩
theorem e_idx (hu : X.A.units + 65 < cLine) (hp : plainE r = true) (ha : PE X l (tE X.K C a)) (hb : PE X r (tE X.K C b)) : PE X (.Subscript l r pos) (tE X.K C (.idx a b)) :=
  PE.imp (pe_ix (ix_ok hu) ha hb (plain_ix hp)) fun σ H Q ⟨β, st, ρ, r, st', s, en, e, q⟩ => by
    simp only [ev] at e
    split at e
    · cases e
    · rename_i x st1 e1
      split at e
      · cases e
      · rename_i y st2 e2
        simp only [Option.map_eq_some_iff, Prod.mk.injEq] at e
        obtain ⟨z, e3, rfl, rfl⟩ := e
        refine seq1 s en e1 fun v β1 H1 x1 s1 r1 en1 => seq1 s1 en1 e2 fun w β2 H2 x2 s2 r2 en2 => ?_
        have x12 := x1.trans x2 s2.nd
        exact ⟨β2, st2, H, x, y, z, ⟨s2, β, x12⟩, r1.mono s1 x2 s2.nd, r2.back x1 x2, e3, fun u H' xx ss rr => q u β2 H' (x12.trans xx ss.nd) ss rr⟩
theorem p_none : PO X none (tP X.K C .nil) := ⟨fun pins s σ H Q I ⟨β, st, ρ, o, st', sm, en, e, q⟩ => by
  simp only [evP, Option.some.injEq, Prod.mk.injEq] at e
  obtain ⟨rfl, rfl⟩ := e
  exact po_none.run pins s σ H Q I (q β H Ext.refl sm)⟩
theorem p_some (ha : PE X l (tE X.K C a)) : PO X (some l) (tP X.K C (.cons a .nil)) := ⟨fun pins s σ H Q I ⟨β, st, ρ, o, st', sm, en, e, q⟩ => by
  refine (po_some ha).run pins s σ H Q I ?_
  simp only [evP] at e
  split at e
  · rename_i i st1 e1
    simp only [Option.some.injEq, Prod.mk.injEq] at e
    obtain ⟨rfl, rfl⟩ := e
    exact seq1 sm en e1 fun v β1 H1 x1 s1 r1 en1 => ⟨i, r1, q β1 H1 x1 s1⟩
  · cases e⟩
theorem e_sli {lo hi : Option Expr} {cl ch : CEs} {p2 : Pos} (ha : PE X l (tE X.K C a)) (hl : PO X lo (tP X.K C cl)) (hu : PO X hi (tP X.K C ch)) : PE X (.Subscript l (.Slice lo hi none p2) pos) (tE X.K C (.sli a cl ch)) :=
  PE.imp (pe_slice sli_ok ha hl hu) fun σ H Q ⟨β, st, ρ, r, st', s, en, e, q⟩ => by
    simp only [ev] at e
    split at e
    · cases e
    · rename_i x st1 e1
      split at e
      · cases e
      · rename_i lo st2 e2
        split at e
        · cases e
        · rename_i hi st3 e3
          simp only [Option.map_eq_some_iff, Prod.mk.injEq] at e
          obtain ⟨z, e4, rfl, rfl⟩ := e
          refine seq1 s en e1 fun v β1 H1 x1 s1 r1 en1 => ⟨β1, st1, ρ, lo, st2, s1, en1, e2, fun β2 H2 x2 s2 => ⟨β2, st2, ρ, hi, st3, s2, en1.mono s1 x2, e3, fun β3 H3 x3 s3 => ?_⟩⟩
          have x23 := x2.trans x3 s3.nd
          have x13 := x1.trans x23 s3.nd
          exact ⟨β3, st3, H, x, z, ⟨s3, β, x13⟩, (r1.mono s1 x23 s3.nd), e4, fun u H' xx ss rr => q u β3 H' (x13.trans xx ss.nd) ss rr⟩
theorem PE.or {e : Expr} {t t' : TE} (h : PE X e t) (h' : PE X e t') : PE X e (fun σ H Q => t σ H Q ∨ t' σ H Q) := ⟨fun pins s σ H Q I hw => hw.elim (h.run pins s σ H Q I) (h'.run pins s σ H Q I)⟩
/-- [::-1] of a list or tuple -/
theorem e_rev {k : Nat} {p1 p2 p3 : Pos} (ha : PE X l (tE X.K C a)) : PE X (.Subscript l (.Slice none none (some (.UnaryOp .USub (.Constant (.int 1) k p1) p2)) p3) pos) (tE X.K C (.rev a)) :=
  PE.imp (Mw.PE.or (pe_revL ha) (pe_revT ha)) fun σ H Q ⟨β, st, ρ, r, st', s, en, e, q⟩ => by
    simp only [ev] at e
    split at e
    · cases e
    · rename_i x st1 e1
      simp only [Option.map_eq_some_iff, Prod.mk.injEq] at e
      obtain ⟨z, e2, rfl, rfl⟩ := e
      unfold revApp at e2
      split at e2
      · rename_i xs
        simp only [Option.some.injEq] at e2
        subst e2
        refine .inr (seq1 s en e1 fun v β1 H1 x1 s1 r1 en1 => ?_)
        obtain ⟨p, vs, rfl, h1, h2⟩ := r1
        refine ⟨p, vs, rfl, h1.sq, fun p hp => ?_⟩
        exact q _ β1 _ (x1.trans (Ext.new hp) s1.nd) (s1.new hp) ⟨p, _, rfl, SqU.of upd_same, RepL.mono s1 (Ext.new hp) _ _ h2.reverse⟩
      · simp only [Option.map_eq_some_iff] at e2
        obtain ⟨xs, e3, rfl⟩ := e2
        refine .inl (seq1 s en e1 fun v β1 H1 x1 s1 r1 en1 => ?_)
        obtain ⟨p, vs, rfl, h1, h2⟩ := listOf_sq s1 r1 e3
        refine ⟨p, vs, rfl, h1, fun p hp => ?_⟩
        exact q _ β1 _ (x1.trans (Ext.new hp) s1.nd) (s1.new hp) ⟨p, _, rfl, upd_same, s1.off hp, x1.free hp fun hm => s1.off hp (x1.mem hm), RepL.mono s1 (Ext.new hp) _ _ h2.reverse⟩
/-! ### xs[::s] of a list -/
theorem slicePick_one (items : Array Value) : slicePick items none none (some 1) = items := by
  have h := slicePick_cut items.toList none none
  have e : slicePick items none none (some 1) = slicePick items none none none := rfl
  rw [e]
  simp only [Array.toArray_toList] at h
  rw [h]
  simp [HT.sIx]
  rw [List.take_of_length_le (by simp), Array.toArray_toList]
def tStpL (K : PySem.W.Frag) (te ts : TE) : TE := fun σ H Q => te σ H fun x H1 => tPart ts σ H1 fun o H2 => ∃ i, o = some i ∧ (i = 1 ∨ i = -1) ∧ ∃ a xs, x = .ref a ∧ SqL K H2 a xs ∧ ∀ p, H2 p = none → Q (.ref p) (upd H2 p (.lst (if i = 1 then xs else xs.reverse)))
theorem pe_stpL {X : Cx} {e f : Expr} {te ts : TE} {p3 pos : Pos} (he : PE X e te) (hf : PE X f ts) : PE X (.Subscript e (.Slice none none (some f) p3) pos) (tStpL X.K te ts) := by
  refine ⟨fun pins s σ H Q I h => ?_⟩
  refine Subscript_ (thn (he.run pins s σ H _ I h) fun v s1 ⟨x, H1, I1, r1, q1⟩ => ?_)
  refine wpAny_Slice (thn (po_none.run pins s1 σ H1 (fun o H2 => o = none ∧ H2 = H1) I1 ⟨rfl, rfl⟩) fun vl s2 ⟨l, H2, I2, pl, el, e2⟩ => ?_)
  subst el e2
  refine thn (po_none.run pins s2 σ H2 (fun o H3 => o = none ∧ H3 = H2) I2 ⟨rfl, rfl⟩) fun vu s3 ⟨u, H3, I3, pu, eu, e3⟩ => ?_
  subst eu e3
  refine thn ((po_some hf).run pins s3 σ H3 (fun o H4 => ∃ i, o = some i ∧ (i = 1 ∨ i = -1) ∧ ∃ a xs, x = .ref a ∧ SqL X.K H4 a xs ∧ ∀ p, H4 p = none → Q (.ref p) (upd H4 p (.lst (if i = 1 then xs else xs.reverse)))) I3 q1) fun vs s4 ⟨o, H4, I4, ps, i, eo, hi, a, xs, ex, hx, q⟩ => ?_
  subst eo ex
  cases r1
  have I5 : Inv X pins σ H4 { s4 with heap := s4.heap.push { cls := .type "slice", data := .fields #[vl, vu, vs] } } := I4.kept (t' := s4.toks) fun b ob q => Heap.get?_push_of_some _ q
  obtain ⟨its, r, ht, hz⟩ := I5.list hx
  have hlen := r.length
  show wpAny (model X.prog X.w) X.A (subscriptTail e (.Slice none none (some f) p3) (.ref a) (.ref s4.heap.objs.size)) (EP X pins σ Q) X.xe { s4 with heap := s4.heap.push { cls := .type "slice", data := .fields #[vl, vu, vs] } }
  refine tail_any (ops := [.ref a, .ref s4.heap.objs.size]) ht.isList.typeIs (PySem.slot_list_getitem.lookup) ?_ (by with_unfolding_all rfl)
  refine wpAny_getItem_list_slice ht.isList (Heap.IsSliceOf.new _ vl vu vs) pl pu ps (by rcases hi with rfl | rfl <;> decide) ?_ (by rw [List.size_toArray]; omega)
  rcases hi with rfl | rfl
  · rw [slicePick_one]
    refine ⟨.ref _, _, I5.laid (t' := s4.toks) (o := .lst xs) (fun b ob q => Heap.get?_push_of_some _ q) (Nat.le_refl _) ?_, rfl, q _ (I5.hok.fresh (Nat.le_refl _))⟩
    exact ⟨hz, _, 0, r, Heap.get?_push_size _ rfl⟩
  · rw [PySem.W.krv_pick]
    refine ⟨.ref _, _, I5.laid (t' := s4.toks) (o := .lst xs.reverse) (fun b ob q => Heap.get?_push_of_some _ q) (Nat.le_refl _) ?_, rfl, q _ (I5.hok.fresh (Nat.le_refl _))⟩
    exact ⟨by rw [List.length_reverse]; exact hz, _, 0, r.reverse, Heap.get?_push_size _ rfl⟩
theorem e_stp {p3 : Pos} {f : Expr} {b : CE} (ha : PE X l (tE X.K C a)) (hb : PE X f (tE X.K C b)) : PE X (.Subscript l (.Slice none none (some f) p3) pos) (tE X.K C (.stp a b)) :=
  PE.imp (pe_stpL ha hb) fun σ H Q ⟨β, st, ρ, r, st', s, en, e, q⟩ => by
    simp only [ev] at e
    split at e
    · cases e
    rename_i x st1 e1
    split at e
    · cases e
    rename_i y st2 e2
    simp only [Option.map_eq_some_iff, Prod.mk.injEq] at e
    obtain ⟨z, e3, rfl, rfl⟩ := e
    refine seq1 s en e1 fun v β1 H1 x1 s1 r1 en1 => seq1 s1 en1 e2 fun w β2 H2 x2 s2 r2 en2 => ?_
    have x12 := x1.trans x2 s2.nd
    unfold stpApp at e3
    split at e3
    · rename_i i
      cases r2
      refine ⟨i, rfl, i, rfl, ?_⟩
      split at e3
      · rename_i hi
        subst hi
        simp only [Option.map_eq_some_iff] at e3
        obtain ⟨xs, e4, rfl⟩ := e3
        obtain ⟨p, vs, rfl, h1, h2⟩ := listOf_sq s2 (r1.mono s1 x2 s2.nd) e4
        refine ⟨.inl rfl, p, vs, rfl, h1, fun p hp => ?_⟩
        exact q _ β2 _ (x12.trans (Ext.new hp) s2.nd) (s2.new hp) ⟨p, _, rfl, upd_same, s2.off hp, x12.free hp fun hm => s2.off hp (x12.mem hm), RepL.mono s2 (Ext.new hp) _ _ h2⟩
      · split at e3
        · rename_i hi
          subst hi
          simp only [Option.map_eq_some_iff] at e3
          obtain ⟨xs, e4, rfl⟩ := e3
          obtain ⟨p, vs, rfl, h1, h2⟩ := listOf_sq s2 (r1.mono s1 x2 s2.nd) e4
          refine ⟨.inr rfl, p, vs, rfl, h1, fun p hp => ?_⟩
          exact q _ β2 _ (x12.trans (Ext.new hp) s2.nd) (s2.new hp) ⟨p, _, rfl, upd_same, s2.off hp, x12.free hp fun hm => s2.off hp (x12.mem hm), RepL.mono s2 (Ext.new hp) _ _ h2.reverse⟩
        · cases e3
    · cases e3
/-! ### calls of built-ins -/
theorem callB_in {bi : BI} {σ : L2.St} {H : Hp} {Q : VK} (h : tE K C (.bi bi es) σ H Q) : tCB (rBi K bi) (tR K C es) σ H Q := by
  obtain ⟨β, st, ρ, r, st', s, en, e, q⟩ := h
  simp only [ev] at e
  split at e
  · cases e
  · rename_i rs st1 e1
    simp only [Option.map_eq_some_iff, Prod.mk.injEq] at e
    obtain ⟨z, e2, rfl, rfl⟩ := e
    refine ⟨β, st, ρ, rs, st1, s, en, e1, fun vs β1 H1 x1 s1 r1 => ?_⟩
    exact ⟨β1, st1, H, rs, z, ⟨s1, β, x1⟩, r1, e2, fun u H' xx ss rr => q u β1 H' (x1.trans xx ss.nd) ss rr⟩
theorem e_biB {bi : BI} {id : String} {x : Str} {p : Pos} (hc : CallR X (.builtin id) (rBi X.K bi)) (hg : Gl X x) (hm : X.mg x = none) (hv : bootBuiltins x = some (.builtin id)) (ha : PA X (e :: ls) (tR X.K C es)) (hp : (e :: ls).all plainE = true)
    (hn : x ≠ "__name__") (hdb : (x == ("__debug__" : Str)) = false) : PE X (.Call (.Name x p) (e :: ls) [] pos) (tE X.K C (.bi bi es)) :=
  PE.imp (pe_callB hc hg hm hv ha hn hdb (star_plain (by rw [List.all_cons, Bool.and_eq_true] at hp; exact hp.1)) (stars_plain (by rw [List.all_cons, Bool.and_eq_true] at hp; exact hp.2))) fun σ H Q => callB_in
theorem e_biT {bi : BI} {T : String} {x : Str} {p : Pos} (hc : CallR X (.type T) (rBi X.K bi)) (hg : Gl X x) (hm : X.mg x = none) (hv : bootBuiltins x = some (.type T)) (ha : PA X (e :: ls) (tR X.K C es)) (hp : (e :: ls).all plainE = true)
    (hn : x ≠ "__name__") (hdb : (x == ("__debug__" : Str)) = false) : PE X (.Call (.Name x p) (e :: ls) [] pos) (tE X.K C (.bi bi es)) :=
  PE.imp (pe_callTy hc hg hm hv ha hn hdb (star_plain (by rw [List.all_cons, Bool.and_eq_true] at hp; exact hp.1)) (stars_plain (by rw [List.all_cons, Bool.and_eq_true] at hp; exact hp.2))) fun σ H Q => callB_in
theorem e_isi {t : Ty} {x y : Str} {p p2 : Pos} (hg : Gl X x) (hm : X.mg x = none) (hx : bootBuiltins x = some (.builtin "isinstance")) (hg2 : Gl X y) (hm2 : X.mg y = none) (hy : bootBuiltins y = some (.type (tyName t))) (hp : plainE e = true) (ha : PE X e (tE X.K C a))
    (hn : x ≠ "__name__") (hdb : (x == ("__debug__" : Str)) = false) (hn2 : y ≠ "__name__") (hdb2 : (y == ("__debug__" : Str)) = false) : PE X (.Call (.Name x p) [e, .Name y p2] [] pos) (tE X.K C (.isi a t)) :=
  PE.imp (pe_callB call_isi hg hm hx (pa_cons ha (pa_cons (pe_bltn (v := .ty (tyName t)) hg2 hm2 hy rfl hn2 hdb2) pa_nil (star_plain rfl)) (star_plain hp)) hn hdb (star_plain hp) (stars_plain rfl)) fun σ H Q ⟨β, st, ρ, r, st', s, en, e, q⟩ => by
    simp only [ev] at e
    split at e
    · cases e
    · rename_i z st1 e1
      simp only [Option.map_eq_some_iff, Prod.mk.injEq] at e
      obtain ⟨k, e2, rfl, rfl⟩ := e
      refine seq1 s en e1 fun v β1 H1 x1 s1 r1 en1 => ?_
      obtain ⟨c, h1, h2⟩ := isTy_out s1 r1 e2
      exact ⟨v, .ty (tyName t), c, .type (tyName t), k, rfl, .ty _, h1, h2, q _ β1 H1 x1 s1 rfl⟩
/-! ### methods of lists and texts -/
def recvOk : Expr → Bool
  | .Call (.Name _ _) [] [] _ => false
  | _ => true
theorem base_of {o : Expr} {n : Str} {env : PySem.Env} {w : Sem Value} (h : recvOk o = true) : attributeBase o n env w = w := by
  unfold attributeBase
  split
  · cases h
  · rfl
theorem kd_lst {β : List Addr} {st : Sto} {H H0 : Hp} {x : RV} {v : V} (s : Sim K β st H) (r : RRep K β H H0 x v) (h : kdOf st x = .lst) : tyV K "list" v H := by
  cases x with
  | tmp xs => obtain ⟨a, vs, rfl, h1, _⟩ := r; exact .inl ⟨rfl, vs, SqL.of h1⟩
  | val d =>
    cases d with
    | rol xs => obtain ⟨a, vs, rfl, h1, _⟩ := r; exact .inl ⟨rfl, vs, h1.sq⟩
    | ref n =>
      simp only [kdOf] at h
      obtain ⟨a, h1, rfl⟩ := r
      split at h
      · rename_i zs hz
        obtain ⟨vs, h2, _⟩ := s.obj n a _ h1 hz
        exact .inl ⟨rfl, vs, SqL.of h2⟩
      · cases h
      · cases h
      · cases h
    | _ => simp [kdOf] at h
theorem kd_str {β : List Addr} {st : Sto} {H H0 : Hp} {x : RV} {v : V} (s : Sim K β st H) (r : RRep K β H H0 x v) (h : kdOf st x = .str) : tyV K "str" v H := by
  cases x with
  | tmp xs => simp [kdOf] at h
  | val d =>
    cases d with
    | str z => cases r; rfl
    | ref n =>
      simp only [kdOf] at h
      split at h <;> cases h
    | _ => simp [kdOf] at h
theorem mt_in {mt : MT} {T : String} {kd : Kd} {σ : L2.St} {H : Hp} {Q : VK} (ty : ∀ {β : List Addr} {st : Sto} {H H0 : Hp} {x : RV} {v : V}, Sim K β st H → RRep K β H H0 x v → kdOf st x = kd → tyV K T v H)
    (hk : ∀ st x rs z, mtApp st mt x rs = some z → kdOf st x = kd) (h : tE K C (.mt mt a es) σ H Q) : tBM K T (rMt K mt) (tE K C a) (tR K C es) σ H Q := by
  obtain ⟨β, st, ρ, r, st', s, en, e, q⟩ := h
  simp only [ev] at e
  split at e
  · cases e
  · rename_i x st1 e1
    split at e
    · cases e
    · rename_i rs st2 e2
      split at e
      · rename_i hkd
        refine seq1 s en e1 fun v β1 H1 x1 s1 r1 en1 => ⟨ty s1 r1 (hkd.trans (hk _ _ _ _ e)), ?_⟩
        exact ⟨β1, st1, ρ, rs, st2, s1, en1, e2, fun vs β2 H2 x2 s2 r2 => ⟨β, H, β2, st2, x, rs, r, st', x1.trans x2 s2.nd, s2, r1.mono s1 x2 s2.nd, r2.back x1 x2, e, q⟩⟩
      · cases e
theorem mt_in0 {mt : MT} {T : String} {kd : Kd} {σ : L2.St} {H : Hp} {Q : VK} (ty : ∀ {β : List Addr} {st : Sto} {H H0 : Hp} {x : RV} {v : V}, Sim K β st H → RRep K β H H0 x v → kdOf st x = kd → tyV K T v H)
    (hk : ∀ st x rs z, mtApp st mt x rs = some z → kdOf st x = kd) (h : tE K C (.mt mt a .nil) σ H Q) : tBM0 K T (rMt K mt) (tE K C a) σ H Q := by
  obtain ⟨β, st, ρ, r, st', s, en, e, q⟩ := h
  simp only [ev] at e
  split at e
  · cases e
  · rename_i x st1 e1
    simp only [evR] at e
    split at e
    · rename_i hkd
      exact seq1 s en e1 fun v β1 H1 x1 s1 r1 en1 => ⟨ty s1 r1 (hk _ _ _ _ e), β, H, β1, st1, x, [], r, st', x1, s1, r1, rfl, e, q⟩
    · cases e
theorem kd_ref {st : Sto} {n : Nat} {zs : List D} (h : st[n]? = some (.lst zs)) : kdOf st (.val (.ref n)) = .lst := by simp [kdOf, h]
theorem hk_append : ∀ st x rs z, mtApp st .append x rs = some z → kdOf st x = .lst := fun st x rs z e => by
  simp only [mtApp] at e
  unfold mtAppend at e
  split at e
  case h_2 => cases e
  split at e
  case h_2 => cases e
  rename_i hz
  exact kd_ref hz
theorem hk_extend : ∀ st x rs z, mtApp st .extend x rs = some z → kdOf st x = .lst := fun st x rs z e => by
  simp only [mtApp] at e
  unfold mtExtend at e
  split at e
  case h_2 => cases e
  split at e
  case h_2 => cases e
  rename_i hz
  exact kd_ref hz
theorem hk_insert : ∀ st x rs z, mtApp st .insert x rs = some z → kdOf st x = .lst := fun st x rs z e => by
  simp only [mtApp] at e
  unfold mtInsert at e
  split at e
  case h_2 => cases e
  split at e
  case h_2 => cases e
  rename_i hz
  exact kd_ref hz
theorem hk_join : ∀ st x rs z, mtApp st .join x rs = some z → kdOf st x = .str := fun st x rs z e => by
  simp only [mtApp] at e
  unfold mtJoin at e
  split at e
  · rfl
  · cases e
theorem hk_split : ∀ st x rs z, mtApp st .split x rs = some z → kdOf st x = .str := fun st x rs z e => by
  simp only [mtApp] at e
  unfold mtSplit at e
  split at e
  · rfl
  · cases e
theorem hk_upper : ∀ st x rs z, mtApp st .upper x rs = some z → kdOf st x = .str := fun st x rs z e => by
  simp only [mtApp] at e
  unfold mtUpper at e
  split at e
  · rfl
  · cases e
theorem few_plain {e : Expr} {es : List Expr} {env : PySem.Env} {pos : Pos} (h : (e :: es).all plainE = true) (hl : (e :: es).length < 29) : ((backTo pos (starEach (e :: es) env)).all (fun x => !x.1) && (backToKw pos (keywordEach [] env)).all (fun x => x.1.isSome)
      && decide ((e :: es).length + ([] : List Keyword).length + (if ([] : List Keyword).isEmpty then 0 else 1) < 30)) = true := by
  have go : ∀ es : List Expr, es.all plainE = true → (backTo pos (starEach es env)).all (fun x => !x.1) = true := by
    intro es
    induction es with
    | nil => exact fun _ => rfl
    | cons x xs ih =>
      intro h
      rw [List.all_cons, Bool.and_eq_true] at h
      rw [star_plain h.1]
      show (true && (backTo pos (starEach xs env)).all (fun x => !x.1)) = true
      rw [ih h.2]
      rfl
  rw [go _ h]
  have : (e :: es).length + ([] : List Keyword).length + (if ([] : List Keyword).isEmpty then 0 else 1) < 30 := by simp only [List.length_nil, List.isEmpty_nil, if_true]; omega
  rw [decide_eq_true this]
  rfl
theorem e_mt {mt : MT} {T id : String} {kd : Kd} {name : Str} {apos : Pos} (pa : PlainAttrs T) (slot : Slot T name id) (hty : typeOf (.builtin id) = pure (.type "method_descriptor")) (hm : MtR X id (rMt X.K mt))
    (ty : ∀ {β : List Addr} {st : Sto} {H H0 : Hp} {x : RV} {v : V}, Sim X.K β st H → RRep X.K β H H0 x v → kdOf st x = kd → tyV X.K T v H) (hk : ∀ st x rs z, mtApp st mt x rs = some z → kdOf st x = kd)
    (ho : PE X l (tE X.K C a)) (ha : PA X (e :: ls) (tR X.K C es)) (hr : recvOk l = true) (hp : (e :: ls).all plainE = true) (hlen : (e :: ls).length < 29) (hline : (apos.endLine == pos.line) = true) : PE X (.Call (.Attribute l name apos) (e :: ls) [] pos) (tE X.K C (.mt mt a es)) :=
  PE.imp (pe_bm pa slot hty hm ho ha (base_of hr) (few_plain hp hlen) hline (star_plain (by rw [List.all_cons, Bool.and_eq_true] at hp; exact hp.1)) (stars_plain (by rw [List.all_cons, Bool.and_eq_true] at hp; exact hp.2))) fun σ H Q => mt_in ty hk
theorem e_mt0 {mt : MT} {T id : String} {kd : Kd} {name : Str} {apos : Pos} (pa : PlainAttrs T) (slot : Slot T name id) (hty : typeOf (.builtin id) = pure (.type "method_descriptor")) (hm : MtR X id (rMt X.K mt))
    (ty : ∀ {β : List Addr} {st : Sto} {H H0 : Hp} {x : RV} {v : V}, Sim X.K β st H → RRep X.K β H H0 x v → kdOf st x = kd → tyV X.K T v H) (hk : ∀ st x rs z, mtApp st mt x rs = some z → kdOf st x = kd)
    (ho : PE X l (tE X.K C a)) (hr : recvOk l = true) (hline : (apos.endLine == pos.line) = true) : PE X (.Call (.Attribute l name apos) [] [] pos) (tE X.K C (.mt mt a .nil)) :=
  PE.imp (pe_bm0 pa slot hty hm ho (base_of hr) hline) fun σ H Q => mt_in0 ty hk
end
end Mw

set_option Elab.async false
set_option linter.all false
set_option autoImplicit false
set_option maxRecDepth 100000
/-! PyC3: what loops walk: lists and tuples alike, by themselves, under enumerate, under zip. -/
namespace Mw
open PySem PySem.Spec PyProof.Rows L2

set_option maxHeartbeats 2000000 in
theorem enum_new1 {v : Value} {o : Obj} {H : Heap → Prop} (B : Begins v o H) :
    Meets (Builtin.«enumerate.__new__» ⟨[.type "enumerate", v], []⟩) (fun _ R s => H s.heap ∧
      R (.ok (.ret (.ref (s.heap.push o).objs.size))) { s with heap := (s.heap.push o).push { cls := .type "enumerate", data := .fields #[.none, .bool false, .ref s.heap.objs.size, rawInt 0, .none, .none] } }) :=
  .of_wp fun prog w A R s h => by
    obtain ⟨hp, gg, dd, tk, os⟩ := s; obtain ⟨hH, hR⟩ := h
    have hs := sub_enumerate
    have it : ∀ {A' : Around} {E : Value → Shared → Prop} {Q : Value → Shared → Prop}, Q (.ref hp.objs.size) ⟨hp.push o, gg, dd, tk, os⟩ → wpAny (model prog w) A' (pyIter v) Q E ⟨hp, gg, dd, tk, os⟩ := fun q => B.iter prog w _ _ ⟨hp, gg, dd, tk, os⟩ _ hH q
    wp_walk using it
    refine wpAny_stack_any fun stk => wpAny_pure ?_
    split
    · rename_i cc _ _ _ _ _
      cases (cc == Value.type "enumerate") <;> (wp_walk using it; exact ⟨_, rfl, hR⟩)
    · wp_walk using it
      exact ⟨_, rfl, hR⟩
theorem enum_begin1 {prog : Program} {w : World} {A : Around} {E : Value → Shared → Prop} {s : Shared} {v : Value} {o : Obj} {H : Heap → Prop} {Q : Value → Shared → Prop} (B : Begins v o H) (h1 : H s.heap)
    (h : ∀ h', IsEnum h' (s.heap.objs.size + 1) s.heap.objs.size 0 .none → h'.get? s.heap.objs.size = some o → (∀ b o, s.heap.get? b = some o → h'.get? b = some o) → Q (.ref (s.heap.objs.size + 1)) { s with heap := h' }) :
    wpAny (model prog w) A (call (.type "enumerate") [v]) Q E s := by
  refine callType_new F.called_enumerate (by decide) (F.typeCall_enumerate_1 _) (F.newCall_enumerate_1 _) (fun obj => F.args_object_init_2 obj _) F.entry_enumerate_new (enum_new1 B) ⟨h1, ?_⟩
  have hz : (s.heap.push o).objs.size = s.heap.objs.size + 1 := Heap.size_push ..
  show _ ∧ _
  rw [hz]
  have he : IsEnum ((s.heap.push o).push { cls := .type "enumerate", data := .fields #[.none, .bool false, .ref s.heap.objs.size, rawInt 0, .none, .none] }) (s.heap.objs.size + 1) s.heap.objs.size 0 .none := by
    have := Heap.get?_push_size (s.heap.push o) (o := { cls := .type "enumerate", data := .fields #[.none, .bool false, .ref s.heap.objs.size, rawInt 0, .none, .none] }) rfl
    rw [hz] at this; exact this
  exact ⟨⟨_, he, rfl⟩, h _ he (Heap.get?_push_of_some _ (Heap.get?_push_size _ B.free)) fun b o x => Heap.get?_push_of_some _ (Heap.get?_push_of_some _ x)⟩

/-! ### lists and tuples alike -/
inductive Kq where
  | L | T
def sqK (k : Kq) (K : PySem.W.Frag) (H : Hp) (a : Addr) (xs : List V) : Prop := match k with
  | .L => SqL K H a xs
  | .T => SqT K H a xs
def itK (k : Kq) (h : Heap) (it a : Addr) (i : Nat) : Prop := match k with
  | .L => h.IsListIter it a i
  | .T => h.IsTupleIter it a i
def coK (k : Kq) (h : Heap) (a : Addr) (items : Array Value) : Prop := match k with
  | .L => h.IsList a items
  | .T => h.IsTuple a items
def obK (k : Kq) (a : Addr) : Obj := match k with
  | .L => { cls := .type "list_iterator", data := .fields #[.ref a, .int 0 0] }
  | .T => { cls := .type "tuple_iterator", data := .fields #[.ref a, .int 0 0] }
section
variable {X : Cx} {pins : List (Addr × Obj)} {σ : L2.St} {H : Hp} {s : Shared} {k : Kq} {a it : Addr} {xs ys : List V}
theorem sq_inv (I : Inv X pins σ H s) (h : sqK k X.K H a xs) : ∃ its : List Value, Vals xs its ∧ coK k s.heap a its.toArray ∧ xs.length ≤ sizeLine := by
  cases k with
  | L => obtain ⟨its, r, p, z⟩ := I.list h; exact ⟨its, r, p.isList, z⟩
  | T => obtain ⟨its, r, p, z⟩ := I.tuple h; exact ⟨its, r, p, z⟩
theorem sq_inj (I : Inv X pins σ H s) (h : sqK k X.K H a xs) (h' : sqK k X.K H a ys) : xs = ys := by
  cases k with
  | L => exact I.list_inj h h'
  | T => exact I.tuple_inj h h'
theorem co_lt {h : Heap} {items : Array Value} (x : coK k h a items) : a < h.objs.size := by
  cases k with
  | L => obtain ⟨o, e, _⟩ := x; exact Heap.lt_size e
  | T => obtain ⟨o, e, _⟩ := x; exact Heap.lt_size e
theorem draws_k {prog : Program} {w : World} {A : Around} (hh : A.handled = none) (hne : a ≠ it) (items : Array Value) : Draws prog w A it [it, a] items.size (fun i v => items[i]? = some v) (fun i h => itK k h it a i ∧ coK k h a items) := by
  cases k with
  | L => exact Draws.list hh it a hne items
  | T => exact Draws.tuple hh it a hne items
theorem begins_k (k : Kq) (a : Addr) (items : Array Value) : Begins (.ref a) (obK k a) fun h => coK k h a items := by
  cases k with
  | L => exact begins_list a items
  | T => exact begins_tuple a items
theorem it_of {h : Heap} (e : h.get? it = some (obK k a)) : itK k h it a 0 := by
  cases k with
  | L => exact ⟨_, e, rfl, rfl⟩
  | T => exact ⟨_, e, rfl, rfl⟩
theorem it_obj {h : Heap} {i : Nat} (st : itK k h it a i) : ∃ o, h.get? it = some o ∧ ∀ v, o.data ≠ .cell v := by
  cases k with
  | L => obtain ⟨o, e, _, d⟩ := st; exact ⟨o, e, fun v z => by rw [d] at z; cases z⟩
  | T => obtain ⟨o, e, _, d⟩ := st; exact ⟨o, e, fun v z => by rw [d] at z; cases z⟩
theorem it_keep {h h' : Heap} {i : Nat} (st : itK k h it a i) (kp : ∀ o, h.get? it = some o → h'.get? it = some o) : itK k h' it a i := by
  cases k with
  | L => obtain ⟨o, e, r⟩ := st; exact ⟨o, kp o e, r⟩
  | T => obtain ⟨o, e, r⟩ := st; exact ⟨o, kp o e, r⟩
end
theorem it_ne {k : Kq} {h : Heap} {a it : Addr} {i : Nat} {items : Array Value} (hi : itK k h it a i) (co : coK k h a items) : a ≠ it := fun z => by
  subst z
  cases k with
  | L => obtain ⟨o, e1, c1, _⟩ := co; obtain ⟨o', e2, c2, _⟩ := hi; rw [e1] at e2; cases e2; rw [c1] at c2; simp at c2
  | T => obtain ⟨o, e1, c1, _⟩ := co; obtain ⟨o', e2, c2, _⟩ := hi; rw [e1] at e2; cases e2; rw [c1] at c2; simp at c2
theorem co_ne {k : Kq} {h : Heap} {a e : Addr} {o : Obj} {n : String} {items : Array Value} (he : h.get? e = some o) (hc : o.cls = .type n) (co : coK k h a items) (h1 : n ≠ "list" := by decide) (h2 : n ≠ "tuple" := by decide) : e ≠ a := fun z => by
  subst z
  cases k with
  | L => obtain ⟨o', e1, c1, _⟩ := co; rw [he] at e1; cases e1; rw [hc] at c1; injection c1 with c1; exact h1 c1
  | T => obtain ⟨o', e1, c1, _⟩ := co; rw [he] at e1; cases e1; rw [hc] at c1; injection c1 with c1; exact h2 c1
/-- enumerate over it -/
def Iex (k : Kq) (K : PySem.W.Frag) (a : Addr) : It :=
  ⟨fun i H => ∃ xs x, sqK k K H a xs ∧ xs[i]? = some x, fun i H v H' => ∃ T x, v = .ref T ∧ H T = none ∧ H' = upd H T (.tup [.int (i : Nat), x]) ∧ ∀ xs, sqK k K H a xs → xs[i]? = some x, fun i H => ∃ xs, sqK k K H a xs ∧ xs.length = i⟩
theorem turn_ex {P : Program} {w : World} {K : PySem.W.Frag} {elts : List Expr} {kk : Nat} {tpos : Pos} {k : Kq} {a e it : Addr} :
    Turn P w K (.Tuple elts kk tpos) (Iex k K a) [e, it] e (fun i h => (∃ old, IsEnum h e it (i : Nat) old) ∧ itK k h it a i ∧ e ≠ it) where
  mem := by simp
  obj := fun i h st b hb => by
    obtain ⟨⟨old, he⟩, hi, _⟩ := st
    rcases List.mem_cons.mp hb with rfl | hb
    · exact ⟨_, he, fun v z => by cases z⟩
    · rw [List.mem_singleton.mp hb]
      exact it_obj hi
  keep := fun i h h' st kp => ⟨let ⟨old, he⟩ := st.1; ⟨old, kp e (by simp) _ he⟩, it_keep st.2.1 (fun o q => kp it (by simp) o q), st.2.2⟩
  item := by
    intro X hP hw hK hc i pins s σ H E I hf st hg
    subst hP hw hK
    obtain ⟨⟨old, he⟩, hi, hne⟩ := st
    obtain ⟨xs, x, hq, hx⟩ := hg
    obtain ⟨its, rv, co, hz⟩ := sq_inv I hq
    obtain ⟨u, hu, ru⟩ := rv.get hx
    have hitn : H it = none := (hf it (by simp)).1
    have hen : H e = none := (hf e (by simp)).1
    -- the thing walked is tracked or of the text: no iterator
    have hait : a ≠ it := it_ne hi co
    have hae : e ≠ a := co_ne he rfl co
    have W := GoesN.enumFrom (prog := X.prog) (w := X.w) (A := X.A) (elts := elts) (x1 := kk) (pos := tpos) 0 (draws_k (k := k) (prog := X.prog) (w := X.w) (A := X.A.in1) (I.ok.hd hc) hait its.toArray) e hne (by simp [hne, hae]) (by simp)
    have hil : i < its.toArray.size := by
      have := (List.getElem?_eq_some_iff.mp hu).1
      simpa using this
    refine W.goes i s _ E hil ⟨⟨old, by rw [Int.zero_add]; exact he⟩, hi, co⟩ fun v h' tk hY st' hk _ => ?_
    obtain ⟨T, t, y, rfl, hT, hy, hTT⟩ := hY
    have hyu : y = u := by
      rw [List.getElem?_toArray, hu] at hy
      exact (Option.some.inj hy).symm
    subst hyu
    have I1 : Inv X pins σ (upd H T (.tup [.int (i : Nat), x])) { s with heap := h', toks := tk } :=
      I.turnedNew (t' := tk) (ch := [e, it]) (fun c o hcn q => hk c o hcn q) (fun b hb => hf b hb) hT ⟨by show 2 ≤ sizeLine; decide, _, .cons ⟨t, rfl⟩ (.cons ru .nil), by rw [Int.zero_add] at hTT; exact hTT⟩
    obtain ⟨⟨old', he'⟩, hi', _⟩ := st'
    rw [Int.zero_add] at he'
    refine ⟨.ref T, _, I1, rfl, ⟨T, x, rfl, I.hok.fresh hT, rfl, fun ys hys => by rw [sq_inj I hys hq]; exact hx⟩, ⟨⟨old', he'⟩, hi', hne⟩, fun b hb => ?_⟩
    have hbl : b < s.heap.objs.size := by
      rcases List.mem_cons.mp hb with rfl | hb
      · exact Heap.lt_size he
      · rw [List.mem_singleton.mp hb]
        obtain ⟨o, q, _⟩ := it_obj hi
        exact Heap.lt_size q
    rw [upd_ne (Nat.ne_of_lt (Nat.lt_of_lt_of_le hbl hT))]
    exact (hf b hb).1
  done := by
    intro X hP hw hK hc i pins s σ H E I hf st hg
    subst hP hw hK
    obtain ⟨⟨old, he⟩, hi, hne⟩ := st
    obtain ⟨xs, hq, hx⟩ := hg
    obtain ⟨its, rv, co, hz⟩ := sq_inv I hq
    have W := GoesN.enumFrom (prog := X.prog) (w := X.w) (A := X.A) (elts := elts) (x1 := kk) (pos := tpos) 0 (draws_k (k := k) (prog := X.prog) (w := X.w) (A := X.A.in1) (I.ok.hd hc) (it_ne hi co) its.toArray) e hne (by simp [hne, (co_ne he rfl co : e ≠ a)]) (by simp)
    have hn : its.toArray.size = i := by rw [List.size_toArray, ← rv.length]; exact hx
    refine W.stops s (fun s1 => Inv X pins σ H s1) E (by rw [hn]; exact ⟨⟨old, by rw [Int.zero_add]; exact he⟩, hi, co⟩) fun h' tk hk _ => I.turnedL (ch := [e, it]) (fun c o hcn q => hk c o hcn q) hf
  self := fun A i s Q E st h => let ⟨⟨_, he⟩, _⟩ := st; wpAny_pyIter_enum he h
def iEx (k : Kq) (K : PySem.W.Frag) (ta : TA) : TI := fun σ H R => ta σ H fun vs H1 => ∃ a xs, vs = [.ref a] ∧ sqK k K H1 a xs ∧ R (Iex k K a) H1
theorem pi_ex {X : Cx} {k : Kq} {e : Expr} {ta : TA} {p pos tpos : Pos} {elts : List Expr} {kk : Nat} (hg : Gl X "enumerate") (hm : X.mg "enumerate" = none) (ha : PA X [e] ta) (hs : starEach [e] X.env = [(false, eval e X.env)]) :
    PI X (.Tuple elts kk tpos) (.Call (.Name "enumerate" p) [e] [] pos) (iEx k X.K ta) := by
  refine ⟨fun pins s σ H R I h => ?_⟩
  refine Call_ (ld_blt I hg hm boot_enumerate (PyProof.Rows.callWith_type1 (thn (ha.run pos pins s σ H _ I h) fun us s1 ⟨vs, H1, I1, r1, q1⟩ => ?_) hs rfl))
  obtain ⟨a, xs, ex, hq, q⟩ := q1
  subst ex
  cases r1 with
  | cons r rr =>
    cases rr
    cases r
    obtain ⟨its, rv, co, hz⟩ := sq_inv I1 hq
    refine enum_begin1 (begins_k k a its.toArray) co fun h' he ho hk => wpAny_pyIter_enum he ?_
    have I2 : Inv X pins σ H1 { s1 with heap := h' } := I1.kept (t' := s1.toks) hk
    refine ⟨s1.heap.objs.size + 1, [s1.heap.objs.size + 1, s1.heap.objs.size], _, _, H1, rfl, I2, turn_ex (k := k) (a := a), ⟨⟨.none, he⟩, it_of ho, Nat.succ_ne_self _⟩, fun b hb => ?_, q⟩
    have hle : s1.heap.objs.size ≤ b := by
      rcases List.mem_cons.mp hb with z | z
      · rw [z]; exact Nat.le_add_right _ _
      · rw [List.mem_singleton.mp z]; exact Nat.le_refl _
    exact I1.fpOk hle (I1.hok.fresh hle)
/-! ### zip of two -/
def Iz2 (k l : Kq) (K : PySem.W.Frag) (a b : Addr) : It :=
  ⟨fun i H => ∃ (xs ys : List V) (x y : V), sqK k K H a xs ∧ sqK l K H b ys ∧ xs[i]? = some x ∧ ys[i]? = some y,
    fun i H v H' => ∃ T x y, v = .ref T ∧ H T = none ∧ H' = upd H T (.tup [x, y]) ∧ (∀ xs, sqK k K H a xs → xs[i]? = some x) ∧ ∀ ys, sqK l K H b ys → ys[i]? = some y,
    fun i H => ∃ xs ys : List V, sqK k K H a xs ∧ sqK l K H b ys ∧ min xs.length ys.length = i⟩
/-- a zip's cells -/
def ZSt2 (k l : Kq) (N : Addr) (a b : Addr) (i : Nat) (h : Heap) : Prop :=
  IsZip h (N + 4) (N + 2) (N + 3) .none ∧ IsTupOf2 h (N + 2) (.ref N) (.ref (N + 1)) ∧ (∃ a1 a2, IsTupOf2 h (N + 3) a1 a2) ∧ itK k h N a i ∧ itK l h (N + 1) b i ∧ a < N ∧ b < N
theorem lt5 {N T S c : Nat} (h : N + 4 < S) (h2 : S ≤ T) (hc : c = N + 4 ∨ c = N + 2 ∨ c = N + 3 ∨ c = N ∨ c = N + 1) : c < T := by omega
theorem turn_z2 {P : Program} {w : World} {K : PySem.W.Frag} {elts : List Expr} {kk : Nat} {tpos : Pos} {k l : Kq} {a b N : Addr} :
    Turn P w K (.Tuple elts kk tpos) (Iz2 k l K a b) [N + 4, N + 2, N + 3, N, N + 1] (N + 4) (ZSt2 k l N a b) where
  mem := by simp
  obj := fun i h st c hc => by
    obtain ⟨hz, hTI, ⟨x, y, hTO⟩, h1, h2, _⟩ := st
    simp only [List.mem_cons, List.not_mem_nil, or_false] at hc
    rcases hc with rfl | rfl | rfl | rfl | rfl
    · exact ⟨_, hz, fun v q => nomatch q⟩
    · exact ⟨_, hTI, fun v q => nomatch q⟩
    · exact ⟨_, hTO, fun v q => nomatch q⟩
    · exact it_obj h1
    · exact it_obj h2
  keep := fun i h h' st kp => by
    obtain ⟨hz, hTI, ⟨x, y, hTO⟩, h1, h2, l1, l2⟩ := st
    exact ⟨kp _ (by simp) _ hz, kp _ (by simp) _ hTI, ⟨x, y, kp _ (by simp) _ hTO⟩, it_keep h1 (fun o q => kp _ (by simp) o q), it_keep h2 (fun o q => kp _ (by simp) o q), l1, l2⟩
  item := by
    intro X hP hw hK hc i pins s σ H E I hf st hg
    subst hP hw hK
    obtain ⟨hz, hTI, ⟨a1, a2, hTO⟩, h1, h2, l1, l2⟩ := st
    obtain ⟨xs, ys, x, y, hq, hq', hx, hy⟩ := hg
    obtain ⟨its, rv, co, _⟩ := sq_inv I hq
    obtain ⟨its2, rv2, co2, _⟩ := sq_inv I hq'
    obtain ⟨u, hu, ru⟩ := rv.get hx
    obtain ⟨u2, hu2, ru2⟩ := rv2.get hy
    have sep : ZipSep2 (N + 4) (N + 2) (N + 3) N (N + 1) [N, a] [N + 1, b] :=
      zip_sep2 (fp1 := [a]) (fp2 := [b]) (fun c hc => by rw [List.mem_singleton.mp hc]; exact l1) (fun c hc => by rw [List.mem_singleton.mp hc]; exact l2)
    have W := GoesN.zip2 (prog := X.prog) (w := X.w) (A := X.A) (elts := elts) (x1 := kk) (pos := tpos) sep (draws_k (k := k) (prog := X.prog) (w := X.w) (A := X.A.in1) (I.ok.hd hc) (it_ne h1 co) its.toArray) (draws_k (k := l) (prog := X.prog) (w := X.w) (A := X.A.in1) (I.ok.hd hc) (it_ne h2 co2) its2.toArray)
    have b1 := (List.getElem?_eq_some_iff.mp hu).1
    have b2 := (List.getElem?_eq_some_iff.mp hu2).1
    have hil : i < min its.toArray.size its2.toArray.size := by simp only [List.size_toArray]; omega
    refine W.goes i s _ E hil ⟨hz, hTI, ⟨a1, a2, hTO⟩, ⟨h1, co⟩, ⟨h2, co2⟩⟩ fun v h' tk hY st' hk _ => ?_
    obtain ⟨T, y1, y2, rfl, hT, hy1, hy2, hTT⟩ := hY
    have e1 : y1 = u := by
      rw [List.getElem?_toArray, hu] at hy1
      exact (Option.some.inj hy1).symm
    have e2 : y2 = u2 := by
      rw [List.getElem?_toArray, hu2] at hy2
      exact (Option.some.inj hy2).symm
    subst e1 e2
    have sub : ∀ c, c ∈ [N + 4, N + 3, N, N + 1] → c ∈ [N + 4, N + 2, N + 3, N, N + 1] := fun c hc => by
      simp only [List.mem_cons, List.not_mem_nil, or_false] at hc ⊢
      rcases hc with z | z | z | z <;> simp [z]
    have I1 : Inv X pins σ (upd H T (.tup [x, y])) { s with heap := h', toks := tk } :=
      I.turnedNew (t' := tk) (ch := [N + 4, N + 3, N, N + 1]) (fun c o hcn q => hk c o hcn q) (fun c hc => hf c (sub c hc)) hT ⟨by show 2 ≤ sizeLine; decide, _, .cons ru (.cons ru2 .nil), hTT⟩
    obtain ⟨hz', hTI', hTO', ⟨h1', _⟩, ⟨h2', _⟩⟩ := st'
    refine ⟨.ref T, _, I1, rfl, ⟨T, x, y, rfl, I.hok.fresh hT, rfl, fun zs hzs => by rw [sq_inj I hzs hq]; exact hx, fun zs hzs => by rw [sq_inj I hzs hq']; exact hy⟩, ⟨hz', hTI', hTO', h1', h2', l1, l2⟩, fun c hc => ?_⟩
    have hzl : N + 4 < s.heap.objs.size := Heap.lt_size hz
    have hcl : c < T := lt5 hzl hT (by simpa only [List.mem_cons, List.not_mem_nil, or_false] using hc)
    rw [upd_ne (Nat.ne_of_lt hcl)]
    exact (hf c hc).1
  done := by
    intro X hP hw hK hc i pins s σ H E I hf st hg
    subst hP hw hK
    obtain ⟨hz, hTI, ⟨a1, a2, hTO⟩, h1, h2, l1, l2⟩ := st
    obtain ⟨xs, ys, hq, hq', hn⟩ := hg
    obtain ⟨its, rv, co, _⟩ := sq_inv I hq
    obtain ⟨its2, rv2, co2, _⟩ := sq_inv I hq'
    have sep : ZipSep2 (N + 4) (N + 2) (N + 3) N (N + 1) [N, a] [N + 1, b] :=
      zip_sep2 (fp1 := [a]) (fp2 := [b]) (fun c hc => by rw [List.mem_singleton.mp hc]; exact l1) (fun c hc => by rw [List.mem_singleton.mp hc]; exact l2)
    have W := GoesN.zip2 (prog := X.prog) (w := X.w) (A := X.A) (elts := elts) (x1 := kk) (pos := tpos) sep (draws_k (k := k) (prog := X.prog) (w := X.w) (A := X.A.in1) (I.ok.hd hc) (it_ne h1 co) its.toArray) (draws_k (k := l) (prog := X.prog) (w := X.w) (A := X.A.in1) (I.ok.hd hc) (it_ne h2 co2) its2.toArray)
    have en : min its.toArray.size its2.toArray.size = i := by rw [List.size_toArray, List.size_toArray, ← rv.length, ← rv2.length]; exact hn
    have sub : ∀ c, c ∈ [N + 4, N + 3, N, N + 1] → c ∈ [N + 4, N + 2, N + 3, N, N + 1] := fun c hc => by
      simp only [List.mem_cons, List.not_mem_nil, or_false] at hc ⊢
      rcases hc with z | z | z | z <;> simp [z]
    exact W.stops s (fun s1 => Inv X pins σ H s1) E (by rw [en]; exact ⟨hz, hTI, ⟨a1, a2, hTO⟩, ⟨h1, co⟩, ⟨h2, co2⟩⟩) fun h' tk hk _ => I.turnedL (ch := [N + 4, N + 3, N, N + 1]) (fun c o hcn q => hk c o hcn q) fun c hc => hf c (sub c hc)
  self := fun A i s Q E st h => wpAny_pyIter_zip st.1 h
def iZ2 (k l : Kq) (K : PySem.W.Frag) (ta : TA) : TI := fun σ H R => ta σ H fun vs H1 => ∃ a b xs ys, vs = [.ref a, .ref b] ∧ sqK k K H1 a xs ∧ sqK l K H1 b ys ∧ R (Iz2 k l K a b) H1
theorem pi_z2 {X : Cx} {k l : Kq} {e e2 : Expr} {ta : TA} {p pos tpos : Pos} {elts : List Expr} {kk : Nat} (hg : Gl X "zip") (hm : X.mg "zip" = none) (ha : PA X [e, e2] ta)
    (hs : starEach [e, e2] X.env = (false, eval e X.env) :: starEach [e2] X.env) (hpl : (backTo pos (starEach [e2] X.env)).any (·.1) = false) :
    PI X (.Tuple elts kk tpos) (.Call (.Name "zip" p) [e, e2] [] pos) (iZ2 k l X.K ta) := by
  refine ⟨fun pins s σ H R I h => ?_⟩
  refine Call_ (ld_blt I hg hm PyProof.Rows.boot_zip (PyProof.Rows.callWith_type1 (thn (ha.run pos pins s σ H _ I h) fun us s1 ⟨vs, H1, I1, r1, q1⟩ => ?_) hs hpl))
  obtain ⟨a, b, xs, ys, ex, hq, hq', q⟩ := q1
  subst ex
  cases r1 with
  | cons r rr =>
    cases rr with
    | cons r' rr =>
      cases rr
      cases r
      cases r'
      obtain ⟨its, rv, co, _⟩ := sq_inv I1 hq
      obtain ⟨its2, rv2, co2, _⟩ := sq_inv I1 hq'
      refine zip_begins2 (begins_k k a its.toArray) (begins_k l b its2.toArray) co co2 fun h' hz hTI hTO h1 h2 hsz hk => wpAny_pyIter_zip hz ?_
      have I2 : Inv X pins σ H1 { s1 with heap := h' } := I1.kept (t' := s1.toks) hk
      refine ⟨s1.heap.objs.size + 4, [s1.heap.objs.size + 4, s1.heap.objs.size + 2, s1.heap.objs.size + 3, s1.heap.objs.size, s1.heap.objs.size + 1], _, _, H1, rfl, I2, turn_z2 (k := k) (l := l) (a := a) (b := b), ⟨hz, hTI, ⟨_, _, hTO⟩, it_of h1, it_of h2, co_lt co, co_lt co2⟩, fun c hcm => ?_, q⟩
      have hle : s1.heap.objs.size ≤ c := by
        simp only [List.mem_cons, List.not_mem_nil, or_false] at hcm
        rcases hcm with z | z | z | z | z
        · rw [z]; exact Nat.le_add_right _ _
        · rw [z]; exact Nat.le_add_right _ _
        · rw [z]; exact Nat.le_add_right _ _
        · rw [z]; exact Nat.le_refl _
        · rw [z]; exact Nat.le_add_right _ _
      exact I1.fpOk hle (I1.hok.fresh hle)
end Mw

set_option Elab.async false
set_option linter.all false
set_option autoImplicit false
set_option maxRecDepth 100000
/-! PyC4: targets, sources, comprehensions. -/
namespace Mw
open PySem PySem.Spec PyProof.Rows L2

/-- tuples and locked things stay -/
def KeepT (H H' : Hp) : Prop := ∀ b, (∀ xs, H b = some (.tup xs) → H' b = some (.tup xs)) ∧ ∀ o u, H b = some (.frz o u) → H' b = some (.frz o u)
section
variable {K : PySem.W.Frag} {β β' : List Addr} {st : Sto} {H H' H0 : Hp}
theorem KeepT.upd {a : Addr} {us : List V} {o : HO} (h : H a = some (.lst us)) : KeepT H (L2.upd H a o) := fun b =>
  ⟨fun xs e => by rw [upd_ne fun z => by rw [z, h] at e; cases e]; exact e, fun o u e => by rw [upd_ne fun z => by rw [z, h] at e; cases e]; exact e⟩
theorem SqT.keepT {a : Addr} {vs : List V} (k : KeepT H H') (h : SqT K H a vs) : SqT K H' a vs := by
  rcases h with (h | ⟨o, h⟩) | h
  · exact .inl (.inl ((k a).1 _ h))
  · exact .inl (.inr ⟨o, (k a).2 _ _ h⟩)
  · exact .inr h
theorem SqU.keepT {a : Addr} {vs : List V} (k : KeepT H H') (h : SqU K H a vs) : SqU K H' a vs := by
  rcases h with h | ⟨h, q⟩
  · exact .inl ((k a).1 _ h)
  · exact .inr ⟨SqT.keepT k h, q⟩
theorem SqF.keepT {a : Addr} {vs : List V} (k : KeepT H H') (h : SqF K H a vs) : SqF K H' a vs := by
  rcases h with ⟨o, h⟩ | h
  · exact .inl ⟨o, (k a).2 _ _ h⟩
  · exact .inr h
mutual
theorem Rep.keepT (k : KeepT H H') : ∀ (d : D) (v : V), Rep K β H d v → Rep K β H' d v
  | .non, _, h => h
  | .bl _, _, h => h
  | .int _, _, h => h
  | .str _, _, h => h
  | .tup xs, v, h => by obtain ⟨a, vs, e1, h1, h2⟩ := h; exact ⟨a, vs, e1, SqU.keepT k h1, RepL.keepT k xs vs h2⟩
  | .rol xs, v, h => by obtain ⟨a, vs, e1, h1, h2⟩ := h; exact ⟨a, vs, e1, SqF.keepT k h1, RepL.keepT k xs vs h2⟩
  | .ref n, v, h => h
theorem RepL.keepT (k : KeepT H H') : ∀ (ds : List D) (vs : List V), RepL K β H ds vs → RepL K β H' ds vs
  | [], _, h => h
  | x :: xs, vs, h => by obtain ⟨v, r, e1, h1, h2⟩ := h; exact ⟨v, r, e1, Rep.keepT k x v h1, RepL.keepT k xs r h2⟩
end
theorem Sim.keepT (s : Sim K β st H) (k : KeepT H H') (ha : ∀ a ∈ β, H' a = H a) : Sim K β st H' :=
  ⟨s.len, s.nd, fun n a o h1 h2 => by
    have q := s.obj n a o h1 h2
    cases o with
    | lst xs => obtain ⟨vs, q1, q2⟩ := q; exact ⟨vs, (ha a (List.mem_of_getElem? h1)).trans q1, RepL.keepT k _ _ q2⟩
    | dic lk kvs => obtain ⟨ks, q1, q2, q3⟩ := q; exact ⟨ks, by rw [ha a (List.mem_of_getElem? h1)]; exact q1, q2, RepL.keepT k _ _ q3⟩
    | dit lk kvs => obtain ⟨ks, q1, q2, q3⟩ := q; exact ⟨ks, by rw [ha a (List.mem_of_getElem? h1)]; exact q1, q2, RepL.keepT k _ _ q3⟩
    | ins _ _ => exact q.elim⟩
theorem EnvR.keepT (k : KeepT H H') {ρ : Env} {σ : L2.St} (h : EnvR K β H ρ σ) : EnvR K β H' ρ σ :=
  ⟨h.1, fun i d hi => let ⟨v, h1, h2⟩ := h.2 i d hi; ⟨v, h1, Rep.keepT k d v h2⟩⟩
end
/-! ### targets -/
mutual
def slotsT : Tgt → List Nat
  | .nm i => [i]
  | .tp ts => slotsTs ts
def slotsTs : Tgts → List Nat
  | .nil => []
  | .cons t ts => slotsT t ++ slotsTs ts
end
/-- only these slots may have changed -/
def OnlyAt (σ σ' : L2.St) (l : List Nat) : Prop := σ'.length = σ.length ∧ ∀ j, j ∉ l → σ'[j]? = σ[j]?
theorem OnlyAt.refl {σ : L2.St} {l : List Nat} : OnlyAt σ σ l := ⟨rfl, fun _ _ => rfl⟩
theorem OnlyAt.trans {σ σ1 σ2 : L2.St} {l l1 l2 : List Nat} (a : OnlyAt σ σ1 l1) (b : OnlyAt σ1 σ2 l2) (h1 : ∀ j ∈ l1, j ∈ l) (h2 : ∀ j ∈ l2, j ∈ l) : OnlyAt σ σ2 l :=
  ⟨b.1.trans a.1, fun j hj => (b.2 j fun z => hj (h2 j z)).trans (a.2 j fun z => hj (h1 j z))⟩
theorem wipe_get (σ : L2.St) (j : Nat) : ∀ vs : List Nat, (wipe σ vs)[j]? = if j ∈ vs then (if j < σ.length then some none else none) else σ[j]?
  | [] => by simp [wipe]
  | v :: vs => by
    have ih := wipe_get σ j vs
    have hl := wipe_length σ vs
    unfold wipe
    by_cases hv : v = j
    · subst hv
      by_cases hj : v < σ.length
      · rw [List.getElem?_set_self (by rw [hl]; exact hj)]; simp [hj]
      · rw [List.getElem?_eq_none (by simp; omega)]; simp [hj]
    · rw [List.getElem?_set_ne hv, ih]
      have : (j ∈ v :: vs) ↔ j ∈ vs := by simp [Ne.symm hv]
      simp only [this]
theorem wipe_only {σ σ' : L2.St} {l vs : List Nat} (h : OnlyAt σ σ' l) (hs : ∀ j ∈ l, j ∈ vs) : wipe σ' vs = wipe σ vs := by
  refine List.ext_getElem? fun j => ?_
  rw [wipe_get, wipe_get, h.1]
  split
  · rfl
  · rename_i hj
    exact h.2 j fun z => hj (hs j z)
theorem wipe_twice (σ : L2.St) (vs : List Nat) : wipe (wipe σ vs) vs = wipe σ vs := by
  refine List.ext_getElem? fun j => ?_
  rw [wipe_get, wipe_get, wipe_length]
  split <;> simp_all
theorem wipeD_get (ρ : Env) (j : Nat) : ∀ vs : List Nat, (wipeD ρ vs)[j]? = if j ∈ vs then (if j < ρ.length then some none else none) else ρ[j]?
  | [] => by simp [wipeD]
  | v :: vs => by
    have ih := wipeD_get ρ j vs
    have hl : (wipeD ρ vs).length = ρ.length := by
      have : ∀ ws : List Nat, (wipeD ρ ws).length = ρ.length := fun ws => by
        induction ws with
        | nil => rfl
        | cons w ws ih => simp [wipeD, ih]
      exact this vs
    unfold wipeD
    by_cases hv : v = j
    · subst hv
      by_cases hj : v < ρ.length
      · rw [List.getElem?_set_self (by rw [hl]; exact hj)]; simp [hj]
      · rw [List.getElem?_eq_none (by simp; omega)]; simp [hj]
    · rw [List.getElem?_set_ne hv, ih]
      have : (j ∈ v :: vs) ↔ j ∈ vs := by simp [Ne.symm hv]
      simp only [this]
theorem wipeD_length (ρ : Env) : ∀ vs : List Nat, (wipeD ρ vs).length = ρ.length
  | [] => rfl
  | v :: vs => by simp [wipeD, wipeD_length ρ vs]
theorem EnvR.wipe {K : PySem.W.Frag} {β : List Addr} {H : Hp} {ρ : Env} {σ : L2.St} (h : EnvR K β H ρ σ) (vs : List Nat) : EnvR K β H (wipeD ρ vs) (L2.wipe σ vs) := by
  refine ⟨by rw [wipeD_length, wipe_length]; exact h.1, fun i d hi => ?_⟩
  rw [wipeD_get] at hi
  rw [wipe_get]
  split at hi
  · split at hi <;> cases hi
  · rename_i hn
    rw [if_neg hn]
    exact h.2 i d hi
def tTg (K : PySem.W.Frag) (t : Tgt) : TG := fun v σ H Q =>
  ∃ β d ρ ρ', Rep K β H d v ∧ EnvR K β H ρ σ ∧ setT t d ρ = some ρ' ∧ ∀ σ', EnvR K β H ρ' σ' → OnlyAt σ σ' (slotsT t) → Q σ' H
def tTgs (K : PySem.W.Frag) (ts : Tgts) : TGs := fun vs σ H Q =>
  ∃ β ds ρ ρ', RepL K β H ds vs ∧ EnvR K β H ρ σ ∧ setTs ts ds ρ = some ρ' ∧ ∀ σ', EnvR K β H ρ' σ' → OnlyAt σ σ' (slotsTs ts) → Q σ' H
section
variable {X : Cx} {C : Call} {K : PySem.W.Frag}
theorem PG.imp {e : Expr} {t t' : TG} (h : PG X e t) (i : ∀ v σ H Q, t' v σ H Q → t v σ H Q) : PG X e t' := ⟨fun pins s σ H v u Q I r hw => h.run pins s σ H v u Q I r (i v σ H Q hw)⟩
theorem PGs.imp {e : List Expr} {t t' : TGs} (h : PGs X e t) (i : ∀ v σ H Q, t' v σ H Q → t v σ H Q) : PGs X e t' := ⟨fun pins s σ H v u Q I r hw => h.run pins s σ H v u Q I r (i v σ H Q hw)⟩
theorem g_nm {i : Nat} {x : Str} {pos : Pos} (hN : X.N.Nodup) (hi : X.N[i]? = some x) (hx : Loc X.env.scope x) (hf : X.fn x = true ∨ X.env.scope.names.lookup x = some .local) : PG X (.Name x pos) (tTg X.K (.nm i)) :=
  PG.imp (pg_name hN hi hx hf) fun v σ H Q ⟨β, d, ρ, ρ', r, en, e, q⟩ => by
    simp only [setT, Option.some.injEq] at e
    subst e
    exact q _ (en.set r) ⟨by simp, fun j hj => by rw [List.getElem?_set_ne (fun z => hj (by simp [slotsT, z]))]⟩
theorem asg_plain {e : Expr} {es : List Expr} {env : PySem.Env} (h : plainE e = true) : assignEach (e :: es) env = (false, assign e env) :: assignEach es env := by
  cases e <;> first | rfl | (cases h)
theorem asg_len : ∀ {es : List Expr} {env : PySem.Env}, es.all plainE = true → (assignEach es env).length = es.length ∧ (assignEach es env).findIdx? (·.1) = none
  | [], _, _ => ⟨rfl, rfl⟩
  | e :: es, env, h => by
    rw [List.all_cons, Bool.and_eq_true] at h
    obtain ⟨h1, h2⟩ := asg_len (env := env) h.2
    rw [asg_plain h.1]
    refine ⟨by simp [h1], ?_⟩
    rw [List.findIdx?_cons]
    simp [h2]
theorem g_nil : PGs X [] (tTgs X.K .nil) := PGs.imp pgs_nil fun v σ H Q ⟨β, ds, ρ, ρ', r, en, e, q⟩ => by
  simp only [setTs] at e
  split at e
  · simp only [Option.some.injEq] at e
    subst e
    exact ⟨r, q σ en OnlyAt.refl⟩
  · cases e
theorem g_cons {e : Expr} {es : List Expr} {t : Tgt} {ts : Tgts} (hp : plainE e = true) (h1 : PG X e (tTg X.K t)) (h2 : PGs X es (tTgs X.K ts)) : PGs X (e :: es) (tTgs X.K (.cons t ts)) :=
  PGs.imp (pgs_cons h1 h2 (by rw [asg_plain hp]; rfl)) fun v σ H Q ⟨β, ds, ρ, ρ', r, en, e, q⟩ => by
    simp only [setTs] at e
    split at e
    · rename_i d rest
      split at e
      · rename_i ρ1 e1
        obtain ⟨v, w, rfl, r1, r2⟩ := r
        refine ⟨v, w, rfl, β, d, ρ, ρ1, r1, en, e1, fun σ1 en1 o1 => ⟨β, rest, ρ1, ρ', r2, en1, e, fun σ2 en2 o2 => ?_⟩⟩
        exact q σ2 en2 (o1.trans o2 (fun j hj => by simp [slotsTs, hj]) fun j hj => by simp [slotsTs, hj])
      · cases e
    · cases e
def lenTs : Tgts → Nat
  | .nil => 0
  | .cons _ ts => lenTs ts + 1
theorem setTs_length : ∀ {ts : Tgts} {ds : List D} {ρ ρ' : Env}, setTs ts ds ρ = some ρ' → ds.length = lenTs ts
  | .nil, ds, ρ, ρ', e => by
    simp only [setTs] at e
    split at e
    · rfl
    · cases e
  | .cons t ts, ds, ρ, ρ', e => by
    simp only [setTs] at e
    split at e
    · split at e
      · simp [lenTs, setTs_length e]
      · cases e
    · cases e
theorem g_tp {es : List Expr} {k : Nat} {pos : Pos} {ts : Tgts} (hc : X.calm = true) (h : PGs X es (tTgs X.K ts)) (hp : es.all plainE = true) (hl : es.length = lenTs ts) : PG X (.Tuple es k pos) (tTg X.K (.tp ts)) :=
  PG.imp (pg_tup (n := es.length) hc h (asg_len hp).1 (asg_len hp).2) fun v σ H Q ⟨β, d, ρ, ρ', r, en, e, q⟩ => by
    simp only [setT] at e
    split at e
    · rename_i xs
      obtain ⟨a, vs, rfl, r1, r2⟩ := r
      refine ⟨a, vs, rfl, r1.sq, ?_, β, xs, ρ, ρ', r2, en, e, fun σ' en' o => q σ' en' o⟩
      rw [← r2.length, setTs_length e, hl]
    · cases e
/-! ### sources -/
structure ItOk (K : PySem.W.Frag) (β : List Addr) (H : Hp) (v : SV) (J : It) : Prop where
  turn : ∀ β2 st2 H2, Ext β H β2 H2 → Sim K β2 st2 H2 → chk v.ws st2 = true → ∀ (i : Nat) d, v.xs[i]? = some d → J.go i H2 ∧ ∀ x H3, J.yld i H2 x H3 → Ext β2 H2 β2 H3 ∧ Sim K β2 st2 H3 ∧ Rep K β2 H3 d x
  stop : ∀ β2 st2 H2, Ext β H β2 H2 → Sim K β2 st2 H2 → chk v.ws st2 = true → J.stop v.xs.length H2
  len : v.big = false → v.xs.length ≤ sizeLine
def tS (K : PySem.W.Frag) (C : Call) (c : Src) : TI := fun σ H R =>
  ∃ β st ρ v st', Sim K β st H ∧ EnvR K β H ρ σ ∧ evS C c ρ st = some (v, st') ∧ ∀ β' H' J, Ext β H β' H' → Sim K β' st' H' → ItOk K β' H' v J → R J H'
theorem PI.imp {tg e : Expr} {t t' : TI} (h : PI X tg e t) (i : ∀ σ H R, t' σ H R → t σ H R) : PI X tg e t' := ⟨fun pins s σ H R I hw => h.run pins s σ H R I (i σ H R hw)⟩
theorem PI.or {tg e : Expr} {t t' : TI} (h : PI X tg e t) (h' : PI X tg e t') : PI X tg e (fun σ H R => t σ H R ∨ t' σ H R) := ⟨fun pins s σ H R I hw => hw.elim (h.run pins s σ H R I) (h'.run pins s σ H R I)⟩
/-- lists and tuples that stand are no longer than the line -/
def Lens (K : PySem.W.Frag) (H : Hp) : Prop := ∀ k a xs, sqK k K H a xs → xs.length ≤ sizeLine
theorem PI.len {tg e : Expr} {t : TI} (h : PI X tg e t) : PI X tg e (fun σ H R => t σ H fun J H' => Lens X.K H' → R J H') := ⟨fun pins s σ H R I hw => by
  refine thn (h.run pins s σ H _ I hw) fun v s1 h1 => thn h1 fun itv s2 h2 => ?_
  obtain ⟨it, fp, tn, J, H', e, I2, T, st2, f2, r⟩ := h2
  exact ⟨it, fp, tn, J, H', e, I2, T, st2, f2, r fun k a xs hq => by obtain ⟨_, _, _, hz⟩ := sq_inv I2 hq; exact hz⟩⟩
/-- the kind of a walked value -/
def kqOf : RV → Kq
  | .val (.tup _) => .T
  | _ => .L
/-- a list or tuple as a source: where it stands from now on -/
theorem seqSrc {β : List Addr} {st : Sto} {H H0 : Hp} {rx : RV} {x : V} {v : SV} (s : Sim K β st H) (hx : RRep K β H H0 rx x) (e : srcSeq st rx = some v) :
    v.big = false ∧ ∃ a vs, x = .ref a ∧ sqK (kqOf rx) K H a vs ∧ RepL K β H v.xs vs ∧ ∀ β2 st2 H2, Ext β H β2 H2 → Sim K β2 st2 H2 → chk v.ws st2 = true → ∃ vs2, sqK (kqOf rx) K H2 a vs2 ∧ RepL K β2 H2 v.xs vs2 := by
  cases rx with
  | tmp zs =>
    simp only [srcSeq, Option.some.injEq] at e; subst e
    obtain ⟨a, vs, rfl, h1, h2, h3, h4⟩ := hx
    exact ⟨rfl, a, vs, rfl, SqL.of h1, h4, fun β2 st2 H2 x2 s2 _ => ⟨vs, SqL.of (x2.keep a _ h1 h2), RepL.mono s x2 _ _ h4⟩⟩
  | val d =>
    cases d with
    | tup zs =>
      simp only [srcSeq, Option.some.injEq] at e; subst e
      obtain ⟨a, vs, rfl, h1, h2⟩ := hx
      exact ⟨rfl, a, vs, rfl, h1.sq, h2, fun β2 st2 H2 x2 s2 _ => ⟨vs, s.tup x2.keep h1.sq, RepL.mono s x2 _ _ h2⟩⟩
    | rol zs =>
      simp only [srcSeq, Option.some.injEq] at e; subst e
      obtain ⟨a, vs, rfl, h1, h2⟩ := hx
      exact ⟨rfl, a, vs, rfl, h1.sq, h2, fun β2 st2 H2 x2 s2 _ => ⟨vs, (s.fro x2.keep h1).sq, RepL.mono s x2 _ _ h2⟩⟩
    | ref n =>
      simp only [srcSeq] at e
      split at e
      · rename_i zs hz
        simp only [Option.some.injEq] at e; subst e
        obtain ⟨a, h1, rfl⟩ := hx
        obtain ⟨vs, h2, h3⟩ := s.obj n a _ h1 hz
        refine ⟨rfl, a, vs, rfl, SqL.of h2, h3, fun β2 st2 H2 x2 s2 hc => ?_⟩
        simp only [chk, List.all_cons, List.all_nil, Bool.and_true, decide_eq_true_eq] at hc
        obtain ⟨vs2, g2, g3⟩ := s2.obj n a _ (x2.get h1) hc
        exact ⟨vs2, SqL.of g2, g3⟩
      · cases e
    | _ => simp [srcSeq] at e
theorem chk_app {l m : List (Nat × O)} {st : Sto} (h : chk (l ++ m) st = true) : chk l st = true ∧ chk m st = true := by
  simp only [chk, List.all_append, Bool.and_eq_true] at h
  exact h
theorem RepL.at {β : List Addr} {H : Hp} : ∀ {ds : List D} {vs : List V}, RepL K β H ds vs → ∀ {i : Nat} {d : D}, ds[i]? = some d → ∃ v, vs[i]? = some v ∧ Rep K β H d v
  | [], _, _, _, _, e => by simp at e
  | x :: xs, _, ⟨v, r, rfl, h1, h2⟩, 0, d, e => by simp only [List.getElem?_cons_zero, Option.some.injEq] at e; subst e; exact ⟨v, rfl, h1⟩
  | x :: xs, _, ⟨v, r, rfl, h1, h2⟩, i + 1, d, e => by simp only [List.getElem?_cons_succ] at e ⊢; exact RepL.at h2 e

def Itk (k : Kq) (K : PySem.W.Frag) (a : Addr) : It := match k with
  | .L => Itl K a
  | .T => Itt K a
theorem Itk.eq (k : Kq) (K : PySem.W.Frag) (a : Addr) : Itk k K a = ⟨fun i H => ∃ xs x, sqK k K H a xs ∧ xs[i]? = some x, fun i H x H' => H' = H ∧ ∀ xs, sqK k K H a xs → xs[i]? = some x, fun i H => ∃ xs, sqK k K H a xs ∧ xs.length ≤ i⟩ := by
  cases k <;> rfl
/-- what a walk over a standing list or tuple gives -/
def Stn (k : Kq) (K : PySem.W.Frag) (β : List Addr) (H : Hp) (v : SV) (a : Addr) : Prop :=
  ∃ vs, sqK k K H a vs ∧ RepL K β H v.xs vs ∧ ∀ β2 st2 H2, Ext β H β2 H2 → Sim K β2 st2 H2 → chk v.ws st2 = true → ∃ vs2, sqK k K H2 a vs2 ∧ RepL K β2 H2 v.xs vs2
theorem itok_seq {k : Kq} {β : List Addr} {H : Hp} {v : SV} {a : Addr} (h : Stn k K β H v a) (hl : Lens K H) : ItOk K β H v (Itk k K a) := by
  obtain ⟨vs, h1, h2, h3⟩ := h
  rw [Itk.eq]
  refine ⟨fun β2 st2 H2 x2 s2 hc i d hd => ?_, fun β2 st2 H2 x2 s2 hc => ?_, fun _ => by rw [h2.length]; exact hl k a vs h1⟩
  · obtain ⟨vs2, g1, g2⟩ := h3 β2 st2 H2 x2 s2 hc
    obtain ⟨w, hw, rw_⟩ := RepL.at g2 hd
    refine ⟨⟨vs2, w, g1, hw⟩, fun x H3 hy => ?_⟩
    obtain ⟨rfl, hy⟩ := hy
    have := hy vs2 g1
    rw [hw] at this
    cases this
    exact ⟨.refl, s2, rw_⟩
  · obtain ⟨vs2, g1, g2⟩ := h3 β2 st2 H2 x2 s2 hc
    exact ⟨vs2, g1, by rw [g2.length]; exact Nat.le_refl _⟩
theorem s_ex {tg e : Expr} {a : CE} (ha : PE X e (tE X.K C a)) : PI X tg e (tS X.K C (.ex a)) :=
  PI.imp (PI.or (PI.len (pi_list ha)) (PI.or (PI.len (pi_tup ha)) (pi_str ha))) fun σ H R ⟨β, st, ρ, v, st', s, en, e, q⟩ => by
    simp only [evS] at e
    split at e
    · cases e
    rename_i r st1 e1
    simp only [Option.map_eq_some_iff, Prod.mk.injEq] at e
    obtain ⟨w, e2, rfl, rfl⟩ := e
    unfold srcOf at e2
    split at e2
    · rename_i z
      simp only [Option.some.injEq] at e2; subst e2
      refine .inr (.inr (seq1 s en e1 fun v β1 H1 x1 s1 r1 en1 => ⟨z, r1, q β1 H1 _ x1 s1 ⟨fun β2 st2 H2 x2 s2 _ i d hd => ?_, fun β2 st2 H2 x2 s2 _ => ?_, fun hb => by cases hb⟩⟩))
      · simp only [List.getElem?_map, Option.map_eq_some_iff] at hd
        obtain ⟨cc, hcc, rfl⟩ := hd
        have hcc' : z.cps[i]? = some cc := by simpa using hcc
        refine ⟨(Array.getElem?_eq_some_iff.mp hcc').1, fun x H3 hy => ?_⟩
        obtain ⟨rfl, c2, h2, rfl⟩ := hy
        rw [hcc'] at h2
        cases h2
        exact ⟨.refl, s2, rfl⟩
      · show z.cps.size ≤ _
        simp
    · cases hk : kqOf r with
      | L =>
        refine .inl (seq1 s en e1 fun v β1 H1 x1 s1 r1 en1 => ?_)
        obtain ⟨_, a, vs, rfl, h⟩ := seqSrc s1 r1 e2
        rw [hk] at h
        exact ⟨a, rfl, ⟨vs, h.1⟩, fun hl => q β1 H1 _ x1 s1 (itok_seq ⟨vs, h⟩ hl)⟩
      | T =>
        refine .inr (.inl (seq1 s en e1 fun v β1 H1 x1 s1 r1 en1 => ?_))
        obtain ⟨_, a, vs, rfl, h⟩ := seqSrc s1 r1 e2
        rw [hk] at h
        exact ⟨a, rfl, ⟨vs, h.1⟩, fun hl => q β1 H1 _ x1 s1 (itok_seq ⟨vs, h⟩ hl)⟩
/-! ranges -/
theorem s_rngN {β : List Addr} {H : Hp} {lo : Int} {n : Nat} : ItOk K β H ⟨rangeD lo n, [], true⟩ (Itr lo n) :=
  ⟨fun β2 st2 H2 x2 s2 _ i d hd => by
    simp only [rangeD, List.getElem?_map, Option.map_eq_some_iff] at hd
    obtain ⟨j, hj, rfl⟩ := hd
    obtain ⟨hi, hj⟩ := List.getElem?_eq_some_iff.mp hj
    simp only [List.length_range] at hi
    simp only [List.getElem_range] at hj
    subst hj
    exact ⟨hi, fun x H3 hy => by obtain ⟨rfl, rfl⟩ := hy; exact ⟨.refl, s2, rfl⟩⟩,
  fun β2 st2 H2 x2 s2 _ => by simp [rangeD, Itr], fun hb => by cases hb⟩
theorem s_rngC {β : List Addr} {H : Hp} {i : Int} {n : Nat} : ItOk K β H ⟨(List.range n).map fun (k : Nat) => .int (i - (k : Int)), [], true⟩ (Itc i (-1) n) :=
  ⟨fun β2 st2 H2 x2 s2 _ i d hd => by
    simp only [List.getElem?_map, Option.map_eq_some_iff] at hd
    obtain ⟨j, hj, rfl⟩ := hd
    obtain ⟨hi, hj⟩ := List.getElem?_eq_some_iff.mp hj
    simp only [List.length_range] at hi
    simp only [List.getElem_range] at hj
    subst hj
    exact ⟨hi, fun x H3 hy => by obtain ⟨rfl, rfl⟩ := hy; exact ⟨.refl, s2, by show _ = _; congr 1; omega⟩⟩,
  fun β2 st2 H2 x2 s2 _ => by simp [Itc], fun hb => by cases hb⟩
theorem seqR {β : List Addr} {st st1 : Sto} {ρ : Env} {σ : L2.St} {H : Hp} {a : CEs} {x : List RV} (s : Sim K β st H) (en : EnvR K β H ρ σ) (e : evR C a ρ st = some (x, st1)) {P : List V → Hp → Prop}
    (k : ∀ v β1 H1, Ext β H β1 H1 → Sim K β1 st1 H1 → RRepL K β1 H1 H x v → EnvR K β1 H1 ρ σ → P v H1) : tR K C a σ H P :=
  ⟨β, st, ρ, x, st1, s, en, e, fun v β1 H1 e1 s1 r1 => k v β1 H1 e1 s1 r1 (en.mono s e1)⟩
theorem i62_of {j : Int} (h : i62 j = true) : -(2 ^ 62) ≤ j ∧ j < 2 ^ 62 := i62_iff.mp h
end
end Mw

set_option Elab.async false
set_option linter.all false
set_option autoImplicit false
set_option maxRecDepth 100000
/-! PyC5: ranges, enumerate, zip; comprehensions. -/
namespace Mw
open PySem PySem.Spec PyProof.Rows L2
def lenC : CEs → Nat
  | .nil => 0
  | .cons _ es => lenC es + 1
theorem evR_len {C : Call} : ∀ {es : CEs} {ρ : Env} {st st' : Sto} {rs : List RV}, evR C es ρ st = some (rs, st') → rs.length = lenC es
  | .nil, ρ, st, st', rs, e => by
    simp only [evR, Option.some.injEq, Prod.mk.injEq] at e
    rw [← e.1]; rfl
  | .cons c es, ρ, st, st', rs, e => by
    simp only [evR] at e
    split at e
    · cases e
    · split at e
      · cases e
      · rename_i h
        simp only [Option.some.injEq, Prod.mk.injEq] at e
        rw [← e.1, List.length_cons, evR_len h]; rfl
section
variable {X : Cx} {C : Call} {K : PySem.W.Frag}
theorem s_rng1 {tg e : Expr} {es : CEs} {p pos : Pos} (hl : lenC es = 1) (hp : plainE e = true) (hg : Gl X "range") (hm : X.mg "range" = none) (ha : PA X [e] (tR X.K C es)) :
    PI X tg (.Call (.Name "range" p) [e] [] pos) (tS X.K C (.rng es)) :=
  PI.imp (pi_range1 hg hm ha (by rw [star_plain hp]; rfl)) fun σ H R ⟨β, st, ρ, v, st', s, en, e, q⟩ => by
    simp only [evS] at e
    split at e
    · cases e
    rename_i rs st1 e1
    simp only [Option.map_eq_some_iff, Prod.mk.injEq] at e
    obtain ⟨w, e2, rfl, rfl⟩ := e
    have hlr := evR_len e1
    refine seqR s en e1 fun vs β1 H1 x1 s1 r1 en1 => ?_
    unfold rngOf at e2
    split at e2
    · split at e2
      · rename_i j hj
        simp only [Option.some.injEq] at e2; subst e2
        obtain ⟨v, rfl, rv⟩ := one_rep r1
        cases rv
        exact ⟨j, rfl, (i62_of hj).1, (i62_of hj).2, q β1 H1 _ x1 s1 s_rngN⟩
      · cases e2
    · simp [hl] at hlr
    · simp [hl] at hlr
    · cases e2
theorem s_rng2 {tg e e' : Expr} {es : CEs} {p pos : Pos} (hl : lenC es = 2) (hp : plainE e = true) (hp' : plainE e' = true) (hg : Gl X "range") (hm : X.mg "range" = none) (ha : PA X [e, e'] (tR X.K C es)) :
    PI X tg (.Call (.Name "range" p) [e, e'] [] pos) (tS X.K C (.rng es)) :=
  PI.imp (pi_range2 hg hm ha (by rw [star_plain hp, star_plain hp']; rfl) (by rw [star_plain hp']; rfl)) fun σ H R ⟨β, st, ρ, v, st', s, en, e, q⟩ => by
    simp only [evS] at e
    split at e
    · cases e
    rename_i rs st1 e1
    simp only [Option.map_eq_some_iff, Prod.mk.injEq] at e
    obtain ⟨w, e2, rfl, rfl⟩ := e
    have hlr := evR_len e1
    refine seqR s en e1 fun vs β1 H1 x1 s1 r1 en1 => ?_
    unfold rngOf at e2
    split at e2
    · simp [hl] at hlr
    · split at e2
      · rename_i i j hj
        rw [Bool.and_eq_true] at hj
        simp only [Option.some.injEq] at e2; subst e2
        obtain ⟨v, v', rfl, rv, rv'⟩ := two_rep r1
        cases rv
        cases rv'
        exact ⟨i, j, rfl, ⟨(i62_of hj.1).1, (i62_of hj.1).2, (i62_of hj.2).1, (i62_of hj.2).2⟩, q β1 H1 _ x1 s1 s_rngN⟩
      · cases e2
    · simp [hl] at hlr
    · cases e2
theorem s_rng3 {tg e e' e'' : Expr} {es : CEs} {p pos : Pos} (hl : lenC es = 3) (hp : plainE e = true) (hp' : plainE e' = true) (hp'' : plainE e'' = true) (hg : Gl X "range") (hm : X.mg "range" = none) (ha : PA X [e, e', e''] (tR X.K C es)) :
    PI X tg (.Call (.Name "range" p) [e, e', e''] [] pos) (tS X.K C (.rng es)) :=
  PI.imp (pi_range3 hg hm ha (by rw [star_plain hp]) (stars_plain (by simp [hp', hp'']))) fun σ H R ⟨β, st, ρ, v, st', s, en, e, q⟩ => by
    simp only [evS] at e
    split at e
    · cases e
    rename_i rs st1 e1
    simp only [Option.map_eq_some_iff, Prod.mk.injEq] at e
    obtain ⟨w, e2, rfl, rfl⟩ := e
    have hlr := evR_len e1
    refine seqR s en e1 fun vs β1 H1 x1 s1 r1 en1 => ?_
    unfold rngOf at e2
    split at e2
    · simp [hl] at hlr
    · simp [hl] at hlr
    · split at e2
      · rename_i i j hj
        rw [Bool.and_eq_true] at hj
        simp only [Option.some.injEq] at e2; subst e2
        obtain ⟨v, w1, rfl, rv, v', w2, rfl, rv', v'', w3, rfl, rv'', rfl⟩ := r1
        cases rv
        cases rv'
        cases rv''
        exact ⟨i, j, -1, _, rfl, RgC.neg (i62_of hj.1).1 (i62_of hj.1).2 (i62_of hj.2).1 (i62_of hj.2).2, q β1 H1 _ x1 s1 s_rngC⟩
      · cases e2
    · cases e2
/-! enumerate -/
theorem enmD_get : ∀ (k : Nat) (xs : List D) (i : Nat), (enmD k xs)[i]? = (xs[i]?).map fun x => .tup [.int ((k + i : Nat) : Int), x]
  | k, [], i => by simp [enmD]
  | k, x :: xs, 0 => by simp [enmD]
  | k, x :: xs, i + 1 => by
    simp only [enmD, List.getElem?_cons_succ]
    rw [enmD_get (k + 1) xs i]
    have : k + 1 + i = k + (i + 1) := by omega
    rw [this]
theorem enmD_len : ∀ (k : Nat) (xs : List D), (enmD k xs).length = xs.length
  | k, [] => rfl
  | k, x :: xs => by simp [enmD, enmD_len]
theorem itok_ex {k : Kq} {β : List Addr} {H : Hp} {v : SV} {a : Addr} (h : Stn k K β H v a) (hl : Lens K H) : ItOk K β H ⟨enmD 0 v.xs, v.ws, false⟩ (Iex k K a) := by
  obtain ⟨vs, h1, h2, h3⟩ := h
  refine ⟨fun β2 st2 H2 x2 s2 hc i d hd => ?_, fun β2 st2 H2 x2 s2 hc => ?_, fun _ => by simp only [enmD_len]; rw [h2.length]; exact hl k a vs h1⟩
  · obtain ⟨vs2, g1, g2⟩ := h3 β2 st2 H2 x2 s2 hc
    simp only [enmD_get, Option.map_eq_some_iff, Nat.zero_add] at hd
    obtain ⟨d, hd, rfl⟩ := hd
    obtain ⟨w, hw, rw_⟩ := RepL.at g2 hd
    refine ⟨⟨vs2, w, g1, hw⟩, fun x H3 hy => ?_⟩
    obtain ⟨T, x, rfl, hT, rfl, hx⟩ := hy
    have := hx vs2 g1
    rw [hw] at this
    cases this
    exact ⟨.new hT, s2.new hT, _, _, rfl, SqU.of upd_same, (.int (i : Nat)), [_], rfl, rfl, _, [], rfl, Rep.mono s2 (.new hT) _ _ rw_, rfl⟩
  · obtain ⟨vs2, g1, g2⟩ := h3 β2 st2 H2 x2 s2 hc
    exact ⟨vs2, g1, by simp only [enmD_len]; exact g2.length.symm⟩
theorem s_enm {e : Expr} {a : CE} {p pos tpos : Pos} {elts : List Expr} {kk : Nat} (hp : plainE e = true) (hg : Gl X "enumerate") (hm : X.mg "enumerate" = none) (ha : PA X [e] (tR X.K C (.cons a .nil))) :
    PI X (.Tuple elts kk tpos) (.Call (.Name "enumerate" p) [e] [] pos) (tS X.K C (.enm a)) :=
  PI.imp (PI.or (PI.len (pi_ex (k := .L) hg hm ha (by rw [star_plain hp]; rfl))) (PI.len (pi_ex (k := .T) hg hm ha (by rw [star_plain hp]; rfl)))) fun σ H R ⟨β, st, ρ, v, st', s, en, e, q⟩ => by
    simp only [evS] at e
    split at e
    · cases e
    rename_i r st1 e1
    simp only [Option.map_eq_some_iff, Prod.mk.injEq] at e
    obtain ⟨w, e2, rfl, rfl⟩ := e
    have e1' : evR C (.cons a .nil) ρ st = some ([r], st1) := by simp only [evR, e1]
    cases hk : kqOf r with
    | L =>
      refine .inl (seqR s en e1' fun vs β1 H1 x1 s1 r1 en1 => ?_)
      obtain ⟨v, rfl, r2⟩ := one_rep r1
      obtain ⟨_, a, ws, rfl, h⟩ := seqSrc s1 r2 e2
      rw [hk] at h
      exact ⟨a, ws, rfl, h.1, fun hl => q β1 H1 _ x1 s1 (itok_ex ⟨ws, h⟩ hl)⟩
    | T =>
      refine .inr (seqR s en e1' fun vs β1 H1 x1 s1 r1 en1 => ?_)
      obtain ⟨v, rfl, r2⟩ := one_rep r1
      obtain ⟨_, a, ws, rfl, h⟩ := seqSrc s1 r2 e2
      rw [hk] at h
      exact ⟨a, ws, rfl, h.1, fun hl => q β1 H1 _ x1 s1 (itok_ex ⟨ws, h⟩ hl)⟩
/-! zip -/
theorem itok_z2 {k l : Kq} {β : List Addr} {H : Hp} {v w : SV} {a b : Addr} (h : Stn k K β H v a) (h' : Stn l K β H w b) (hl : Lens K H) : ItOk K β H ⟨List.zipWith (fun x y => .tup [x, y]) v.xs w.xs, v.ws ++ w.ws, false⟩ (Iz2 k l K a b) := by
  obtain ⟨vs, h1, h2, h3⟩ := h
  obtain ⟨us, h1', h2', h3'⟩ := h'
  refine ⟨fun β2 st2 H2 x2 s2 hc i d hd => ?_, fun β2 st2 H2 x2 s2 hc => ?_, fun _ => ?_⟩
  · obtain ⟨vs2, g1, g2⟩ := h3 β2 st2 H2 x2 s2 (chk_app hc).1
    obtain ⟨us2, g1', g2'⟩ := h3' β2 st2 H2 x2 s2 (chk_app hc).2
    simp only [List.getElem?_zipWith] at hd
    split at hd
    · rename_i x y hx hy
      simp only [Option.some.injEq] at hd
      subst hd
      obtain ⟨x', hx', rx⟩ := RepL.at g2 hx
      obtain ⟨y', hy', ry⟩ := RepL.at g2' hy
      refine ⟨⟨vs2, us2, x', y', g1, g1', hx', hy'⟩, fun z H3 hz => ?_⟩
      obtain ⟨T, x3, y3, rfl, hT, rfl, ex, ey⟩ := hz
      have e1 := ex vs2 g1
      have e2 := ey us2 g1'
      rw [hx'] at e1
      rw [hy'] at e2
      cases e1
      cases e2
      exact ⟨.new hT, s2.new hT, _, _, rfl, SqU.of upd_same, _, [_], rfl, Rep.mono s2 (.new hT) _ _ rx, _, [], rfl, Rep.mono s2 (.new hT) _ _ ry, rfl⟩
    · cases hd
  · obtain ⟨vs2, g1, g2⟩ := h3 β2 st2 H2 x2 s2 (chk_app hc).1
    obtain ⟨us2, g1', g2'⟩ := h3' β2 st2 H2 x2 s2 (chk_app hc).2
    exact ⟨vs2, us2, g1, g1', by simp only [List.length_zipWith]; rw [g2.length, g2'.length]⟩
  · simp only [List.length_zipWith]
    have := hl k a vs h1
    rw [h2.length]
    omega
theorem Stn.of {β : List Addr} {st : Sto} {H H0 : Hp} {r : RV} {x : V} {v : SV} (s : Sim K β st H) (hx : RRep K β H H0 r x) (e : srcSeq st r = some v) : ∃ a vs, x = .ref a ∧ sqK (kqOf r) K H a vs ∧ Stn (kqOf r) K β H v a :=
  let ⟨_, a, vs, e1, h⟩ := seqSrc s hx e
  ⟨a, vs, e1, h.1, vs, h⟩
theorem s_zp {e e' : Expr} {es : CEs} {p pos tpos : Pos} {elts : List Expr} {kk : Nat} (hl : lenC es = 2) (hp : plainE e = true) (hp' : plainE e' = true) (hg : Gl X "zip") (hm : X.mg "zip" = none) (ha : PA X [e, e'] (tR X.K C es)) :
    PI X (.Tuple elts kk tpos) (.Call (.Name "zip" p) [e, e'] [] pos) (tS X.K C (.zp es)) :=
  have P := fun (k l : Kq) => PI.len (pi_z2 (k := k) (l := l) (p := p) (pos := pos) (tpos := tpos) (elts := elts) (kk := kk) hg hm ha (star_plain hp) (stars_plain (by simp [hp'])))
  PI.imp (PI.or (PI.or (P .L .L) (P .L .T)) (PI.or (P .T .L) (P .T .T))) fun σ H R ⟨β, st, ρ, v, st', s, en, e, q⟩ => by
    simp only [evS] at e
    split at e
    · cases e
    rename_i rs st1 e1
    simp only [Option.map_eq_some_iff, Prod.mk.injEq] at e
    obtain ⟨w, e2, rfl, rfl⟩ := e
    have hlr := evR_len e1
    unfold zpOf at e2
    split at e2
    · rename_i a b
      split at e2
      · rename_i p q' hp hq
        simp only [Option.some.injEq] at e2
        subst e2
        have go : tR X.K C es σ H fun vs H1 => ∃ a' b' xs ys, vs = [.ref a', .ref b'] ∧ sqK (kqOf a) X.K H1 a' xs ∧ sqK (kqOf b) X.K H1 b' ys ∧ (Lens X.K H1 → R (Iz2 (kqOf a) (kqOf b) X.K a' b') H1) := by
          refine seqR s en e1 fun vs β1 H1 x1 s1 r1 en1 => ?_
          obtain ⟨v, v', rfl, rv, rv'⟩ := two_rep r1
          obtain ⟨a', xs, rfl, f1, f2⟩ := Stn.of s1 rv hp
          obtain ⟨b', ys, rfl, g1, g2⟩ := Stn.of s1 rv' hq
          exact ⟨a', b', xs, ys, rfl, f1, g1, fun hz => q β1 H1 _ x1 s1 (itok_z2 f2 g2 hz)⟩
        cases hk : kqOf a <;> cases hk' : kqOf b <;> rw [hk, hk'] at go
        · exact .inl (.inl go)
        · exact .inl (.inr go)
        · exact .inr (.inl go)
        · exact .inr (.inr go)
      · cases e2
    · simp [hl] at hlr
    · cases e2
/-! ### list(range(..)), tuple(range(..)) -/
theorem rgV_rep {β : List Addr} {H : Hp} {n : Int} : RepL K β H (rangeD 0 n.toNat) (rgV 0 n) := by
  unfold rangeD rgV
  rw [show (n - 0).toNat = n.toNat by omega]
  generalize List.range n.toNat = l
  induction l with
  | nil => rfl
  | cons i l ih => exact ⟨_, _, rfl, rfl, ih⟩
theorem los_of {tp : Bool} {x r : RV} (e : losOf tp x = some r) : ∃ j, x = .val (.int j) ∧ RgOk 0 j ∧ r = if tp then .val (.tup (rangeD 0 j.toNat)) else .tmp (rangeD 0 j.toNat) := by
  unfold losOf rngOf at e
  split at e
  · rename_i v hv
    split at hv
    · split at hv
      · rename_i j0 j hj heq
        simp only [Option.some.injEq] at hv; subst hv
        split at e
        · rename_i hs
          simp only [Option.some.injEq] at e
          have h2 := i62_of heq
          have h3 := szOk_le hs
          rw [sizeLine_eq] at h3
          simp only [rangeD, List.length_map, List.length_range] at h3
          simp only [List.cons.injEq, and_true] at hj
          exact ⟨j, hj, ⟨by omega, by omega, h2.1, h2.2, by omega⟩, e.symm⟩
        · cases e
      · cases hv
    · rename_i heq; simp at heq
    · rename_i heq; simp at heq
    · cases hv
  · cases e
theorem e_losL {e : Expr} {a : CE} {p p2 pos pos2 : Pos} (hp : plainE e = true) (hc : X.calm = true) (hg : Gl X "list") (hm : X.mg "list" = none) (hg2 : Gl X "range") (hm2 : X.mg "range" = none) (ha : PE X e (tE X.K C a)) :
    PE X (.Call (.Name "list" p) [.Call (.Name "range" p2) [e] [] pos2] [] pos) (tE X.K C (.los false a)) :=
  PE.imp (pe_listRg hc hg hm (prg_1 hg2 hm2 ha (by rw [star_plain hp]))) fun σ H Q ⟨β, st, ρ, r, st', s, en, h, q⟩ => by
    simp only [ev] at h
    split at h
    · cases h
    rename_i x st1 e1
    simp only [Option.map_eq_some_iff, Prod.mk.injEq] at h
    obtain ⟨z, e3, rfl, rfl⟩ := h
    obtain ⟨j, rfl, hj, rfl⟩ := los_of e3
    refine seq1 s en e1 fun v β1 H1 x1 s1 r1 en1 => ?_
    cases r1
    refine ⟨j, rfl, hj, fun p hp => ?_⟩
    exact q _ β1 _ (x1.trans (Ext.new hp) s1.nd) (s1.new hp) ⟨p, _, rfl, upd_same, s1.off hp, x1.free hp fun hm => s1.off hp (x1.mem hm), RepL.mono s1 (Ext.new hp) _ _ rgV_rep⟩
theorem e_losT {e : Expr} {a : CE} {p p2 pos pos2 : Pos} (hp : plainE e = true) (hc : X.calm = true) (hg : Gl X "tuple") (hm : X.mg "tuple" = none) (hg2 : Gl X "range") (hm2 : X.mg "range" = none) (ha : PE X e (tE X.K C a)) :
    PE X (.Call (.Name "tuple" p) [.Call (.Name "range" p2) [e] [] pos2] [] pos) (tE X.K C (.los true a)) :=
  PE.imp (pe_tupRg hc hg hm (prg_1 hg2 hm2 ha (by rw [star_plain hp]))) fun σ H Q ⟨β, st, ρ, r, st', s, en, h, q⟩ => by
    simp only [ev] at h
    split at h
    · cases h
    rename_i x st1 e1
    simp only [Option.map_eq_some_iff, Prod.mk.injEq] at h
    obtain ⟨z, e3, rfl, rfl⟩ := h
    obtain ⟨j, rfl, hj, rfl⟩ := los_of e3
    refine seq1 s en e1 fun v β1 H1 x1 s1 r1 en1 => ?_
    cases r1
    refine ⟨j, rfl, hj, fun p hp => ?_⟩
    exact q _ β1 _ (x1.trans (Ext.new hp) s1.nd) (s1.new hp) ⟨p, _, rfl, SqU.of upd_same, RepL.mono s1 (Ext.new hp) _ _ rgV_rep⟩
end
end Mw

set_option Elab.async false
set_option linter.all false
set_option autoImplicit false
set_option maxRecDepth 100000
/-! PyC6: comprehensions. -/
namespace Mw
open PySem PySem.Spec PyProof.Rows L2
section
variable {K : PySem.W.Frag} {β β' : List Addr} {st : Sto} {H H' : Hp}
theorem Ext.updFree (e : Ext β H β' H') {p : Addr} {o : HO} (h : H p = none) : Ext β H β' (upd H' p o) :=
  ⟨e.pre, fun b u hb hn => by rw [upd_ne (ne_of_none hb h)]; exact e.keep b u hb hn, fun b o u hb => by rw [upd_ne (ne_of_none hb h)]; exact e.frz b o u hb⟩
theorem Ext.notin (e : Ext β H β' H') {p : Addr} {o : HO} (h : H p = some o) (hn : p ∉ β) : p ∉ β' := fun hm => by
  obtain ⟨new, rfl, hf⟩ := e.pre
  rcases List.mem_append.mp hm with q | q
  · exact hn q
  · rw [hf p q] at h; cases h
theorem PTs.imp {X : Cx} {e : List Expr} {t t' : TT} (h : PTs X e t) (i : ∀ σ H Q, t' σ H Q → t σ H Q) : PTs X e t' := ⟨fun pins s σ H Q I hw => h.run pins s σ H Q I (i σ H Q hw)⟩
end
section
variable {X : Cx} {C : Call}
theorem ts_nil : PTs X [] (tCs X.K C .nil) := PTs.imp pts_nil fun σ H Q ⟨β, st, ρ, b, st', s, en, e, q⟩ => by
  simp only [evC, Option.some.injEq, Prod.mk.injEq] at e
  obtain ⟨rfl, rfl⟩ := e
  exact q β H .refl s
theorem ts_one {c : Expr} {a : CE} (h : PT X c (tT X.K C a)) : PTs X [c] (tCs X.K C (.cons a .nil)) := PTs.imp (pts_one h) fun σ H Q ⟨β, st, ρ, b, st', s, en, e, q⟩ => by
  refine ⟨β, st, ρ, b, st', s, en, ?_, q⟩
  simp only [evC] at e
  unfold evT
  split at e
  · cases e
  · rename_i x st1 e1
    split at e
    · cases e
    · rename_i ht
      simp only [Option.some.injEq, Prod.mk.injEq] at e
      obtain ⟨rfl, rfl⟩ := e
      simp [ht]
    · rename_i ht
      simp only [Option.some.injEq, Prod.mk.injEq] at e
      obtain ⟨rfl, rfl⟩ := e
      simp [ht]
/-- the comprehension's walk, in the reading of the library's -/
theorem lc_read {t : Tgt} {src : Src} {cs : CEs} {e : CE} {own : List Nat} {K : PySem.W.Frag} (ht : ∀ j ∈ slotsT t, j ∈ own) {σ : L2.St} {H : Hp} {Q : V → Hp → Prop} (h : tE K C (.comp t src cs e own) σ H Q) :
    tLc (tS K C src) (tTg K t) (tCs K C cs) (tE K C e) own σ H Q := by
  obtain ⟨β, st, ρ, r, st', s, en, ee, q⟩ := h
  simp only [ev] at ee
  split at ee
  · cases ee
  rename_i v st1 e1
  split at ee
  rotate_left
  · cases ee
  rename_i hbig
  simp only [Option.map_eq_some_iff, Prod.mk.injEq] at ee
  obtain ⟨⟨total, stF⟩, hc, rfl, rfl⟩ := ee
  refine ⟨β, st, ρ, v, st1, s, en, e1, fun β1 H1 J x1 s1 it D hD => ?_⟩
  have hz : v.xs.length ≤ sizeLine := hbig.elim it.len fun z => szOk_le z
  refine ⟨fun i m H2 => ∃ β2 st2 done acc rest, m = v.xs.length - i ∧ i ≤ v.xs.length ∧ Ext β1 H1 β2 H2 ∧ Sim K β2 st2 H2 ∧ H2 D = some (.lst acc) ∧ D ∉ β2 ∧ RepL K β2 H2 done acc ∧ acc.length ≤ i ∧
    compL v.ws (fun d => setT t d (wipeD ρ own)) (fun σ st => evC C cs σ st) (fun σ st => ev C e σ st) (v.xs.drop i) st2 = some (rest, stF) ∧ done ++ rest = total, ⟨v.xs.length, ?_⟩, fun i m H2 hw => ?_⟩
  · have nD : D ∉ β1 := s1.off hD
    exact ⟨β1, st1, [], [], total, by simp, Nat.zero_le _, Ext.refl.updFree hD, s1.new hD, upd_same, nD, rfl, Nat.le_refl _, by simpa using hc, rfl⟩
  · obtain ⟨β2, st2, done, acc, rest, rfl, hi, x2, s2, hDa, nD, rA, hl, hcl, rfl⟩ := hw
    by_cases hlt : i < v.xs.length
    rotate_left
    · have hie : i = v.xs.length := by omega
      subst hie
      rw [List.drop_length] at hcl
      simp only [compL] at hcl
      split at hcl
      rotate_left
      · cases hcl
      rename_i hk
      simp only [Option.some.injEq, Prod.mk.injEq] at hcl
      obtain ⟨rfl, rfl⟩ := hcl
      refine .inl ⟨it.stop β2 st2 H2 x2 s2 hk, q _ β2 H2 (x1.trans x2 s2.nd) s2 ⟨D, acc, rfl, hDa, nD, x1.free hD fun hm => s1.off hD (x1.mem hm), by simpa using rA⟩⟩
    · have hd : v.xs.drop i = v.xs[i] :: v.xs.drop (i + 1) := List.drop_eq_getElem_cons hlt
      rw [hd] at hcl
      simp only [compL] at hcl
      split at hcl
      rotate_left
      · cases hcl
      rename_i hk
      split at hcl
      · cases hcl
      rename_i ρ' hset
      obtain ⟨go, yl⟩ := it.turn β2 st2 H2 x2 s2 hk i v.xs[i] (by simp [hlt])
      split at hcl
      · cases hcl
      all_goals
        rename_i st3 hcs
        refine .inr ⟨go, fun H' => ∃ β2 st2 done' acc rest', i + 1 ≤ v.xs.length ∧ Ext β1 H1 β2 H' ∧ Sim K β2 st2 H' ∧ H' D = some (.lst acc) ∧ D ∉ β2 ∧ RepL K β2 H' done' acc ∧ acc.length ≤ i + 1 ∧
          compL v.ws (fun d => setT t d (wipeD ρ own)) (fun σ st => evC C cs σ st) (fun σ st => ev C e σ st) (v.xs.drop (i + 1)) st2 = some (rest', stF) ∧ done' ++ rest' = done ++ rest, fun H' ⟨β3, st3', done', acc', rest', a1, a2, a3, a4, a5, a6, a7, a8, a9⟩ => ⟨v.xs.length - (i + 1), by omega, β3, st3', done', acc', rest', rfl, a1, a2, a3, a4, a5, a6, a7, a8, a9⟩, fun x H3 hy => ?_⟩
        obtain ⟨x3, s3, rx⟩ := yl x H3 hy
        have x13 : Ext β1 H1 β2 H3 := x2.trans x3 s3.nd
        have hD3 : H3 D = some (.lst acc) := x3.keep D _ hDa nD
        have rA3 := RepL.mono s2 x3 _ _ rA
        refine ⟨β2, v.xs[i], wipeD ρ own, ρ', rx, ((en.mono s x1).mono s1 x13).wipe own, hset, fun σ2 en2 oa => ⟨?_, β2, st2, ρ', _, st3, s3, en2, hcs, fun β4 H4 x4 s4 => ?_⟩⟩
        · rw [wipe_only oa ht, wipe_twice]
        have hD4 : H4 D = some (.lst acc) := x4.keep D _ hD3 nD
        have nD4 := x4.notin hD3 nD
        have rA4 := RepL.mono s3 x4 _ _ rA3
      · exact ⟨β4, st3, done, acc, rest, hlt, x13.trans x4 s4.nd, s4, hD4, nD4, rA4, by omega, hcl, rfl⟩
      · show tE K C e σ2 H4 _
        split at hcl
        · cases hcl
        rename_i rr st4 he
        split at hcl
        · cases hcl
        rename_i ys stL hrec
        simp only [Option.some.injEq, Prod.mk.injEq] at hcl
        obtain ⟨rfl, rfl⟩ := hcl
        refine seq1 s4 (en2.mono s3 x4) he fun y β5 H5 x5 s5 r5 _ => ?_
        have hD5 : H5 D = some (.lst acc) := x5.keep D _ hD4 nD4
        obtain ⟨β6, x6, s6, r6, _⟩ := mat_ok x5 s5 r5
        have nD6 := x6.notin hD4 nD4
        have rA5 := RepL.mono s4 x6 _ _ rA4
        refine ⟨acc, hD5, by omega, β6, (mat rr st4).2, done ++ [(mat rr st4).1], acc ++ [y], ys, hlt, ((x13.trans x4 s4.nd).trans x6 s6.nd).updFree hD, s6.keepT (KeepT.upd hD5) (fun a ha => upd_ne fun z => nD6 (z ▸ ha)), upd_same, nD6, RepL.keepT (KeepT.upd hD5) _ _ (rA5.append ⟨y, [], rfl, r6, rfl⟩), by simp; omega, hrec, by simp⟩
end
end Mw

set_option Elab.async false
set_option linter.all false
set_option autoImplicit false
set_option maxRecDepth 100000
/-! PyG: what defs promise where no text is being shown (guards known), calls of such, a law's end by such. -/
namespace Mw
open PySem PySem.Spec PyProof.Rows L2
structure FnG (P : Program) (w : World) (K : PySem.W.Frag) (mg : Str → Option Value) (base : Heap) (k : Nat) (f : Addr) (fd : FuncData) (ps : List Str) (sp : Sp) : Prop where
  len : ∀ vs H Q E, sp vs H Q E → vs.length = ps.length
  run : ∀ (A : Around) (out : List PySem.Env) (s : Shared) (H : Hp) (ar : Args) (us : List Value) (vs : List V) (Q : VK) (E : XK), Room k A → A.guards = some [] → Env0 P w K mg base A out s H → BindsTo s fd ar (ps.zip us) →
    Vals vs us → sp vs H Q E → codeAny (model P w) A (.call (.ref f) ar) (CR CX0 out P w H s Q E) s
section
variable {X : Cx} {k : Nat} {f : Addr} {fd : FuncData} {ps : List Str} {sp : Sp} {E : XK}
theorem run_fnG {pins : List (Addr × Obj)} {σ : L2.St} {H : Hp} {s : Shared} {Q : VK} {us : List Value} {vs : List V} (F : FnG X.prog X.w X.K X.mg X.base k f fd ps sp) (hr : Room k X.A) (gd : X.A.guards = some []) (hb : Binds X.K fd ps []) (hx : Passes CX0 X E)
    (I : Inv X pins σ H s) (r : Vals vs us) (h : sp vs H Q E) : wpAny (model X.prog X.w) X.A (call (.ref f) us) (EP X pins σ Q) X.xe s := by
  have hl : us.length = ps.length := r.length.symm.trans (F.len _ _ _ _ h)
  have hb' : BindsTo s fd ⟨us, []⟩ (ps.zip us) := by
    have z := hb s us I.kIn (by simpa using hl)
    simpa using z
  refine wpAny_call (codeAny_mono (F.run X.A X.stack s H _ us vs Q E hr gd I.env0 hb' r h) fun a b c => ?_)
  rcases a with e | a
  · exact hx _ _ _ _ _ _ I c
  · cases a with
    | ret u => exact I.after c
    | next | brk | cont => exact c.elim
variable {x : Str} {p pos : Pos} {e : Expr} {es : List Expr} {t : TA}
theorem pe_callG (F : FnG X.prog X.w X.K X.mg X.base k f fd ps sp) (hr : Room k X.A) (gd : X.A.guards = some []) (hg : Gl X x) (hm : X.mg x = some (.ref f)) (hk : PySem.W.keepIn X.K (.ref f) = true) (hb : Binds X.K fd ps []) (hx : Passes CX0 X E)
    (ha : PA X (e :: es) t) (hdb : (x == ("__debug__" : Str)) = false) (he : starEach (e :: es) X.env = (false, eval e X.env) :: starEach es X.env) (hpl : (backTo pos (starEach es X.env)).any (·.1) = false) :
    PE X (.Call (.Name x p) (e :: es) [] pos) (fun σ H Q => t σ H fun vs H1 => sp vs H1 Q E) := by
  refine ⟨fun pins s σ H Q I h => wpAny_Call_Name_kw (ld_glob I hg hm ?_ hdb)⟩
  exact PySem.W.callWith_K (h₀ := X.base) I.ok.mod.kin hk (thn (ha.run pos pins s σ H _ I h) fun us s1 ⟨vs, H1, J, r, q⟩ => ⟨J.kIn, run_fnG F hr gd hb hx J r q⟩) he hpl
theorem pe_callG0 (F : FnG X.prog X.w X.K X.mg X.base k f fd ps sp) (hr : Room k X.A) (gd : X.A.guards = some []) (hg : Gl X x) (hm : X.mg x = some (.ref f)) (hk : PySem.W.keepIn X.K (.ref f) = true) (hb : Binds X.K fd ps []) (hx : Passes CX0 X E)
    (hdb : (x == ("__debug__" : Str)) = false) : PE X (.Call (.Name x p) [] [] pos) (fun σ H Q => sp [] H Q E) :=
  ⟨fun pins s σ H Q I h => wpAny_Call_Name_kw (ld_glob I hg hm (PySem.W.callWith_K0 I.kIn hk (run_fnG (us := []) F hr gd hb hx I .nil h)) hdb)⟩
end
/-- a def by its body -/
theorem fnG_of {P : Program} {w : World} {K : PySem.W.Frag} {mg : Str → Option Value} {base : Heap} {x qual : Str} {params : Arguments} {body : List Stmt} {scope : Scope} {f : Addr} {fd : FuncData} {N ps : List Str} {k : Nat} {sp : Sp}
    (F : FunD K x qual params body scope [] [] f fd) (S : FnScope N ps scope) (len : ∀ vs H Q E, sp vs H Q E → vs.length = ps.length)
    (hbody : ∀ (cdv : Value) (A : Around) (out : List PySem.Env) (s : Shared) (H : Hp) (vs : List V) (Q : VK) (E : XK), Room k (A.deeper (envOfC qual scope s.heap.objs.size f cdv)) → A.guards = some [] → sp vs H Q E →
      ∃ t, PSs (cxOf CX0 P w K mg base N qual scope f cdv A out s H E) body t ∧ t { nx := fun _ H' => Q .non H', rt := Q } (start N vs) H) : FnG P w K mg base (k + 1) f fd ps sp := by
  obtain ⟨oc, od, dV, kV, doc, pm, an, cdv, ct, osl, rfl, lk, hcd, _, _⟩ := F.ex
  refine ⟨len, fun A out s H ar us vs Q E hr gd e0 hb r hsp => ?_⟩
  have hlv := len _ _ _ _ hsp
  have KX : K.In s.heap := e0.mod.kin.keeps fun b o z => (e0.bs b o z).1
  have lim : s.heap.NoLimit := e0.mod.nolimit.keeps fun b o z => (e0.bs b o z).1
  have hkd : ∀ z ∈ ps.zip us, scope.names.lookup z.1 = some .local ∨ (scope.names.lookup z.1 = some .cell ∧ ((cellsFrom (s.heap.objs.size + 1) scope.names []).lookup z.1).isSome = true) := by
    rintro ⟨n, v⟩ hz
    exact (S.par n (List.of_mem_zip hz).1).imp id fun q => ⟨q, PySem.W.cellsFrom_some _ _ _ (.inl q)⟩
  refine codeAny_call_function hr.depth (KX _ _ lk) rfl S.co S.gen rfl (PySem.W.codeRec_of KX hcd) (hb _ _ _ _ (wpAny_newFunctionEnv_cells S.kind hkd fun env he s1 x => ?_))
  subst he
  refine ⟨lim.keeps x.toInCall.keep, codeAny_func ?_⟩
  obtain ⟨t, ht, hq⟩ := hbody cdv A out s H vs Q E (hr.deeper _) gd hsp
  have I : Inv (cxOf CX0 P w K mg base N qual scope f cdv A out s H E) [] (start N vs) H s1 := inv_start S hr.hd e0 hlv r x
  have fin : ∀ {σ' : L2.St} {H' : Hp} {v : V} {u : Value} {s' : Shared}, Inv (cxOf CX0 P w K mg base N qual scope f cdv A out s H E) [] σ' H' s' → RelV v u → Q v H' → L2.CE out P w H s Q u s' :=
    fun J rv q => ⟨_, _, J.os, J.bare, J.base, J.hok, rv, q⟩
  refine wpAny_mono (ht.run [] s1 (start N vs) H _ I hq) (fun fl s' hs => ?_) fun _ _ z => z
  cases fl with
  | ret u => obtain ⟨v, σ', H', J, rv, q⟩ := hs; exact fin J rv q
  | next => obtain ⟨σ', H', J, q⟩ := hs; exact fin (v := V.non) (u := Value.none) J rfl q
  | brk | cont => obtain ⟨_, _, _, q⟩ := hs; exact q.elim
/-- the law is called where nothing is being shown -/
theorem law_callG {P : Program} {w : World} {K : PySem.W.Frag} {mg mb : Str → Option Value} {k : Nat} {fa a : Addr} {fd : FuncData} {x : Str} {sp : Sp} {s₁ : Shared} {vs : List Value} {ns : List Int}
    (KX : K.In s₁.heap) (g1 : s₁.heap.Ns mainGlobals mg) (g2 : s₁.heap.Ns builtinsNs mb) (g3 : ∀ x : Str, x ≠ "__name__" → mb x = bootBuiltins x) (lim : s₁.heap.NoLimit) (hg : s₁.gens = #[])
    (ha : s₁.heap.get? a = some { cls := .type "list", data := .seq vs.toArray }) (hi : IntsAre vs ns) (hl : ns.length ≤ sizeLine) (hr : Room k callerA)
    (F : ∀ base : Heap, K.In base → base.Ns mainGlobals mg → FnG P w K mg base k fa fd [x] sp) (hbind : ∀ (s : Shared) (u : Value), BindsTo s fd ⟨[u], []⟩ [(x, u)])
    (hsp : ∀ H : Hp, Only H → SqL K H a (ns.map V.int) → sp [.ref a] H (fun v _ => v = .bl true) fun _ _ _ => False)
    (hCX : ∀ H e s', CX0 [] H s₁ (fun _ _ _ => False) e s' → False) :
    codeAny (model P w) callerA (.call (.ref fa) ⟨[.ref a], []⟩) (fun r s' => r = .ok (.ret (.bool true)) ∧ OldK s₁.heap s'.heap ∧ s'.os = s₁.os ∧ AllBare s'.gens) s₁ := by
  have rv := vals_ints hi
  have nil_no : ∀ b : Addr, b ∈ ([] : List Addr) → False := fun b hb => nomatch hb
  have main : ∀ H : Hp, Only H → SqL K H a (ns.map V.int) → HOk P w H s₁.heap → (∀ b, H b ≠ none → b = a) → (H a ≠ none → K.lookup a = none) →
      codeAny (model P w) callerA (.call (.ref fa) ⟨[.ref a], []⟩) (fun r s' => r = .ok (.ret (.bool true)) ∧ OldK s₁.heap s'.heap ∧ s'.os = s₁.os ∧ AllBare s'.gens) s₁ := by
    intro H hO hS hok hA hK
    have nsK : ∀ {b : Addr} {m : Str → Option Value}, s₁.heap.Ns b m → (hidT s₁.heap H).Ns b m := by
      rintro b m ⟨o, es, ep, z, d, r⟩
      refine ⟨o, es, ep, hidT_get z ?_, d, r⟩
      rcases hq : H b with _ | u
      · rfl
      · cases hA b (by rw [hq]; simp)
        rw [ha] at z
        cases z
        exact nomatch (show Data.seq vs.toArray _ = Data.dict es ep from d)
    have hKb : K.In (hidT s₁.heap H) := by
      intro b o z
      refine hidT_get (KX b o z) ?_
      rcases hq : H b with _ | u
      · rfl
      · cases hA b (by rw [hq]; simp)
        rw [hK (by rw [hq]; simp)] at z
        cases z
    obtain ⟨mc, l1, l2⟩ := lim
    have e0 : Env0 P w K mg (hidT s₁.heap H) callerA [] s₁ H :=
      ⟨rfl, ⟨hKb, nsK g1, ⟨mb, nsK g2, g3⟩, ⟨mc, nsK l1, l2⟩⟩, fun _ _ z => of_hidT z, Nat.le_of_eq (hidT_size _ _), trivial, fun b hb => (nil_no b hb).elim, hok, .of_eq hg⟩
    refine codeAny_mono ((F _ hKb (nsK g1)).run callerA [] s₁ H _ [.ref a] [.ref a] _ _ hr rfl e0 (hbind s₁ (.ref a)) (.cons rfl .nil) (hsp H hO hS)) fun r s' h => ?_
    rcases r with e | r
    · exact (hCX H e s' h).elim
    cases r with
    | next | brk | cont => exact h.elim
    | ret u =>
      obtain ⟨v, H', os, bare, un, hok', r', q⟩ := h
      cases (show v = .bl true from q)
      cases (show u = Value.bool true from r')
      refine ⟨rfl, OldK.of_keep fun b o z => ?_, os, bare⟩
      rcases hq : H b with _ | u
      · exact un.keep b o z hq (fun y => nil_no b y) (by simp)
      · rcases hO b with y | ⟨ob, xs, y⟩
        · rw [hq] at y; cases y
        · have e2 := (hok' b _ (un.frzs b ob _ y)).1
          have e1 := (hok b _ y).1
          rw [z] at e1
          cases e1
          exact e2
  rcases hk : K.lookup a with _ | o
  · refine main (fun b => if b = a then some (.frz { cls := .type "list", data := .seq vs.toArray } (.lst (ns.map V.int))) else none) ?_ (.inl (.inr ⟨{ cls := .type "list", data := .seq vs.toArray }, if_pos rfl⟩)) ?_ ?_ fun _ => hk
    · intro b
      by_cases hb : b = a
      · exact .inr ⟨_, _, if_pos hb⟩
      · exact .inl (if_neg hb)
    · intro b u z
      by_cases hb : b = a
      · cases (if_pos hb).symm.trans z
        subst hb
        exact ⟨ha, by rw [List.length_map]; exact hl, vs, _, rv, ha⟩
      · cases (if_neg hb).symm.trans z
    · intro b z
      exact Decidable.byContradiction fun hb => z (if_neg hb)
  · have z := KX a o hk
    rw [ha] at z
    cases z
    exact main (fun _ => none) (fun _ => .inl rfl) (.inr ⟨_, vs.toArray, _, hk, rfl, rfl, rfl, by rw [List.size_toArray, hi.length]; exact hl, by simpa using rv⟩) (fun b u z => nomatch (show (none : Option HO) = some u from z)) (fun b z => absurd rfl z) fun z => absurd rfl z
theorem walk_ofG {l : PySem.W.OpenLaw} {n k : Nat} {q : Program} {loose : List Str} {XP : (Str → Option Value) → Heap → Prop} {YP : World → Heap → Prop} {d : DefRec} {x : Str}
    (hn : l.most = some n) (hn2 : n ≤ sizeLine) (hdf : d.params.defaults = []) (hr : Room k callerA)
    (F : ∀ (w : World) (mg : Str → Option Value) (fa : Addr) (h : Heap), YP w h → h.Ns mainGlobals mg → mg d.name = some (.ref fa) →
      ∃ (K : PySem.W.Frag) (fd : FuncData) (sp : Sp), K.In h ∧ (∀ (s : Shared) (u : Value), BindsTo s fd ⟨[u], []⟩ [(x, u)]) ∧
        (∀ (H : Hp) (a : Addr) (ns : List Int), ns.length ≤ n → Only H → SqL K H a (ns.map V.int) → sp [.ref a] H (fun v _ => v = .bl true) fun _ _ _ => False) ∧ ∀ base : Heap, K.In base → base.Ns mainGlobals mg → FnG l.prog w K mg base k fa fd [x] sp)
    (hCX : ∀ (H : Hp) (s : Shared) (e : Value) (s' : Shared), CX0 [] H s (fun _ _ _ => False) e s' → False) : PySem.W.WalkO q loose XP YP l.row.toRowW d [] (fun f vs => PySem.call f vs) :=
  Att.attach_call hn hdf fun w s₀ s₁ mg mb fa o pm cd doc a vs ns G Y ho hd hcd hmg hobj hints hlen hg => by
    obtain ⟨K, fd, sp, KX, hb, hsp, hF⟩ := F w mg fa _ Y G.T.g hmg
    exact law_callG KX G.T.g G.T.b G.T.builtins G.T.nolimit hg hobj hints (Nat.le_trans hlen hn2) hr hF hb (fun H hO hS => hsp H a ns hlen hO hS) fun H e s' => hCX H s₁ e s'
end Mw

set_option Elab.async false
set_option linter.all false
set_option autoImplicit false
set_option maxRecDepth 100000
/-! PyC7: calls; statements. -/
namespace Mw
open PySem PySem.Spec PyProof.Rows L2
/-- a def's promise: what C says -/
def spOf (K : PySem.W.Frag) (C : Call) (f : Str) (np : Nat) : Sp := fun vs H Q _ =>
  ∃ β st ds d st', Sim K β st H ∧ RepL K β H ds vs ∧ ds.length = np ∧ C f ds st = some (d, st') ∧ ∀ v β' H', Ext β H β' H' → Sim K β' st' H' → Rep K β' H' d v → Q v H'
/-- how a statement lands -/
def Lands (K : PySem.W.Frag) (β : List Addr) (H : Hp) (D : Ends) (fl : Fl) (ρ' : Env) (st' : Sto) : Prop :=
  ∀ β' H', Ext β H β' H' → Sim K β' st' H' → match fl with
    | .nx => ∀ σ', EnvR K β' H' ρ' σ' → D.nx σ' H'
    | .bk => ∀ σ', EnvR K β' H' ρ' σ' → D.bk σ' H'
    | .ct => ∀ σ', EnvR K β' H' ρ' σ' → D.ct σ' H'
    | .rt d => ∀ v, Rep K β' H' d v → D.rt v H'
def tSt (K : PySem.W.Frag) (C : Call) (n : Nat) (c : CS) : TS := fun D σ H =>
  ∃ β st ρ fl ρ' st', Sim K β st H ∧ EnvR K β H ρ σ ∧ exS C n c ρ st = some (fl, ρ', st') ∧ Lands K β H D fl ρ' st'
def tSs (K : PySem.W.Frag) (C : Call) (n : Nat) (c : CSs) : TS := fun D σ H =>
  ∃ β st ρ fl ρ' st', Sim K β st H ∧ EnvR K β H ρ σ ∧ exs C n c ρ st = some (fl, ρ', st') ∧ Lands K β H D fl ρ' st'
section
variable {X : Cx} {C : Call} {K : PySem.W.Frag} {n : Nat}
theorem PS.imp {e : Stmt} {t t' : TS} (h : PS X e t) (i : ∀ D σ H, t' D σ H → t D σ H) : PS X e t' := ⟨fun pins s σ H D I hw => h.run pins s σ H D I (i D σ H hw)⟩
theorem PSs.imp {e : List Stmt} {t t' : TS} (h : PSs X e t) (i : ∀ D σ H, t' D σ H → t D σ H) : PSs X e t' := ⟨fun pins s σ H D I hw => h.run pins s σ H D I (i D σ H hw)⟩
section
variable {β β1 : List Addr} {st st1 : Sto} {ρ : Env} {σ : L2.St} {H H1 : Hp} {En : Ends} {fl : Fl} {ρ' : Env} {st' : Sto}
theorem Lands.ext (l : Lands K β H En fl ρ' st') (x : Ext β H β1 H1) : Lands K β1 H1 En fl ρ' st' := fun β2 H2 x2 s2 => l β2 H2 (x.trans x2 s2.nd) s2
theorem seqA {a : CEs} {x : List D} (s : Sim K β st H) (en : EnvR K β H ρ σ) (e : evA C a ρ st = some (x, st1)) {P : List V → Hp → Prop}
    (k : ∀ v β1 H1, Ext β H β1 H1 → Sim K β1 st1 H1 → RepL K β1 H1 x v → EnvR K β1 H1 ρ σ → P v H1) : tA K C a σ H P :=
  ⟨β, st, ρ, x, st1, s, en, e, fun v β1 H1 e1 s1 r1 => k v β1 H1 e1 s1 r1 (en.mono s e1)⟩
end
/-! ### comprehension, call -/
theorem e_comp {elt tg iter : Expr} {ifs : List Expr} {scope : Scope} {own : List (Str × Nat)} {pos : Pos} {t : Tgt} {src : Src} {cs : CEs} {e : CE} (ht : ∀ j ∈ slotsT t, j ∈ own.map (·.2)) (hc : X.calm = true) (hN : X.N.Nodup) (hi : PI X tg iter (tS X.K C src)) (ok : BlkOk X.N X.env.scope scope own)
    (hg : ∀ (s : Shared) (H : Hp) (A : Addr) (cl : List (Str × Addr)) (fp : List Addr), PG (X.blk s H scope (compEnvC scope cl A X.env) fp) tg (tTg X.K t)) (hs : ∀ (s : Shared) (H : Hp) (A : Addr) (cl : List (Str × Addr)) (fp : List Addr), PTs (X.blk s H scope (compEnvC scope cl A X.env) fp) ifs (tCs X.K C cs))
    (he : ∀ (s : Shared) (H : Hp) (A : Addr) (cl : List (Str × Addr)) (fp : List Addr), PE (X.blk s H scope (compEnvC scope cl A X.env) fp) elt (tE X.K C e)) (hf : ∀ x, foldedSetIterable iter X.env x = pure x) :
    PE X (.ListComp elt [⟨tg, iter, ifs, 0⟩] scope pos) (tE X.K C (.comp t src cs e (own.map (·.2)))) :=
  PE.imp (pe_lc hc hN hi ok hg hs he hf) fun σ H Q => lc_read ht
theorem evA_len : ∀ {es : CEs} {ρ : Env} {st st' : Sto} {rs : List D}, evA C es ρ st = some (rs, st') → rs.length = lenC es
  | .nil, ρ, st, st', rs, e => by
    simp only [evA, Option.some.injEq, Prod.mk.injEq] at e
    rw [← e.1]; rfl
  | .cons c es, ρ, st, st', rs, e => by
    simp only [evA] at e
    split at e
    · cases e
    · split at e
      · cases e
      · rename_i h
        simp only [Option.some.injEq, Prod.mk.injEq] at e
        rw [← e.1, List.length_cons, evA_len h]; rfl
theorem call_read {f : Str} {es : CEs} {np : Nat} {t : TA} {E : XK} (hl : lenC es = np) (ht : ∀ σ H Q, tA K C es σ H Q → t σ H Q) {σ : L2.St} {H : Hp} {Q : VK} (h : tE K C (.call f es) σ H Q) : t σ H fun vs H1 => spOf K C f np vs H1 Q E := by
  obtain ⟨β, st, ρ, r, st', s, en, e, q⟩ := h
  simp only [ev] at e
  split at e
  · cases e
  rename_i ds st1 e1
  simp only [Option.map_eq_some_iff, Prod.mk.injEq] at e
  obtain ⟨⟨d, st2⟩, e2, rfl, rfl⟩ := e
  refine ht _ _ _ (seqA s en e1 fun vs β1 H1 x1 s1 r1 en1 => ?_)
  exact ⟨β1, st1, ds, d, st2, s1, r1, (evA_len e1).trans hl, e2, fun v β' H' x' s' r' => q v β' H' (x1.trans x' s'.nd) s' r'⟩
theorem e_call {k : Nat} {g : Addr} {fd : FuncData} {ps : List Str} {E : XK} {x : Str} {p pos : Pos} {e : Expr} {es : List Expr} {f : Str} {as : CEs} (F : FnG X.prog X.w X.K X.mg X.base k g fd ps (spOf X.K C f ps.length)) (hr : Room k X.A) (gd : X.A.guards = some []) (hg : Gl X x) (hm : X.mg x = some (.ref g)) (hk : PySem.W.keepIn X.K (.ref g) = true) (hb : Binds X.K fd ps []) (hx : Passes CX0 X E)
    (hl : lenC as = ps.length) (ha : PA X (e :: es) (tA X.K C as)) (hp : (e :: es).all plainE = true) (hdb : (x == ("__debug__" : Str)) = false) : PE X (.Call (.Name x p) (e :: es) [] pos) (tE X.K C (.call f as)) := by
  rw [List.all_cons, Bool.and_eq_true] at hp
  exact PE.imp (pe_callG F hr gd hg hm hk hb hx ha hdb (star_plain hp.1) (stars_plain hp.2)) fun σ H Q => call_read hl fun _ _ _ => id
theorem e_call0 {k : Nat} {g : Addr} {fd : FuncData} {ps : List Str} {E : XK} {x : Str} {p pos : Pos} {f : Str} (F : FnG X.prog X.w X.K X.mg X.base k g fd ps (spOf X.K C f ps.length)) (hr : Room k X.A) (gd : X.A.guards = some []) (hg : Gl X x) (hm : X.mg x = some (.ref g)) (hk : PySem.W.keepIn X.K (.ref g) = true) (hb : Binds X.K fd ps []) (hx : Passes CX0 X E)
    (hl : 0 = ps.length) (hdb : (x == ("__debug__" : Str)) = false) : PE X (.Call (.Name x p) [] [] pos) (tE X.K C (.call f .nil)) :=
  PE.imp (pe_callG0 F hr gd hg hm hk hb hx hdb) fun σ H Q => call_read (E := E) (es := .nil) (t := tNil) hl fun σ H Q ⟨β, st, ρ, ds, st', s, en, e, q⟩ => by
    simp only [evA, Option.some.injEq, Prod.mk.injEq] at e
    obtain ⟨rfl, rfl⟩ := e
    exact q [] β H .refl s rfl
/-! ### statements -/
theorem s_pass {pos : Pos} : PS X (.Pass pos) (tSt X.K C n .pass) := PS.imp ps_pass fun D σ H ⟨β, st, ρ, fl, ρ', st', s, en, e, l⟩ => by
  simp only [exS, Option.some.injEq, Prod.mk.injEq] at e
  obtain ⟨rfl, rfl, rfl⟩ := e
  exact l β H .refl s σ en
theorem s_doc {x : Str} {j : Nat} {pos pos' : Pos} : PS X (.Expr (.Constant (.str x) j pos) pos') (tSt X.K C n .pass) := PS.imp ps_doc fun D σ H ⟨β, st, ρ, fl, ρ', st', s, en, e, l⟩ => by
  simp only [exS, Option.some.injEq, Prod.mk.injEq] at e
  obtain ⟨rfl, rfl, rfl⟩ := e
  exact l β H .refl s σ en
theorem s_brk {pos : Pos} : PS X (.Break pos) (tSt X.K C n .brk) := PS.imp ps_break fun D σ H ⟨β, st, ρ, fl, ρ', st', s, en, e, l⟩ => by
  simp only [exS, Option.some.injEq, Prod.mk.injEq] at e
  obtain ⟨rfl, rfl, rfl⟩ := e
  exact l β H .refl s σ en
theorem s_cont {pos : Pos} : PS X (.Continue pos) (tSt X.K C n .cont) := PS.imp ps_continue fun D σ H ⟨β, st, ρ, fl, ρ', st', s, en, e, l⟩ => by
  simp only [exS, Option.some.injEq, Prod.mk.injEq] at e
  obtain ⟨rfl, rfl, rfl⟩ := e
  exact l β H .refl s σ en
theorem s_retN {pos : Pos} : PS X (.Return none pos) (tSt X.K C n .retN) := PS.imp ps_retN fun D σ H ⟨β, st, ρ, fl, ρ', st', s, en, e, l⟩ => by
  simp only [exS, Option.some.injEq, Prod.mk.injEq] at e
  obtain ⟨rfl, rfl, rfl⟩ := e
  exact l β H .refl s .non rfl
theorem s_ret {e : Expr} {a : CE} {pos : Pos} (he : PE X e (tE X.K C a)) : PS X (.Return (some e) pos) (tSt X.K C n (.ret a)) := PS.imp (ps_ret he) fun D σ H ⟨β, st, ρ, fl, ρ', st', s, en, e, l⟩ => by
  simp only [exS] at e
  split at e
  · cases e
  rename_i r st1 e1
  simp only [Option.some.injEq, Prod.mk.injEq] at e
  obtain ⟨rfl, rfl, rfl⟩ := e
  refine seq1 s en e1 fun v β1 H1 x1 s1 r1 en1 => ?_
  obtain ⟨β2, x2, s2, r2, _⟩ := mat_ok x1 s1 r1
  exact l β2 H1 x2 s2 v r2
theorem s_expr {e : Expr} {a : CE} {pos : Pos} (he : PE X e (tE X.K C a)) (hs : swapsWith e none pos.line X.env = pure false) : PS X (.Expr e pos) (tSt X.K C n (.expr a)) := PS.imp (ps_expr he hs) fun D σ H ⟨β, st, ρ, fl, ρ', st', s, en, e, l⟩ => by
  simp only [exS] at e
  split at e
  · cases e
  rename_i r st1 e1
  simp only [Option.some.injEq, Prod.mk.injEq] at e
  obtain ⟨rfl, rfl, rfl⟩ := e
  exact seq1 s en e1 fun v β1 H1 x1 s1 r1 en1 => l β1 H1 x1 s1 σ en1
theorem s_if {c : Expr} {a b : List Stmt} {pos : Pos} {k : CE} {x y : CSs} (hc : PT X c (tT X.K C k)) (ha : PSs X a (tSs X.K C n x)) (hb : PSs X b (tSs X.K C n y)) : PS X (.If c a b pos) (tSt X.K C n (.ite k x y)) := PS.imp (ps_if hc ha hb) fun D σ H ⟨β, st, ρ, fl, ρ', st', s, en, e, l⟩ => by
  simp only [exS] at e
  split at e
  · cases e
  · rename_i st1 e1
    refine seqT s en e1 fun β1 H1 x1 s1 en1 => ?_
    rw [if_pos rfl]
    exact ⟨β1, st1, ρ, fl, ρ', st', s1, en1, e, l.ext x1⟩
  · rename_i st1 e1
    refine seqT s en e1 fun β1 H1 x1 s1 en1 => ?_
    rw [if_neg Bool.false_ne_true]
    exact ⟨β1, st1, ρ, fl, ρ', st', s1, en1, e, l.ext x1⟩
theorem ss_nil : PSs X [] (tSs X.K C n .nil) := PSs.imp pss_nil fun D σ H ⟨β, st, ρ, fl, ρ', st', s, en, e, l⟩ => by
  simp only [exs, Option.some.injEq, Prod.mk.injEq] at e
  obtain ⟨rfl, rfl, rfl⟩ := e
  exact l β H .refl s σ en
theorem ss_cons {a : Stmt} {b : List Stmt} {x : CS} {y : CSs} (ha : PS X a (tSt X.K C n x)) (hb : PSs X b (tSs X.K C n y)) : PSs X (a :: b) (tSs X.K C n (.cons x y)) := PSs.imp (pss_cons ha hb) fun D σ H ⟨β, st, ρ, fl, ρ', st', s, en, e, l⟩ => by
  simp only [exs] at e
  split at e
  · rename_i ρ1 st1 e1
    exact ⟨β, st, ρ, .nx, ρ1, st1, s, en, e1, fun β1 H1 x1 s1 σ1 en1 => ⟨β1, st1, ρ1, fl, ρ', st', s1, en1, e, l.ext x1⟩⟩
  · rename_i hn
    refine ⟨β, st, ρ, fl, ρ', st', s, en, e, fun β1 H1 x1 s1 => ?_⟩
    cases fl with
    | nx => exact (hn _ _ e).elim
    | rt d => exact l β1 H1 x1 s1
    | bk => exact l β1 H1 x1 s1
    | ct => exact l β1 H1 x1 s1
theorem s_asg {tg e : Expr} {t : Tgt} {a : CE} {pos : Pos} (he : PE X e (tE X.K C a)) (hg : PG X tg (tTg X.K t)) (hs : swapsWithSole [tg] e pos.line X.env = pure false) (hw : swappedStores [tg] e X.env = pure none)
    (h1 : (assignEach [tg] X.env).map (·.2) = [assign tg X.env]) : PS X (.Assign [tg] e pos) (tSt X.K C n (.asg t a)) := PS.imp (ps_asg he hg hs hw h1) fun D σ H ⟨β, st, ρ, fl, ρ', st', s, en, e, l⟩ => by
  simp only [exS] at e
  split at e
  · cases e
  rename_i r st1 e1
  simp only [Option.map_eq_some_iff, Prod.mk.injEq] at e
  obtain ⟨ρ1, e2, rfl, rfl, rfl⟩ := e
  refine seq1 s en e1 fun v β1 H1 x1 s1 r1 en1 => ?_
  obtain ⟨β2, x2, s2, r2, _⟩ := mat_ok x1 s1 r1
  exact ⟨β2, _, ρ, ρ1, r2, en.mono s x2, e2, fun σ2 en2 _ => l β2 H1 x2 s2 σ2 en2⟩
end
end Mw

set_option Elab.async false
set_option linter.all false
set_option autoImplicit false
set_option maxRecDepth 100000
/-! PyC8: stores, loops. -/
namespace Mw
open PySem PySem.Spec PyProof.Rows L2
section
variable {X : Cx} {C : Call} {K : PySem.W.Frag} {n : Nat}
theorem asg_read {i : Nat} {a : CE} {pos : Pos} {En : Ends} {σ : L2.St} {H : Hp} (h : tSt K C n (.asg (.nm i) a) En σ H) : tAsg (tE K C a) (gName i) En σ H := by
  obtain ⟨β, st, ρ, fl, ρ', st', s, en, e, l⟩ := h
  simp only [exS] at e
  split at e
  · cases e
  rename_i r st1 e1
  simp only [Option.map_eq_some_iff, Prod.mk.injEq, setT, Option.some.injEq] at e
  obtain ⟨ρ1, rfl, rfl, rfl, rfl⟩ := e
  refine seq1 s en e1 fun v β1 H1 x1 s1 r1 en1 => ?_
  obtain ⟨β2, x2, s2, r2, _⟩ := mat_ok x1 s1 r1
  exact l β2 H1 x2 s2 _ ((en.mono s x2).set r2)
/-- name = [.. for ..] -/
theorem s_setLc {i : Nat} {y : Str} {py : Pos} {elt tg iter : Expr} {ifs : List Expr} {scope : Scope} {own : List (Str × Nat)} {pos spos : Pos} {t : Tgt} {src : Src} {cs : CEs} {e : CE} (ht : ∀ j ∈ slotsT t, j ∈ own.map (·.2)) (hc : X.calm = true) (hN : X.N.Nodup)
    (hy : X.N[i]? = some y) (hyl : X.env.scope.names.lookup y = some .local) (hsw : swapsWith (.ListComp elt [⟨tg, iter, ifs, 0⟩] scope pos) (some (.Name y py)) spos.line X.env = pure true) (hi : PI X tg iter (tS X.K C src)) (ok : BlkOk X.N X.env.scope scope own)
    (hg : ∀ (s : Shared) (H : Hp) (A : Addr) (cl : List (Str × Addr)) (fp : List Addr), PG (X.blk s H scope (compEnvC scope cl A X.env) fp) tg (tTg X.K t)) (hs : ∀ (s : Shared) (H : Hp) (A : Addr) (cl : List (Str × Addr)) (fp : List Addr), PTs (X.blk s H scope (compEnvC scope cl A X.env) fp) ifs (tCs X.K C cs))
    (he : ∀ (s : Shared) (H : Hp) (A : Addr) (cl : List (Str × Addr)) (fp : List Addr), PE (X.blk s H scope (compEnvC scope cl A X.env) fp) elt (tE X.K C e)) (hf : ∀ x, foldedSetIterable iter X.env x = pure x) :
    PS X (.Assign [.Name y py] (.ListComp elt [⟨tg, iter, ifs, 0⟩] scope pos) spos) (tSt X.K C n (.asg (.nm i) (.comp t src cs e (own.map (·.2))))) :=
  PS.imp (ps_setLc hc hN hy hyl hsw hi ok hg hs he hf) fun D σ H h => lc_read ht (asg_read (pos := pos) h)
/-- a, b = x, y -/
theorem s_par {i j : Nat} {x y : Str} {a b : Expr} {a' b' : CE} {px py pt pos : Pos} {kt k2 : Nat} {pt2 : Pos} (hc : X.calm = true) (hN : X.N.Nodup) (hi : X.N[i]? = some x) (hj : X.N[j]? = some y) (hij : i ≠ j)
    (hx : X.env.scope.names.lookup x = some .local) (hy : X.env.scope.names.lookup y = some .local) (ha : PA X [a, b] (tA X.K C (.cons a' (.cons b' .nil))))
    (hw : swappedStores [.Tuple [.Name x px, .Name y py] kt pt] (.Tuple [a, b] k2 pt2) X.env = pure (some [x, y])) :
    PS X (.Assign [.Tuple [.Name x px, .Name y py] kt pt] (.Tuple [a, b] k2 pt2) pos) (tSt X.K C n (.asg (.tp (.cons (.nm i) (.cons (.nm j) .nil))) (.tup (.cons a' (.cons b' .nil))))) :=
  PS.imp (ps_par hc hN hi hj hij hx hy ha hw rfl) fun D σ H ⟨β, st, ρ, fl, ρ', st', s, en, e, l⟩ => by
    simp only [exS, ev] at e
    split at e
    · cases e
    rename_i r st1 e1
    simp only [Option.map_eq_some_iff, Prod.mk.injEq] at e1
    obtain ⟨⟨ds, st2⟩, e2, rfl, rfl⟩ := e1
    simp only [Option.map_eq_some_iff, Prod.mk.injEq, mat] at e
    obtain ⟨ρ1, e3, rfl, rfl, rfl⟩ := e
    refine seqA s en e2 fun vs β1 H1 x1 s1 r1 en1 => ?_
    have hl := evA_len e2
    simp only [lenC] at hl
    match ds, hl, e3, r1 with
    | [d1, d2], _, e3, ⟨v, w, e4, r2, v', w', e5, r3, e6⟩ =>
      subst e6 e5 e4
      simp only [setT, setTs, Option.some.injEq] at e3
      subst e3
      exact ⟨v, v', rfl, l β1 H1 x1 s1 _ ((en1.set r2).set r3)⟩
/-- name += e, name -= e, of numbers -/
theorem s_augAdd {i : Nat} {x : Str} {e : Expr} {a : CE} {pos' pos : Pos} (hN : X.N.Nodup) (hi : X.N[i]? = some x) (hx : Loc X.env.scope x) (he : PE X e (tE X.K C a)) (hf : X.fn x = true ∨ X.env.scope.names.lookup x = some .local) :
    PS X (.AugAssign (.Name x pos') .Add e pos) (tSt X.K C n (.aug i .add a)) := PS.imp (ps_aug hN hi hx he ip_add hf) fun D σ H ⟨β, st, ρ, fl, ρ', st', s, en, ee, l⟩ => by
  simp only [exS] at ee
  split at ee
  · rename_i d hd
    split at ee
    · cases ee
    rename_i y st1 e1
    split at ee
    · rename_i p q
      simp only [Option.some.injEq, Prod.mk.injEq] at ee
      obtain ⟨rfl, rfl, rfl⟩ := ee
      obtain ⟨v, hv, rv⟩ := en.get hd
      cases rv
      exact ⟨.int p, hv, seq1 s en e1 fun w β1 H1 x1 s1 r1 en1 => ⟨p, q, rfl, r1, l β1 H1 x1 s1 _ (en1.set rfl)⟩⟩
    · cases ee
  · cases ee
theorem s_augSub {i : Nat} {x : Str} {e : Expr} {a : CE} {pos' pos : Pos} (hN : X.N.Nodup) (hi : X.N[i]? = some x) (hx : Loc X.env.scope x) (he : PE X e (tE X.K C a)) (hf : X.fn x = true ∨ X.env.scope.names.lookup x = some .local) :
    PS X (.AugAssign (.Name x pos') .Sub e pos) (tSt X.K C n (.aug i .sub a)) := PS.imp (ps_aug hN hi hx he ip_sub hf) fun D σ H ⟨β, st, ρ, fl, ρ', st', s, en, ee, l⟩ => by
  simp only [exS] at ee
  split at ee
  · rename_i d hd
    split at ee
    · cases ee
    rename_i y st1 e1
    split at ee
    · rename_i p q
      simp only [Option.some.injEq, Prod.mk.injEq] at ee
      obtain ⟨rfl, rfl, rfl⟩ := ee
      obtain ⟨v, hv, rv⟩ := en.get hd
      cases rv
      exact ⟨.int p, hv, seq1 s en e1 fun w β1 H1 x1 s1 r1 en1 => ⟨p, q, rfl, r1, l β1 H1 x1 s1 _ (en1.set rfl)⟩⟩
    · cases ee
  · cases ee
/-- o[i] = e -/
theorem s_put {o i e : Expr} {a b c : CE} {tpos pos : Pos} (hu : X.A.units + 65 < cLine) (ho : PE X o (tE X.K C a)) (hi : PE X i (tE X.K C b)) (he : PE X e (tE X.K C c)) (hs : swapsWithSole [.Subscript o i tpos] e pos.line X.env = pure false)
    (ha : ∀ v, assign (.Subscript o i tpos) X.env v = (do
      let ov ← holding [v] (eval o X.env)
      let iv ← holding [v, ov] (eval i X.env)
      standAt tpos
      holding [v, ov, iv] (setItem ov iv v)
      release [v, ov, iv] [])) : PS X (.Assign [.Subscript o i tpos] e pos) (tSt X.K C n (.put a b c)) :=
  PS.imp (ps_asg he (pg_sub ho hi (put_ok hu) ha) hs rfl rfl) fun D σ H ⟨β, st, ρ, fl, ρ', st', s, en, ee, l⟩ => by
    simp only [exS] at ee
    split at ee
    · cases ee
    rename_i r st1 e1
    split at ee
    · cases ee
    rename_i x st2 e2
    split at ee
    · cases ee
    rename_i y st3 e3
    simp only [Option.map_eq_some_iff, Prod.mk.injEq] at ee
    obtain ⟨st4, e4, rfl, rfl, rfl⟩ := ee
    refine seq1 s en e1 fun v β1 H1 x1 s1 r1 en1 => ?_
    obtain ⟨β2, x2, s2, r2, _⟩ := mat_ok x1 s1 r1
    have en2 := en.mono s x2
    refine seq1 s2 en2 e2 fun w β3 H3 x3 s3 r3 en3 => ?_
    refine seq1 s3 en3 e3 fun z β4 H4 x4 s4 r4 en4 => ?_
    have x34 := x3.trans x4 s4.nd
    refine ⟨β2, H1, β4, st3, x, y, _, st4, x34, s4, r3.mono s3 x4 s4.nd, r4.back x3 x4, Rep.mono s2 x34 _ _ r2, e4, fun β5 H5 x5 s5 _ => ?_⟩
    exact l β5 H5 (x2.trans x5 s5.nd) s5 σ (en2.mono s2 x5)
theorem s_while {c : Expr} {body : List Stmt} {k : CE} {b : CSs} {pos : Pos} (hp : PassesOwn (model X.prog X.w) X.A X.env X.xe) (hc : PT X c (tT X.K C k)) (hb : PSs X body (tSs X.K C n b)) : PS X (.While c body [] pos) (tSt X.K C n (.while k b)) :=
  PS.imp (ps_while hp hc hb) fun D σ H ⟨β, st, ρ, fl, ρ', st', s, en, e, l⟩ => by
    simp only [exS] at e
    refine ⟨fun m σ2 H2 => ∃ β2 st2 ρ2, Ext β H β2 H2 ∧ Sim X.K β2 st2 H2 ∧ EnvR X.K β2 H2 ρ2 σ2 ∧ whileL (fun σ st => evT C k σ st) (fun σ st => exs C n b σ st) m ρ2 st2 = some (fl, ρ', st'), ⟨n, β, st, ρ, .refl, s, en, e⟩, fun m σ2 H2 ⟨β2, st2, ρ2, x2, s2, en2, e2⟩ => ?_⟩
    cases m with
    | zero => simp only [whileL] at e2; cases e2
    | succ m =>
      simp only [whileL] at e2
      split at e2
      · cases e2
      · rename_i st3 e3
        simp only [Option.some.injEq, Prod.mk.injEq] at e2
        obtain ⟨rfl, rfl, rfl⟩ := e2
        refine seqT s2 en2 e3 fun β3 H3 x3 s3 en3 => ?_
        rw [if_neg Bool.false_ne_true]
        exact l β3 H3 (x2.trans x3 s3.nd) s3 σ2 en3
      · rename_i st3 e3
        refine seqT s2 en2 e3 fun β3 H3 x3 s3 en3 => ?_
        rw [if_pos rfl]
        have x03 := x2.trans x3 s3.nd
        refine ⟨fun σ' H' => ∃ β2 st2 ρ2, Ext β H β2 H' ∧ Sim X.K β2 st2 H' ∧ EnvR X.K β2 H' ρ2 σ' ∧ whileL (fun σ st => evT C k σ st) (fun σ st => exs C n b σ st) m ρ2 st2 = some (fl, ρ', st'), fun σ' H' h => ⟨m, Nat.lt_succ_self _, h⟩, ?_⟩
        cases hbody : exs C n b ρ2 st3 with
        | none => rw [hbody] at e2; cases e2
        | some r =>
          obtain ⟨fl4, ρ4, st4⟩ := r
          refine ⟨β3, st3, ρ2, fl4, ρ4, st4, s3, en3, hbody, fun β4 H4 x4 s4 => ?_⟩
          rw [hbody] at e2
          have x04 := x03.trans x4 s4.nd
          cases fl4 with
          | nx => exact fun σ4 en4 => ⟨β4, st4, ρ4, x04, s4, en4, e2⟩
          | ct => exact fun σ4 en4 => ⟨β4, st4, ρ4, x04, s4, en4, e2⟩
          | bk =>
            simp only [Option.some.injEq, Prod.mk.injEq] at e2
            obtain ⟨rfl, rfl, rfl⟩ := e2
            exact fun σ4 en4 => l β4 H4 x04 s4 σ4 en4
          | rt d =>
            simp only [Option.some.injEq, Prod.mk.injEq] at e2
            obtain ⟨rfl, rfl, rfl⟩ := e2
            exact fun v rv => l β4 H4 x04 s4 v rv
theorem s_for {tg iter : Expr} {body : List Stmt} {t : Tgt} {src : Src} {b : CSs} {pos : Pos} (hp : PassesOwn (model X.prog X.w) X.A X.env X.xe) (hc : X.calm = true) (hi : PI X tg iter (tS X.K C src)) (hg : PG X tg (tTg X.K t)) (hb : PSs X body (tSs X.K C n b))
    (hs : ∀ x, foldedSetIterable iter X.env x = pure x) : PS X (.For tg iter body [] pos) (tSt X.K C n (.for t src b)) :=
  PS.imp (ps_for hp hc hi hg hb hs) fun D σ H ⟨β, st, ρ, fl, ρ', st', s, en, e, l⟩ => by
    simp only [exS] at e
    split at e
    · cases e
    rename_i v st1 e1
    refine ⟨β, st, ρ, v, st1, s, en, e1, fun β1 H1 J x1 s1 it => ?_⟩
    refine ⟨fun i m σ2 H2 => m = v.xs.length - i ∧ i ≤ v.xs.length ∧ ∃ β2 st2 ρ2, Ext β1 H1 β2 H2 ∧ Sim X.K β2 st2 H2 ∧ EnvR X.K β2 H2 ρ2 σ2 ∧ forL v.ws (fun d σ => setT t d σ) (fun σ st => exs C n b σ st) (v.xs.drop i) ρ2 st2 = some (fl, ρ', st'),
      ⟨_, rfl, Nat.zero_le _, β1, st1, ρ, .refl, s1, en.mono s x1, by simpa using e⟩, fun i m σ2 H2 hw => ?_⟩
    obtain ⟨rfl, hi, β2, st2, ρ2, x2, s2, en2, e2⟩ := hw
    by_cases hlt : i < v.xs.length
    rotate_left
    · have hie : i = v.xs.length := by omega
      subst hie
      rw [List.drop_length] at e2
      simp only [forL] at e2
      split at e2
      · rename_i hk
        simp only [Option.some.injEq, Prod.mk.injEq] at e2
        obtain ⟨rfl, rfl, rfl⟩ := e2
        exact .inl ⟨it.stop β2 st2 H2 x2 s2 hk, l β2 H2 (x1.trans x2 s2.nd) s2 σ2 en2⟩
      · cases e2
    · have hd : v.xs.drop i = v.xs[i] :: v.xs.drop (i + 1) := List.drop_eq_getElem_cons hlt
      rw [hd] at e2
      simp only [forL] at e2
      split at e2
      rotate_left
      · cases e2
      rename_i hk
      split at e2
      · cases e2
      rename_i ρ3 hset
      obtain ⟨go, yl⟩ := it.turn β2 st2 H2 x2 s2 hk i v.xs[i] (by simp [hlt])
      refine .inr ⟨go, fun σ' H' => ∃ β2 st2 ρ2, Ext β1 H1 β2 H' ∧ Sim X.K β2 st2 H' ∧ EnvR X.K β2 H' ρ2 σ' ∧ forL v.ws (fun d σ => setT t d σ) (fun σ st => exs C n b σ st) (v.xs.drop (i + 1)) ρ2 st2 = some (fl, ρ', st'), fun σ' H' h => ⟨v.xs.length - (i + 1), by omega, rfl, hlt, h⟩, fun x H3 hy => ?_⟩
      obtain ⟨x3, s3, rx⟩ := yl x H3 hy
      refine ⟨β2, v.xs[i], ρ2, ρ3, rx, en2.mono s2 x3, hset, fun σ4 en4 oa => ?_⟩
      have x13 := x2.trans x3 s3.nd
      cases hbody : exs C n b ρ3 st2 with
      | none => rw [hbody] at e2; cases e2
      | some r =>
        obtain ⟨fl4, ρ4, st4⟩ := r
        refine ⟨β2, st2, ρ3, fl4, ρ4, st4, s3, en4, hbody, fun β4 H4 x4 s4 => ?_⟩
        rw [hbody] at e2
        have x14 := x13.trans x4 s4.nd
        cases fl4 with
        | nx => exact fun σ4 en4 => ⟨β4, st4, ρ4, x14, s4, en4, e2⟩
        | ct => exact fun σ4 en4 => ⟨β4, st4, ρ4, x14, s4, en4, e2⟩
        | bk =>
          simp only [Option.some.injEq, Prod.mk.injEq] at e2
          obtain ⟨rfl, rfl, rfl⟩ := e2
          exact fun σ4 en4 => l β4 H4 (x1.trans x14 s4.nd) s4 σ4 en4
        | rt d =>
          simp only [Option.some.injEq, Prod.mk.injEq] at e2
          obtain ⟨rfl, rfl, rfl⟩ := e2
          exact fun v rv => l β4 H4 (x1.trans x14 s4.nd) s4 v rv
end
end Mw

set_option Elab.async false
set_option linter.all false
set_option autoImplicit false
set_option maxRecDepth 100000
/-! PyC9: min and max with default=. -/
namespace Mw
open PySem PySem.Spec PyProof.Rows L2
theorem ints_alike (ns : List Int) : PySem.W.AlikeAll (ns.map PyData.int) := by
  refine ⟨fun x hx y hy => ?_, fun x hx => ?_⟩
  · obtain ⟨a, _, rfl⟩ := List.mem_map.mp hx
    obtain ⟨b, _, rfl⟩ := List.mem_map.mp hy
    rfl
  · obtain ⟨a, _, rfl⟩ := List.mem_map.mp hx
    intro h; cases h
theorem ints_depth : ∀ (ns : List Int), PyData.depthAll (ns.map PyData.int) ≤ 1
  | [] => by simp [PyData.depthAll]
  | n :: ns => by
    have := ints_depth ns
    simp only [List.map_cons, PyData.depthAll, PyData.depth]
    omega
section
variable {X : Cx} {C : Call}
def rMM (K : PySem.W.Frag) (mx : Bool) : List V → List V → Hp → VK → Prop := fun vs zs H Q => ∃ (a : Addr) (ns : List Int) (d : V), vs = [V.ref a] ∧ zs = [d] ∧ SqL K H a (ns.map V.int) ∧
  Q (match (if mx then maxI ns else minI ns) with | some i => .int i | none => d) H
theorem minI_min : ∀ (ns : List Int) (n : Int), ns.foldl (fun m y => if y < m then y else m) n = ns.foldl min n
  | [], n => rfl
  | y :: ns, n => by
    rw [List.foldl_cons, List.foldl_cons, minI_min ns]
    congr 1
    omega
theorem maxI_max : ∀ (ns : List Int) (n : Int), ns.foldl (fun m y => if y > m then y else m) n = ns.foldl max n
  | [], n => rfl
  | y :: ns, n => by
    rw [List.foldl_cons, List.foldl_cons, maxI_max ns]
    congr 1
    omega
theorem cr_minD (hc : X.calm = true) (hu : X.A.units + 65 < cLine) : CallRK X (.builtin "min") [Str.ofString "default"] (rMM X.K false) := by
  intro pins s σ H vs zs us ws Q I r rz h
  obtain ⟨a, ns, d, rfl, rfl, hs, q⟩ := h
  obtain ⟨its, rv, hl, _⟩ := I.list hs
  obtain rfl := Vals.ref1 r
  obtain ⟨w1, rfl, e1⟩ := vals1 rz
  have hd := ints_depth ns
  refine PySem.W.min_list_default (xs := ns.map PyData.int) (as := []) (I.ok.hd hc) hl.isList (by simpa using PyProof.Rows.IntsAre.reads s.heap rv.ints) (ints_alike ns) (by omega) (fun hz h' tk hk => ?_) fun y ys i v h' tk bs hz _ hr hk => ?_
  · have : ns = [] := List.map_eq_nil_iff.mp hz
    subst this
    exact ⟨d, H, I.kept hk, e1, q⟩
  · cases ns with
    | nil => cases hz
    | cons n ns =>
      simp only [List.map_cons, List.cons.injEq] at hz
      obtain ⟨rfl, rfl⟩ := hz
      rw [PySem.W.minD_ints] at hr
      cases hr
      refine ⟨.int (ns.foldl min n), H, I.kept hk, ⟨_, rfl⟩, ?_⟩
      simp only [minI, minI_min] at q
      exact q
theorem cr_maxD (hc : X.calm = true) (hu : X.A.units + 65 < cLine) : CallRK X (.builtin "max") [Str.ofString "default"] (rMM X.K true) := by
  intro pins s σ H vs zs us ws Q I r rz h
  obtain ⟨a, ns, d, rfl, rfl, hs, q⟩ := h
  obtain ⟨its, rv, hl, _⟩ := I.list hs
  obtain rfl := Vals.ref1 r
  obtain ⟨w1, rfl, e1⟩ := vals1 rz
  have hd := ints_depth ns
  refine PySem.W.max_list_default (xs := ns.map PyData.int) (as := []) (I.ok.hd hc) hl.isList (by simpa using PyProof.Rows.IntsAre.reads s.heap rv.ints) (ints_alike ns) (by omega) (fun hz h' tk hk => ?_) fun y ys i v h' tk bs hz _ hr hk => ?_
  · have : ns = [] := List.map_eq_nil_iff.mp hz
    subst this
    exact ⟨d, H, I.kept hk, e1, q⟩
  · cases ns with
    | nil => cases hz
    | cons n ns =>
      simp only [List.map_cons, List.cons.injEq] at hz
      obtain ⟨rfl, rfl⟩ := hz
      rw [PySem.W.maxD_ints] at hr
      cases hr
      refine ⟨.int (ns.foldl max n), H, I.kept hk, ⟨_, rfl⟩, ?_⟩
      simp only [maxI, maxI_max] at q
      exact q
theorem boot_min : bootBuiltins (Str.ofString "min") = some (.builtin "min") := by kernel_rfl
theorem boot_max : bootBuiltins (Str.ofString "max") = some (.builtin "max") := by kernel_rfl
theorem e_mm {mx : Bool} {x : Str} {e f : Expr} {a b : CE} {p kp pos : Pos} (hx : x = if mx then Str.ofString "max" else Str.ofString "min") (hp : plainE e = true) (hc : X.calm = true) (hu : X.A.units + 65 < cLine) (hg : Gl X x) (hm : X.mg x = none) (ha : PE X e (tE X.K C a)) (hb : PE X f (tE X.K C b)) :
    PE X (.Call (.Name x p) [e] [⟨some (Str.ofString "default"), f, kp⟩] pos) (tE X.K C (.mm mx a b)) := by
  have core : PE X (.Call (.Name x p) [e] [⟨some (Str.ofString "default"), f, kp⟩] pos) (tCKw (rMM X.K mx) (tCons (tE X.K C a) tNil) (tCons (tE X.K C b) tNil)) := by
    have hs : backTo pos (starEach [e] X.env) = (false, eval e X.env) :: backTo pos (starEach [] X.env) := by rw [star_plain hp]; rfl
    have hs2 : (backTo pos (starEach [e] X.env)).any (·.1) = false := stars_plain (by simp [hp])
    subst hx
    cases mx
    · exact pe_callBK (cr_minD hc hu) hg hm boot_min (pa_cons ha pa_nil (star_plain hp)) (pk_cons hb pk_nil) (by decide) (by decide) hs hs2
    · exact pe_callBK (cr_maxD hc hu) hg hm boot_max (pa_cons ha pa_nil (star_plain hp)) (pk_cons hb pk_nil) (by decide) (by decide) hs hs2
  refine PE.imp core fun σ H Q ⟨β, st, ρ, r, st', s, en, h, q⟩ => ?_
  simp only [ev] at h
  split at h
  · cases h
  rename_i y st1 e1
  split at h
  · cases h
  rename_i z st2 e2
  simp only [Option.map_eq_some_iff, Prod.mk.injEq] at h
  obtain ⟨w, e3, rfl, rfl⟩ := h
  unfold tCKw tCons tNil
  refine seq1 s en e1 fun v β1 H1 x1 s1 r1 en1 => seq1 s1 en1 e2 fun u β2 H2 x2 s2 r2 en2 => ?_
  have x12 := x1.trans x2 s2.nd
  unfold mmApp at e3
  split at e3
  · rename_i d
    simp only [Option.bind_eq_some_iff] at e3
    obtain ⟨zs, f1, ns, f2, e3⟩ := e3
    obtain ⟨q1, rfl, h1⟩ := listInts s2 (r1.mono s1 x2 s2.nd) f1 f2
    simp only [Option.some.injEq] at e3
    subst e3
    refine ⟨q1, ns, u, rfl, rfl, h1, ?_⟩
    cases hh : (if mx then maxI ns else minI ns) with
    | none =>
      rw [hh] at q
      exact q u β2 H2 x12 s2 r2
    | some i =>
      rw [hh] at q
      exact q (.int i) β2 H2 x12 s2 rfl
  · cases e3
end
end Mw

set_option Elab.async false
set_option linter.all false
set_option autoImplicit false
set_option maxRecDepth 100000
/-! PyB6: sorted, repr of data. -/
namespace Mw
open PySem PySem.Spec PyProof.Rows L2
section
variable {K : PySem.W.Frag} {β : List Addr} {st : Sto} {H H0 : Hp}
abbrev RU (K : PySem.W.Frag) (β : List Addr) (H : Hp) (u : Value) (d : D) : Prop := ∃ v, RelV v u ∧ Rep K β H d v
theorem each_rep : ∀ {us : List Value} {vs : List V} {xs : List D}, Vals vs us → RepL K β H xs vs → PySem.W.EachIs (RU K β H) us xs
  | _, _, [], hv, hr => by
    cases (show _ = [] from hr)
    cases hv
    exact .nil
  | _, _, x :: xs, hv, hr => by
    obtain ⟨v, r, rfl, h1, h2⟩ := hr
    cases hv with
    | cons q t => exact .cons ⟨v, q, h1⟩ (each_rep t h2)
theorem rep_each : ∀ {us : List Value} {xs : List D}, PySem.W.EachIs (RU K β H) us xs → ∃ vs, Vals vs us ∧ RepL K β H xs vs
  | _, _, .nil => ⟨[], .nil, rfl⟩
  | _, _, .cons ⟨v, q, h1⟩ t => by
    obtain ⟨vs, a, b⟩ := rep_each t
    exact ⟨v :: vs, .cons q a, v, vs, rfl, h1, b⟩
theorem mapO_map {α γ : Type} {f : α → Option γ} {g : α → γ} (hg : ∀ a c, f a = some c → g a = c) : ∀ {l : List α} {m : List γ}, mapO f l = some m → m = l.map g
  | [], m, h => by simp only [mapO, Option.some.injEq] at h; subst h; rfl
  | x :: xs, m, h => by
    simp only [mapO] at h
    split at h
    · rename_i y hy
      split at h
      · rename_i ys hys
        simp only [Option.some.injEq] at h; subst h
        rw [List.map_cons, hg x y hy, mapO_map hg hys]
      · cases h
    · cases h
theorem mapO_mem {α γ : Type} {f : α → Option γ} : ∀ {l : List α} {m : List γ}, mapO f l = some m → ∀ x ∈ l, ∃ y, f x = some y
  | [], m, h, x, hx => by simp at hx
  | z :: zs, m, h, x, hx => by
    simp only [mapO] at h
    split at h
    · rename_i y hy
      split at h
      · rename_i ys hys
        rcases List.mem_cons.mp hx with rfl | hx
        · exact ⟨y, hy⟩
        · exact mapO_mem hys x hx
      · cases h
    · cases h
theorem sortD_out {xs ys : List D} (h : sortD st xs = some ys) : (∀ x ∈ xs, toPy st 58 x = some (pyD st x)) ∧ PySem.W.AllAlike (xs.map (pyD st)) ∧ PySem.W.Sortable (xs.map (pyD st)) ∧ xs.length ≤ sizeLine ∧ ys = xs.mergeSort (PySem.W.dataLe false (pyD st)) := by
  unfold sortD at h
  split at h
  · rename_i ds hds
    split at h
    · rename_i hc
      simp only [Option.some.injEq] at h
      have e1 : ds = xs.map (pyD st) := mapO_map (fun a c q => by simp [pyD, q]) hds
      subst e1
      simp only [Bool.and_eq_true, Bool.or_eq_true, alikeD, List.all_eq_true] at hc
      obtain ⟨c1, c2, c3⟩ := hc
      refine ⟨fun x hx => ?_, fun d hd e he => c1 d hd e he, ?_, szOk_le c3, h.symm⟩
      · obtain ⟨y, hy⟩ := mapO_mem hds x hx
        simp [pyD, hy]
      · rcases c2 with c2 | c2
        · refine .inl fun d hd => ?_
          have := c2 d hd
          unfold tupC at this
          split at this
          · exact ⟨_, _, rfl⟩
          · cases this
        · refine .inr fun d hd => ?_
          have := c2 d hd
          constructor
          · rintro rfl; simp [notNT] at this
          · rintro zs rfl; simp [notNT] at this
    · cases h
  · cases h
end
theorem rvPy_depth {K : PySem.W.Frag} {β : List Addr} {st : Sto} {H H0 : Hp} {rx : RV} {x : V} (s : Sim K β st H) {p : PyData} (h : rvPy st rx = some p) (r : RRep K β H H0 rx x) : p.depth ≤ 60 := by
  cases rx with
  | val d => exact (toPy_dp s 60 d p x h r).2.2
  | tmp xs =>
    simp only [rvPy, Option.map_eq_some_iff] at h
    obtain ⟨ps, e, rfl⟩ := h
    obtain ⟨a, vs, _, _, _, _, r2⟩ := r
    have := (toPyL_dp s 59 xs ps vs e r2).2.2
    simp only [PyData.depth]
    omega
section
variable {X : Cx}
theorem bi_sortL (hu : X.A.units + 65 < cLine) : CallR X (.builtin "sorted") (rOf X.K biSortL) := by
  intro pins s σ H vs us Q I r h
  obtain ⟨β, st, H0, rs, rr, c, hr, e, q⟩ := h
  unfold biSortL at e
  split at e
  rotate_left
  · cases e
  obtain ⟨x, rfl, hx⟩ := one_rep hr
  simp only [Option.bind_eq_some_iff, Option.map_eq_some_iff] at e
  obtain ⟨zs, e1, ys, e2, rfl⟩ := e
  obtain ⟨a, ws, rfl, h1, h2⟩ := listOf_sq c.sim hx e1
  obtain ⟨its, rv, hl, hz⟩ := I.list h1
  obtain ⟨u, rfl, ru⟩ := vals1 r
  obtain rfl : u = Value.ref a := ru
  obtain ⟨p1, p2, p3, p4, p5⟩ := sortD_out e2
  have er := each_rep rv h2
  refine PySem.W.sorted_data (bs := zs) (enc := pyD st) (R := RU X.K β H) hl.isList er ?_ p2 p3 p4 (fun b hb => ?_) fun out ho eo => ?_
  · refine (PySem.W.each_mem er).mono fun u d ⟨⟨v, q1, q2⟩, hm⟩ => ?_
    obtain ⟨d1, d2, d3⟩ := toPy_dp c.sim 58 d _ v (p1 d hm) q2
    exact Dp.reads I _ _ _ d1 q1
  · have : ∃ v, Rep X.K β H b v := by
      obtain ⟨i, hi⟩ := List.getElem?_of_mem hb
      obtain ⟨v, _, hv⟩ := h2.get hi
      exact ⟨v, hv⟩
    obtain ⟨v, hv⟩ := this
    obtain ⟨_, _, d3⟩ := toPy_dp c.sim 58 b _ v (p1 b hb) hv
    omega
  · obtain ⟨vs', v1, v2⟩ := rep_each eo
    obtain ⟨n, hn⟩ := sortedAll_at s.heap its out.toArray
    have kp : ∀ b o, s.heap.get? b = some o → (sortedAll s.heap its out.toArray).get? b = some o := fun b o z => sortedAll_old z
    have hd : s.heap.objs.size ≤ s.heap.objs.size + 1 := Nat.le_succ _
    have hlen : vs'.length ≤ sizeLine := by rw [v1.length, ho]; exact p4
    refine ⟨.ref (s.heap.objs.size + 1), upd H (s.heap.objs.size + 1) (.lst vs'), I.laid (t' := s.toks) kp hd ⟨hlen, out, n, v1, hn⟩, rfl, ?_⟩
    subst p5
    exact q.tmp c v2 _ (I.hok.fresh hd)
theorem intsOf_id : ∀ is : List Int, intsOf (is.map D.int) = some is
  | [] => rfl
  | i :: is => by
    have := intsOf_id is
    simp only [intsOf] at this
    simp only [intsOf, List.map_cons, mapO, this]
theorem keys_ints : ∀ {kvs : List (D × D)} {ks : List (Key × V)} {is : List Int}, DicR kvs ks → intsOf (kvs.map (·.1)) = some is → ks.map (·.1) = is.map Sum.inl
  | [], ks, is, h, e => by
    cases ks with
    | nil => simp only [List.map_nil, intsOf, mapO, Option.some.injEq] at e; subst e; rfl
    | cons a l => simp [DicR] at h
  | p :: kvs, ks, is, h, e => by
    cases ks with
    | nil => simp [DicR] at h
    | cons a l =>
      simp only [DicR, List.map_cons, List.cons.injEq] at h
      have e1 := intsOf_eq e
      cases is with
      | nil => simp at e1
      | cons i is =>
        simp only [List.map_cons, List.cons.injEq] at e1
        have e2 : intsOf (kvs.map (·.1)) = some is := by rw [e1.2]; exact intsOf_id is
        have ih := keys_ints (show DicR kvs l from h.2) e2
        rw [List.map_cons, List.map_cons, ih]
        congr 1
        have h3 := h.1
        rw [e1.1] at h3
        cases ha : a.1 with
        | inl j => rw [ha] at h3; simp only [keyD, D.int.injEq] at h3; rw [h3]
        | inr j => rw [ha] at h3; simp [keyD] at h3
theorem bi_sortDI (hc : X.calm = true) : CallR X (.builtin "sorted") (rOf X.K biSortDI) := callR_mono (call_sortedDI hc) fun xs H Q h => by
  obtain ⟨β, st, H0, rs, rr, c, hr, e, q⟩ := h
  unfold biSortDI at e
  split at e
  rotate_left
  · cases e
  rename_i n
  obtain ⟨x, rfl, hx⟩ := one_rep hr
  split at e
  rotate_left
  · cases e
  rename_i lk kvs hz
  simp only [Option.bind_eq_some_iff] at e
  obtain ⟨is, e1, e2⟩ := e
  split at e2
  rotate_left
  · cases e2
  rename_i hl
  simp only [Option.some.injEq] at e2; subst e2
  obtain ⟨a, h1, rfl⟩ := hx
  obtain ⟨ks, h2, h3, h4⟩ := c.sim.dic h1 hz
  refine ⟨a, ks, is, rfl, h2, keys_ints h3 e1, of_decide_eq_true hl, fun ys p pm pw hp => ?_⟩
  have hpm : (is.mergeSort fun a b => decide (a ≤ b)).Perm is := List.mergeSort_perm ..
  have hpw : (is.mergeSort fun a b => decide (a ≤ b)).Pairwise (· ≤ ·) := by
    have := List.pairwise_mergeSort (le := fun a b : Int => decide (a ≤ b)) (fun a b c h1 h2 => by
      simp only [decide_eq_true_eq] at *; omega) (fun a b => by
      simp only [Bool.or_eq_true, decide_eq_true_eq]; omega) is
    simpa using this
  have ey : ys = is.mergeSort fun a b => decide (a ≤ b) := List.Perm.eq_of_pairwise (fun a b _ _ h1 h2 => Int.le_antisymm h1 h2) pw hpw (pm.trans hpm.symm)
  rw [ey]
  exact q.tmp c (RepL.ofInts _) p hp
theorem bi_sorted (hc : X.calm = true) (hu : X.A.units + 65 < cLine) : CallR X (.builtin "sorted") (rBi X.K .sorted) := rOf_or (bi_sortL hu) (bi_sortDI hc)
theorem bi_repr (hu : X.A.units + 65 < cLine) (gd : X.A.guards = some []) : CallR X (.builtin "repr") (rBi X.K .repr) := by
  intro pins s σ H vs us Q I r h
  obtain ⟨β, st, H0, rs, rr, c, hr, e, q⟩ := h
  simp only [biApp] at e
  unfold biRepr at e
  split at e
  rotate_left
  · cases e
  obtain ⟨x, rfl, hx⟩ := one_rep hr
  obtain ⟨u, rfl, ru⟩ := vals1 r
  split at e
  rotate_left
  · cases e
  rename_i p hp
  split at e
  rotate_left
  · cases e
  rename_i hc
  simp only [Option.some.injEq] at e; subst e
  simp only [Bool.and_eq_true, decide_eq_true_eq] at hc
  obtain ⟨c1, c2⟩ := hc
  have hz : p.shown.length ≤ sizeLine := by rw [sizeLine_eq]; exact c2
  obtain ⟨d1, d2⟩ := rvPy_dp c.sim hp hx
  obtain ⟨as, rd⟩ := Dp.reads I p x u d1 ru
  have hdep : p.depth ≤ 60 := rvPy_depth c.sim hp hx
  have hsm : p.hasDict = true → sysModules ∉ as := PyData.noDict_hsm (PyData.hasDict_of_canLay p (SeqAt.canLay_of_shaped d2))
  cases p with
  | none =>
    cases rd
    refine P.repr_of_none ⟨.str "None", H, I.tok _, ⟨_, rfl⟩, q.val c.sim rfl⟩
  | bool b =>
    cases rd
    refine P.repr_of_bool ⟨.str (if b then "True" else "False"), H, I.tok _, ⟨_, rfl⟩, q.val c.sim rfl⟩
  | int i =>
    cases rd
    refine P.repr_of_int (by simpa [PyData.showable] using c1) ⟨.str (toString i : String), H, I.tok _, ⟨_, rfl⟩, q.val c.sim rfl⟩
  | str z =>
    cases rd
    exact P.repr_of_str ⟨.str (reprText z), H, I.tok _, ⟨_, rfl⟩, q.val c.sim rfl⟩ hz
  | list zs =>
    cases rd with
    | list h1 h2 h3 h4 =>
      exact repr_of_reads' (.list h1 h2 h3 h4) c1 hsm gd (by omega) (fun _ _ z => z) (fun h' u tk hk => ⟨.str (PyData.shown (.list zs)), H, I.kept hk, ⟨_, rfl⟩, q.val c.sim rfl⟩) hz
  | tuple zs =>
    cases rd with
    | tuple h1 h2 h3 h4 =>
      exact repr_of_reads' (.tuple h1 h2 h3 h4) c1 hsm gd (by omega) (fun _ _ z => z) (fun h' u tk hk => ⟨.str (PyData.shown (.tuple zs)), H, I.kept hk, ⟨_, rfl⟩, q.val c.sim rfl⟩) hz
  | dict kvs =>
    have := SeqAt.canLay_of_shaped d2
    simp [PyData.canLay0] at this
end
end Mw

set_option Elab.async false
set_option linter.all false
set_option autoImplicit false
set_option maxRecDepth 100000
/-! PyB7: sum of tuples, the least and the greatest of data. -/
namespace Mw
open PySem PySem.Spec PyProof.Rows L2
section
variable {X : Cx}
theorem bi_sum (hc : X.calm = true) : CallR X (.builtin "sum") (rBi X.K .sum) := by
  intro pins s σ H vs us Q I r h
  obtain ⟨β, st, H0, rs, rr, c, hr, e, q⟩ := h
  simp only [biApp] at e
  unfold biSum at e
  split at e
  rotate_left
  · cases e
  obtain ⟨x, rfl, hx⟩ := one_rep hr
  simp only [Option.bind_eq_some_iff, Option.map_eq_some_iff] at e
  obtain ⟨zs, e1, ns, e2, rfl⟩ := e
  obtain ⟨a, ws, rfl, h1, h2⟩ := seqOf_sq c.sim hx e1
  have e3 := intsOf_eq e2
  subst e3
  have e4 := h2.ints
  subst e4
  rw [Vals.ref1 r]
  rcases h1 with h1 | h1
  · obtain ⟨its, rv, hl, _⟩ := I.list h1
    exact sum_raw (I.ok.hd hc) hl.isList rv.ints fun h' tk t' hk => ⟨.int _, H, I.kept hk, ⟨_, rfl⟩, q.val c.sim rfl⟩
  · obtain ⟨its, rv, hl, _⟩ := I.tuple h1
    have hi := rv.ints
    obtain ⟨xs, hx2⟩ := hi.allInts.items
    have hn : numsOf (intItems xs).toList = ns := by rw [← hx2]; exact hi.numsOf
    rw [nums_intItems] at hn
    rw [hx2] at hl
    refine PySem.W.ktm_sumG (I.ok.hd hc) hl fun h' tk t' hk => ?_
    rw [preSum_eq, List.take_of_length_le (by simp), hn]
    exact ⟨.int _, H, I.kept hk, ⟨_, rfl⟩, q.val c.sim rfl⟩
end
/-! ### the least of data -/
mutual
theorem pln_inj {st : Sto} : ∀ (k : Nat) (a b : D) (p : PyData), plnD a = true → plnD b = true → toPy st k a = some p → toPy st k b = some p → a = b
  | k, .ref _, _, _, h, _, _, _ => by simp [plnD] at h
  | k, .rol _, _, _, h, _, _, _ => by simp [plnD] at h
  | k, .non, b, p, _, hb, e, e' => by
    cases k <;> simp only [toPy, Option.some.injEq] at e <;> subst e <;> cases b <;> simp_all [toPy, plnD]
  | k, .bl x, b, p, _, hb, e, e' => by
    cases k <;> simp only [toPy, Option.some.injEq] at e <;> subst e <;> cases b <;> simp_all [toPy, plnD]
  | k, .int x, b, p, _, hb, e, e' => by
    cases k <;> simp only [toPy, Option.some.injEq] at e <;> subst e <;> cases b <;> simp_all [toPy, plnD]
  | k, .str x, b, p, _, hb, e, e' => by
    cases k <;> simp only [toPy] at e <;> split at e <;> simp only [Option.some.injEq, reduceCtorEq] at e <;> subst e <;> cases b <;> simp_all [toPy, plnD]
  | 0, .tup xs, b, p, _, hb, e, e' => by simp [toPy] at e
  | k + 1, .tup xs, b, p, ha, hb, e, e' => by
    simp only [toPy, Option.map_eq_some_iff] at e
    obtain ⟨ps, e1, rfl⟩ := e
    cases b with
    | tup ys =>
      simp only [toPy, Option.map_eq_some_iff] at e'
      obtain ⟨qs, e2, e3⟩ := e'
      cases e3
      rw [plnL_inj k xs ys ps (by simpa [plnD] using ha) (by simpa [plnD] using hb) e1 e2]
    | ref _ => simp [plnD] at hb
    | rol _ => simp [plnD] at hb
    | non => simp [toPy] at e'
    | bl _ => simp [toPy] at e'
    | int _ => simp [toPy] at e'
    | str _ => simp [toPy] at e'
theorem plnL_inj {st : Sto} : ∀ (k : Nat) (a b : List D) (p : List PyData), plnL a = true → plnL b = true → mapO (toPy st k) a = some p → mapO (toPy st k) b = some p → a = b
  | k, [], b, p, _, _, e, e' => by
    simp only [mapO, Option.some.injEq] at e; subst e
    cases b with
    | nil => rfl
    | cons y ys =>
      simp only [mapO] at e'
      split at e'
      · split at e' <;> cases e'
      · cases e'
  | k, x :: xs, b, p, ha, hb, e, e' => by
    simp only [plnL, Bool.and_eq_true] at ha
    simp only [mapO] at e
    split at e
    rotate_left
    · cases e
    rename_i px hpx
    split at e
    rotate_left
    · cases e
    rename_i pxs hpxs
    simp only [Option.some.injEq] at e; subst e
    cases b with
    | nil => simp [mapO] at e'
    | cons y ys =>
      simp only [plnL, Bool.and_eq_true] at hb
      simp only [mapO] at e'
      split at e'
      rotate_left
      · cases e'
      rename_i py hpy
      split at e'
      rotate_left
      · cases e'
      rename_i pys hpys
      simp only [Option.some.injEq, List.cons.injEq] at e'
      obtain ⟨rfl, rfl⟩ := e'
      rw [pln_inj k x y _ ha.1 hb.1 hpx hpy, plnL_inj k xs ys _ ha.2 hb.2 hpxs hpys]
end
theorem plnL_mem : ∀ {xs : List D}, plnL xs = true → ∀ x ∈ xs, plnD x = true
  | [], _, x, hx => nomatch hx
  | y :: ys, h, x, hx => by
    simp only [plnL, Bool.and_eq_true] at h
    rcases List.mem_cons.mp hx with rfl | hx
    · exact h.1
    · exact plnL_mem h.2 x hx
theorem fold_mem {α : Type} (f : α → α → Bool) : ∀ (l : List α) (x : α), l.foldl (fun a y => if f a y then y else a) x ∈ x :: l
  | [], x => List.mem_cons_self
  | y :: l, x => by
    simp only [List.foldl_cons]
    have := fold_mem f l (if f x y then y else x)
    rcases List.mem_cons.mp this with h | h
    · rw [h]; split <;> simp
    · exact List.mem_cons_of_mem _ (List.mem_cons_of_mem _ h)
theorem fold_map {α β : Type} (g : α → β) (f : β → β → Bool) : ∀ (l : List α) (x : α), (l.map g).foldl (fun a y => if f a y then y else a) (g x) = g (l.foldl (fun a y => if f (g a) (g y) then y else a) x)
  | [], x => rfl
  | y :: l, x => by
    simp only [List.map_cons, List.foldl_cons]
    have e : (if f (g x) (g y) = true then g y else g x) = g (if f (g x) (g y) = true then y else x) := by split <;> rfl
    rw [e, fold_map g f l]
theorem mmD_out {mx : Bool} {st : Sto} {xs : List D} {d : D} (h : mmD mx st xs = some d) : ∃ y ys, xs = y :: ys ∧ (∀ x ∈ xs, toPy st 58 x = some (pyD st x)) ∧ PySem.W.AlikeAll (xs.map (pyD st)) ∧ plnL xs = true ∧ d ∈ xs ∧
    pyD st d = (if mx then PySem.W.maxD (pyD st y) (ys.map (pyD st)) else PySem.W.minD (pyD st y) (ys.map (pyD st))) := by
  unfold mmD at h
  split at h
  rotate_left
  · cases h
  rename_i ds hds
  split at h
  rotate_left
  · cases h
  rename_i hc
  have e1 : ds = xs.map (pyD st) := mapO_map (fun a c q => by simp [pyD, q]) hds
  subst e1
  simp only [Bool.and_eq_true, alikeD, List.all_eq_true] at hc
  obtain ⟨c1, c2, c3⟩ := hc
  split at h
  · cases h
  rename_i y ys
  simp only [Option.some.injEq] at h
  refine ⟨y, ys, rfl, fun x hx => ?_, ⟨fun d hd e he => c1 d hd e he, fun d hd => ?_⟩, c3, ?_, ?_⟩
  · obtain ⟨z, hz⟩ := mapO_mem hds x hx
    simp [pyD, hz]
  · have := c2 d hd
    rintro rfl
    simp [notNn] at this
  · rw [← h]; exact fold_mem _ _ _
  · rw [← h]
    cases mx with
    | true => simp only [if_true]; exact (fold_map (pyD st) (fun a y => PySem.W.dataLt a y) ys y).symm
    | false => simp only [Bool.false_eq_true, if_false]; exact (fold_map (pyD st) (fun a y => PySem.W.dataLt y a) ys y).symm
theorem each_at {R : Value → D → Prop} : ∀ {us : List Value} {xs : List D}, PySem.W.EachIs R us xs → ∀ (i : Nat) (u : Value), us[i]? = some u → ∃ x, x ∈ xs ∧ R u x
  | _, _, .nil, i, u, h => by simp at h
  | _, _, .cons r t, 0, u, h => by
    have e := Option.some.inj (show some _ = some u from h)
    subst e
    exact ⟨_, List.mem_cons_self, r⟩
  | _, _, .cons r t, i + 1, u, h => by
    obtain ⟨x, h1, h2⟩ := each_at t i u (by simpa using h)
    exact ⟨x, List.mem_cons_of_mem _ h1, h2⟩
theorem depthAll_le : ∀ {ds : List PyData} {k : Nat}, (∀ d ∈ ds, d.depth ≤ k) → PyData.depthAll ds ≤ k
  | [], k, _ => by simp [PyData.depthAll]
  | x :: xs, k, h => by
    have h1 := h x List.mem_cons_self
    have h2 := depthAll_le (ds := xs) (k := k) fun y hy => h y (List.mem_cons_of_mem _ hy)
    simp only [PyData.depthAll]
    omega
section
variable {X : Cx}
theorem bi_mmD (mx : Bool) (hc : X.calm = true) (hu : X.A.units + 65 < cLine) : CallR X (.builtin (if mx then "max" else "min")) (rOf X.K (biMmD mx)) := by
  intro pins s σ H vs us Q I r h
  obtain ⟨β, st, H0, rs, rr, c, hr, e, q⟩ := h
  unfold biMmD at e
  split at e
  rotate_left
  · cases e
  obtain ⟨x, rfl, hx⟩ := one_rep hr
  simp only [Option.bind_eq_some_iff, Option.map_eq_some_iff] at e
  obtain ⟨zs, e1, d, e2, rfl⟩ := e
  obtain ⟨a, ws, rfl, h1, h2⟩ := seqOf_sq c.sim hx e1
  obtain ⟨y, ys, rfl, p1, p2, p3, p4, p5⟩ := mmD_out e2
  rw [Vals.ref1 r]
  have key : ∀ (its : List Value), Vals ws its → (∀ {P : Prop}, (∀ (as : List Addr), ReadsAll s.heap its (((y :: ys).map (pyD st))) as → P) → P) ∧
      (∀ (i : Nat) (v : Value) (h' : Heap) (tk : Nat) (bs : List Addr), its[i]? = some v → Reads h' v (if mx then PySem.W.maxD (pyD st y) (ys.map (pyD st)) else PySem.W.minD (pyD st y) (ys.map (pyD st))) bs → (∀ b o, s.heap.get? b = some o → h'.get? b = some o) →
        ∃ V H1, Inv X pins σ H1 { s with heap := h', toks := tk } ∧ RelV V v ∧ Q V H1) := by
    intro its rv
    have er := each_rep rv h2
    have er2 : PySem.W.EachIs (fun v b => ∃ as, Reads s.heap v (pyD st b) as) its (y :: ys) := (PySem.W.each_mem er).mono fun u d ⟨⟨v, q1, q2⟩, hm⟩ => by
      obtain ⟨d1, d2, d3⟩ := toPy_dp c.sim 58 d _ v (p1 d hm) q2
      exact Dp.reads I _ _ _ d1 q1
    refine ⟨fun {P} hP => ?_, fun i v h' tk bs hi hrd hk => ?_⟩
    · obtain ⟨as, ha⟩ := PySem.W.each_readsAll (pyD st) er2
      exact hP as ha
    · obtain ⟨x', hx', ⟨V, q1, q2⟩⟩ := each_at er i v hi
      refine ⟨V, H, I.kept hk, q1, ?_⟩
      obtain ⟨x2, hx2, as, hr2⟩ := each_at er2 i v hi
      have hd1 : Dp X.K H V (pyD st x') := (toPy_dp c.sim 58 x' _ V (p1 x' hx') q2).1
      obtain ⟨as', hr3⟩ := Dp.reads I _ _ _ hd1 q1
      have hr4 : Reads h' v (pyD st x') as' := PySem.W.reads_keeps hk hr3
      rw [← p5] at hrd
      have e6 : pyD st x' = pyD st d := PySem.W.alike_unique _ _ _ _ _ (p2.1 _ (List.mem_map_of_mem hx') _ (List.mem_map_of_mem p4)) hr4 hrd
      have e7 : x' = d := pln_inj 58 x' d _ (plnL_mem p3 x' hx') (plnL_mem p3 d p4) (p1 x' hx') (by rw [e6]; exact p1 d p4)
      subst e7
      exact q.val c.sim q2
  have hdep : X.A.units + 1 + PyData.depthAll ((y :: ys).map (pyD st)) < cLine := by
    have : PyData.depthAll ((y :: ys).map (pyD st)) ≤ 58 := depthAll_le fun d hd => by
      obtain ⟨x', hx', rfl⟩ := List.mem_map.mp hd
      obtain ⟨i, hi⟩ := List.getElem?_of_mem hx'
      obtain ⟨v, _, hv⟩ := h2.get hi
      exact (toPy_dp c.sim 58 x' _ v (p1 x' hx') hv).2.2
    omega
  rcases h1 with h1 | h1
  · obtain ⟨its, rv, hl, _⟩ := I.list h1
    obtain ⟨k1, k2⟩ := key its rv
    refine k1 fun as ha => ?_
    cases mx with
    | true => exact PySem.W.max_list_data (I.ok.hd hc) hl.isList (by simpa using ha) p2 hdep fun i v h' tk bs hi hrd hk => k2 i v h' tk bs (by simpa using hi) hrd hk
    | false => exact PySem.W.min_list_data (I.ok.hd hc) hl.isList (by simpa using ha) p2 hdep fun i v h' tk bs hi hrd hk => k2 i v h' tk bs (by simpa using hi) hrd hk
  · obtain ⟨its, rv, hl, _⟩ := I.tuple h1
    obtain ⟨k1, k2⟩ := key its rv
    refine k1 fun as ha => ?_
    cases mx with
    | true => exact PySem.W.max_tuple_data (I.ok.hd hc) hl (by simpa using ha) p2 hdep fun i v h' tk bs hi hrd hk => k2 i v h' tk bs (by simpa using hi) hrd hk
    | false => exact PySem.W.min_tuple_data (I.ok.hd hc) hl (by simpa using ha) p2 hdep fun i v h' tk bs hi hrd hk => k2 i v h' tk bs (by simpa using hi) hrd hk
theorem bi_max (hc : X.calm = true) (hu : X.A.units + 65 < cLine) : CallR X (.builtin "max") (rBi X.K .max) := rOf_or (bi_maxI hc) (bi_mmD true hc hu)
theorem bi_min (hc : X.calm = true) (hu : X.A.units + 65 < cLine) : CallR X (.builtin "min") (rBi X.K .min) := rOf_or (bi_minI hc) (bi_mmD false hc hu)
end
end Mw

set_option Elab.async false
set_option linter.all false
set_option maxRecDepth 100000
set_option maxHeartbeats 4000000
/-! PyB8: a list's numbers, each once, in order: sorted of a set of a list. -/
namespace Mw
open PySem PySem.Spec PyProof.Rows L2
section
variable {P : Program} {w : World} {A : Around} {E : Value → Shared → Prop} {s : Shared}
/-- the object that a set begins as -/
abbrev seO (w : World) : Obj := { cls := .type "set", dict := none, data := .set #[] 0 (.fresh 0 0 (!w.params.followText "set-order")) }
/-- what filling it ends with -/
def setEnd (w : World) (s : Shared) (ns : List Int) (s2 : Shared) : Prop :=
  ∃ (h' : Heap) (tk c : Nat), s2 = { s with heap := h', toks := tk } ∧ SetR w h' s.heap.objs.size (fun j => decide (j ∈ ns)) c ∧ ∀ b o, s.heap.get? b = some o → h'.get? b = some o
theorem set_list {l : Addr} {items : Array Value} (ns : List Int) {Q : Value → Shared → Prop} (hh : A.handled = none) (hl : s.heap.IsList l items) (hit : IntsAre items.toList ns) (hb : ns.length + 1 < scanBound)
    (h : ∀ s2, setEnd w s ns s2 → Q (.ref s.heap.objs.size) s2) : wpAny (model P w) A (call (.type "set") [.ref l]) Q E s := by
  have hn : items.size = ns.length := by have := IntsAre.length hit; rwa [Array.length_toList] at this
  obtain ⟨c0, tl, hmro⟩ := PySem.F.called_set.mro
  have hmade := PySem.F.called_set.made
  have hsub := PySem.F.called_set.sub
  have h1 := PySem.F.called_set.notType
  have h2 := PySem.F.called_set.canCreate
  have hct := PySem.F.typeCall_set_1 (.ref l)
  have hli := PySem.F.called_set.init.lookup
  have hbi := PySem.F.called_set.init.bind (.ref s.heap.objs.size)
  have hz : (s.heap.push (seO w)).objs.size = s.heap.objs.size + 1 := Heap.size_push ..
  have hS : (s.heap.push (seO w)).get? s.heap.objs.size = some (seO w) := Heap.get?_push_size _ rfl
  have hT : Shared.TypeIs { s with heap := s.heap.push (seO w) } (.ref s.heap.objs.size) "set" := ⟨_, hS, rfl⟩
  refine wpAny_call (codeAny_of_tree ?_)
  show wpAny _ _ (callAny (.type "set") _) _ _ _
  refine wpAny_pure ⟨Code.quiet_builtin _ (by decide +kernel), codeAny_builtin PySem.F.entry_type_call ?_⟩
  rw [Around.under_plain (weight_type_call_type "set" [.ref l] []) rfl]
  repeat (any_goals (first | assumption | wp_step))
  refine codeAny_mono (code_set_led1 (.ref l) (E := E) (Q₁ := fun ob s1 => ob = .ref s.heap.objs.size ∧ s1 = { s with heap := s.heap.push (seO w) }) ⟨rfl, rfl⟩) fun r s1 hr => ?_
  cases r with
  | error e => exact hr
  | ok fl =>
    cases fl with
    | ret ob =>
      obtain ⟨rfl, rfl⟩ := hr
      repeat (any_goals (first | assumption | wp_step))
      refine codeAny_mono (codeAny_call_builtin (R := wants (fun r s2 => r = .none ∧ setEnd w s ns s2) E) PySem.F.called_set.init.plain PySem.F.entry_set_init (check_set_init_1 hT ?_)) fun r2 s2 hr2 => ?_
      · have hl1 : (s.heap.push (seO w)).IsList l items := hl.push _
        obtain ⟨ol, hol, hcl, nl, hdl⟩ := hl
        obtain ⟨ocls, odict, odata, oslots⟩ := ol
        simp only at hcl hdl
        subst hcl; subst hdl
        have hol' : (s.heap.push (seO w)).get? l = some { cls := .type "list", dict := odict, data := .seq items nl, slots := oslots } := Heap.get?_push_of_some _ hol
        have hlS : l < s.heap.objs.size := Heap.lt_size hol
        have hsls := PySem.F.sub_list_set
        have hslf := PySem.F.sub_list_frozenset
        have hne : (Value.type "list" == Value.type "dict") = false := by decide
        have hh3 : A.in1.in1.in1.handled = none := by simp [hh]
        have hI1 : l ≠ (s.heap.push (seO w)).objs.size := by rw [hz]; exact Nat.ne_of_lt (Nat.lt_succ_of_lt hlS)
        have hI2 : s.heap.objs.size ∉ [(s.heap.push (seO w)).objs.size, l] := by
          simp only [hz, List.mem_cons, List.not_mem_nil, or_false, not_or]
          exact ⟨Nat.ne_of_lt (Nat.lt_succ_self _), Nat.ne_of_gt hlS⟩
        unfold Builtin.«set.__init__» noKeywords Builtin.Frozenset.updateFrom
        generalize hPI : pyIter = PI
        wp_walk
        subst hPI
        refine wpAny_pyIter_list hl1 ?_
        refine wpAny_bind (wpAny_runValue ?_)
        refine set_update_ints ((Walks.list hh3 _ l hI1 items).toS) s.heap.objs.size hI2 ns hn hb (fun i v hv => ?_) (items.size - 0) 0 _ (by omega) (Nat.zero_le _) ⟨⟨_, Heap.get?_push_size _ rfl, rfl, rfl⟩, hl1.push _⟩ ⟨0, Nat.le_refl 0, setR_new_at (Heap.get?_push_of_some _ hS)⟩ fun s3 c3 hm hc3 hS3 => ?_
        · have hi : i < ns.length := by rw [← hn]; exact (Array.getElem?_eq_some_iff.mp hv).1
          obtain ⟨t, e⟩ := IntsAre.int_at hit i v (by rw [Array.getElem?_toList]; exact hv)
          exact ⟨ns[i], t, List.getElem?_eq_getElem hi, by rw [e, List.getD_eq_getElem?_getD, List.getElem?_eq_getElem hi]; rfl⟩
        · obtain ⟨h3, g3, d3, tk3, os3⟩ := s3
          obtain rfl : g3 = s.gens := hm.gens
          obtain rfl : d3 = s.drawn := hm.drawn
          obtain rfl : os3 = s.os := hm.os
          show wpAny _ _ _ _ _ _
          refine wpAny_pure ?_
          show wpAny _ _ (ret Value.none) _ _ _
          refine wpAny_pure ⟨rfl, h3, tk3, c3, rfl, hS3, fun b o e => ?_⟩
          have hb0 : b < s.heap.objs.size := Heap.lt_size e
          refine hm.heap b o ?_ (Heap.get?_push_of_some _ (Heap.get?_push_of_some _ e))
          simp only [hz, List.mem_cons, List.mem_singleton, List.not_mem_nil, or_false, not_or]
          exact ⟨Nat.ne_of_lt hb0, Nat.ne_of_lt (Nat.lt_succ_of_lt hb0)⟩
      · cases r2 with
        | error e => exact hr2
        | ok fl2 =>
          cases fl2 with
          | ret r =>
            obtain ⟨rfl, he⟩ := hr2
            repeat (any_goals (first | assumption | wp_step))
            exact h _ he
          | _ => exact hr2.elim
    | _ => exact hr.elim
end
/-! ### each number once -/
theorem nubI_mem : ∀ {xs : List Int} {k : Int}, k ∈ nubI xs ↔ k ∈ xs
  | [], k => by simp [nubI]
  | x :: xs, k => by
    simp only [nubI, List.mem_cons, List.mem_filter, nubI_mem (xs := xs), decide_eq_true_eq]
    by_cases h : k = x <;> simp [h]
theorem nubI_nd : ∀ xs : List Int, (nubI xs).Nodup
  | [] => List.nodup_nil
  | x :: xs => by
    refine List.nodup_cons.mpr ⟨fun h => ?_, (nubI_nd xs).filter _⟩
    have := (List.mem_filter.mp h).2
    simp at this
theorem nd_len {a b : List Int} (ha : a.Nodup) (hb : b.Nodup) (h : ∀ k, k ∈ a ↔ k ∈ b) : a.length = b.length :=
  ((List.perm_ext_iff_of_nodup ha hb).mpr h).length_eq
theorem inc_ext : ∀ {a b : List Int}, a.Pairwise (· < ·) → b.Pairwise (· < ·) → (∀ k, k ∈ a ↔ k ∈ b) → a = b
  | [], [], _, _, _ => rfl
  | [], y :: b, _, _, h => by have := (h y).mpr List.mem_cons_self; cases this
  | x :: a, [], _, _, h => by have := (h x).mp List.mem_cons_self; cases this
  | x :: a, y :: b, ha, hb, h => by
    obtain ⟨a1, a2⟩ := List.pairwise_cons.mp ha
    obtain ⟨b1, b2⟩ := List.pairwise_cons.mp hb
    have hxy : x = y := by
      rcases List.mem_cons.mp ((h x).mp List.mem_cons_self) with e | e
      · exact e
      · rcases List.mem_cons.mp ((h y).mpr List.mem_cons_self) with e2 | e2
        · exact e2.symm
        · have := b1 x e; have := a1 y e2; omega
    subst hxy
    have : a = b := inc_ext a2 b2 fun k => by
      constructor
      · intro hk
        rcases List.mem_cons.mp ((h k).mp (List.mem_cons_of_mem _ hk)) with e | e
        · have := a1 k hk; omega
        · exact e
      · intro hk
        rcases List.mem_cons.mp ((h k).mpr (List.mem_cons_of_mem _ hk)) with e | e
        · have := b1 k hk; omega
        · exact e
    rw [this]
theorem sortI_mem {xs : List Int} {k : Int} : k ∈ sortI xs ↔ k ∈ xs := by
  unfold sortI
  rw [(List.mergeSort_perm _ _).mem_iff, nubI_mem]
theorem sortI_inc (xs : List Int) : (sortI xs).Pairwise (· < ·) := by
  unfold sortI
  have h1 := List.pairwise_mergeSort (le := fun a b : Int => decide (a ≤ b)) (fun a b c h1 h2 => by simp only [decide_eq_true_eq] at *; omega) (fun a b => by simp only [Bool.or_eq_true, decide_eq_true_eq]; omega) (nubI xs)
  have h2 : ((nubI xs).mergeSort fun a b => decide (a ≤ b)).Nodup := (List.mergeSort_perm _ _).nodup_iff.mpr (nubI_nd xs)
  refine lt_of_le_nodup _ ?_ h2
  exact h1.imp fun h => by simpa using h
theorem sortI_len (xs : List Int) : (sortI xs).length = (nubI xs).length := (List.mergeSort_perm _ _).length_eq
section
variable {X : Cx}
def rSetL (K : PySem.W.Frag) (w : World) : List V → Hp → VK → Prop := fun xs H Q => ∃ (l : Addr) (ns : List Int), xs = [V.ref l] ∧ SqL K H l (ns.map V.int) ∧ ns.length ≤ 4000 ∧
  ∀ p c, c = (nubI ns).length → H p = none → Q (.ref p) (upd H p (SetO w p (fun j => decide (j ∈ ns)) c))
theorem cr_setL (hc : X.calm = true) : CallR X (.type "set") (rSetL X.K X.w) := by
  intro pins s σ H vs us Q I r h
  obtain ⟨l, ns, rfl, hq, hl, q⟩ := h
  rw [Vals.ref1 r]
  obtain ⟨its, rv, hI, hz⟩ := I.list hq
  refine set_list ns (I.ok.hd hc) hI.isList (by simpa using rv.ints) (by unfold scanBound; omega) fun s2 he => ?_
  obtain ⟨h', tk, c, rfl, hR, hk⟩ := he
  have hc2 : c = (nubI ns).length := by
    obtain ⟨o, es, ep, t, ho, hex, hd, g, nd, hm, hb, hf, hn, hr, hl⟩ := id hR
    rw [← hn, ← Array.length_toList, ← List.length_map (f := keyOf)]
    refine nd_len nd (nubI_nd ns) fun k => ?_
    rw [nubI_mem, ← hm k, decide_eq_true_eq]
  have hfree : H s.heap.objs.size = none := I.hok.fresh (Nat.le_refl _)
  have J : Inv X pins σ (upd H s.heap.objs.size (SetO X.w s.heap.objs.size (fun j => decide (j ∈ ns)) c)) { s with heap := h', toks := tk } := I.laid hk (Nat.le_refl _) (setO_new hR)
  exact ⟨.ref s.heap.objs.size, _, J, rfl, q _ c hc2 hfree⟩
end
end Mw

set_option Elab.async false
set_option linter.all false
set_option autoImplicit false
set_option maxRecDepth 100000
/-! PyB9: sorted(set(e)). -/
namespace Mw
open PySem PySem.Spec PyProof.Rows L2
section
variable {X : Cx} {C : Call} {es : CEs} {e : Expr}
theorem rep_ints {K : PySem.W.Frag} {β : List Addr} {H : Hp} : ∀ ns : List Int, RepL K β H (ns.map .int) (ns.map V.int)
  | [] => rfl
  | n :: ns => ⟨_, _, rfl, rfl, rep_ints ns⟩
/-- a built-in's reading, by what it does -/
def tSe (K : PySem.W.Frag) (C : Call) (f : Sto → List RV → Option RV) (es : CEs) : TE := fun σ H Q =>
  ∃ β st ρ rs st1 z, Sim K β st H ∧ EnvR K β H ρ σ ∧ evR C es ρ st = some (rs, st1) ∧ f st1 rs = some z ∧ ∀ v β' H', Ext β H β' H' → Sim K β' st1 H' → RRep K β' H' H z v → Q v H'
theorem tSe_or {K : PySem.W.Frag} {f g : Sto → List RV → Option RV} {b : BI} (hb : ∀ st rs, biApp st b rs = orE (f st rs) (g st rs)) {σ : L2.St} {H : Hp} {Q : VK} (h : tE K C (.bi b es) σ H Q) : tSe K C f es σ H Q ∨ tSe K C g es σ H Q := by
  obtain ⟨β, st, ρ, r, st', s, en, h, q⟩ := h
  simp only [ev] at h
  split at h
  · cases h
  rename_i rs st1 e1
  simp only [Option.map_eq_some_iff, Prod.mk.injEq] at h
  obtain ⟨z, e2, rfl, rfl⟩ := h
  rw [hb] at e2
  unfold orE at e2
  split at e2
  · rename_i y hy
    cases e2
    exact .inl ⟨β, st, ρ, rs, st1, _, s, en, e1, hy, q⟩
  · exact .inr ⟨β, st, ρ, rs, st1, _, s, en, e1, e2, q⟩
theorem e_setI {p p2 pos pos2 : Pos} (hp : plainE e = true) (hc : X.calm = true) (hg : Gl X "sorted") (hm : X.mg "sorted" = none) (hg2 : Gl X "set") (hm2 : X.mg "set" = none) (ha : PA X [e] (tR X.K C es)) :
    PE X (.Call (.Name "sorted" p) [.Call (.Name "set" p2) [e] [] pos2] [] pos) (tSe X.K C biSetI es) :=
  PE.imp (pe_callB (cr_sortedSet hc) hg hm (by rfl) (pa_cons (pe_callTy (cr_setL hc) hg2 hm2 (by rfl) ha (he := star_plain hp) (hpl := stars_plain rfl)) pa_nil (star_plain rfl)) (he := star_plain rfl) (hpl := stars_plain rfl)) fun σ H Q h => by
    obtain ⟨β, st, ρ, rs, st1, z, s, en, e1, e2, q⟩ := h
    unfold biSetI at e2
    split at e2
    rotate_left
    · cases e2
    simp only [Option.bind_eq_some_iff] at e2
    obtain ⟨xs, e3, ns, e4, e5⟩ := e2
    split at e5
    rotate_left
    · cases e5
    rename_i hb
    simp only [Bool.and_eq_true, decide_eq_true_eq] at hb
    cases e5
    refine ⟨β, st, ρ, _, st1, s, en, e1, fun vs β1 H1 x1 s1 r1 => ?_⟩
    obtain ⟨v, rfl, hv⟩ := one_rep r1
    obtain ⟨l, ws, rfl, h1, h2⟩ := listOf_sq s1 hv e3
    have e6 := intsOf_eq e4
    subst e6
    have e7 := h2.ints
    subst e7
    refine ⟨l, ns, rfl, h1, hb.1, fun a c hc hfree => ?_⟩
    refine ⟨a, _, c, rfl, upd_same, by omega, fun ns2 b hi hmem hlen hfb => ?_⟩
    have hn : ns2 = sortI ns := inc_ext hi (sortI_inc ns) fun k => by rw [hmem k, sortI_mem, decide_eq_true_eq]
    subst hn
    have x2 : Ext β1 H1 β1 (upd H1 a (SetO X.w a (fun j => decide (j ∈ ns)) c)) := Ext.new hfree
    have s2 := s1.new (o := SetO X.w a (fun j => decide (j ∈ ns)) c) hfree
    have x12 := x1.trans x2 s1.nd
    exact q _ β1 _ (x12.trans (Ext.new hfb) s2.nd) (s2.new hfb) ⟨b, _, rfl, upd_same, s2.off hfb, x12.free hfb fun hm => s2.off hfb (x12.mem hm), rep_ints _⟩
end
end Mw

set_option Elab.async false
set_option linter.all false
set_option autoImplicit false
set_option maxRecDepth 100000
set_option maxHeartbeats 1000000
/-! PyB10: list(reversed(t)), t a tuple. -/
namespace Mw
open PySem PySem.Spec PyProof.Rows L2 RT
theorem nolen_rt : typeLookup (.type "reversed") "__len__" = pure none := by rw [typeLookup_type, builtinLookup_eq_fast]; kernel_rfl
theorem hint_rt : typeLookup (.type "reversed") "__length_hint__" = pure (some (.builtin "reversed.__length_hint__")) := by rw [typeLookup_type, builtinLookup_eq_fast]; kernel_rfl
theorem IsTup.at' {h h' : Heap} {a : Addr} {items : Array Value} (x : IsTup h a items) (e : ∀ o, h.get? a = some o → h'.get? a = some o) : IsTup h' a items := let ⟨o, ho, r⟩ := x; ⟨o, e _ ho, r⟩
theorem tupRev {prog : Program} {w : World} {A : Around} (hh : A.handled = none) (I l : Addr) (hne : l ≠ I) (items : Array Value) (hz : items.size ≤ sizeLine) :
    Walks prog w A I [I, l] [I] items.size (fun i v => items[items.size - 1 - i]? = some v) (fun i h => i ≤ items.size ∧ IsRt h I l ((items.size : Int) - 1 - (i : Int)) ∧ IsTup h l items) where
  sub := fun b hb => by simp at hb; simp [hb]
  frame := fun _ _ _ x hk => ⟨x.1, x.2.1.at fun o e => hk I (by simp) o e, IsTup.at' x.2.2 fun o e => hk l (by simp) o e⟩
  item := fun i s Q E hi x hQ => by
    have e : (items.size : Int) - 1 - (i : Int) = ((items.size - 1 - i : Nat) : Int) := by omega
    have hit := x.2.1
    rw [e] at hit
    have hx : items[items.size - 1 - i]? = some (items[items.size - 1 - i]'(by omega)) := Array.getElem?_eq_getElem (by omega)
    refine next_rt_item hit x.2.2 hx hz fun h' hit' hs' => ?_
    have e2 : ((items.size - 1 - i : Nat) : Int) - 1 = (items.size : Int) - 1 - ((i + 1 : Nat) : Int) := by omega
    rw [e2] at hit'
    exact hQ _ h' (s.toks + 1) hx ⟨hi, hit', IsTup.at' x.2.2 fun o eo => (hs'.2 l hne).trans eo⟩ fun b o hb eo => hs'.extBut b o (fun h => hb (by simp [h])) eo
  done := fun s Q E x hQ => by
    have e : (items.size : Int) - 1 - (items.size : Int) = -1 := by omega
    have hit := x.2.1
    rw [e] at hit
    exact next_rt_end hh hit fun h' he' => hQ h' s.toks fun b o hb eo => he' b o (fun h => hb (by simp [h])) eo
  self := fun _ _ _ _ x hQ => iter_rt x.2.1 hQ
theorem slot_rt_hint : Slot "reversed" "__length_hint__" "reversed.__length_hint__" :=
  .of (owner := "reversed") (n := "__length_hint__") (by rw [typeLookup_type, builtinLookup_eq_fast]; kernel_rfl) (by decide +kernel) (by decide +kernel) (by decide +kernel)
    (by first | exact .inl (by decide +kernel) | exact .inr (by decide +kernel)) (by rw [isSubtype_type]; kernel_rfl)
theorem entry_rt_hint : entryFor table "reversed.__length_hint__" = some Builtin.«reversed.__length_hint__» := entryFor_of_tree (by kernel_rfl)
theorem args_rt_hint (a : Value) : argsOk "reversed.__length_hint__" ⟨[a], []⟩ := by
  unfold argsOk; rw [signature?_of (id := "reversed.__length_hint__") (n := ['_', '_', 't', 'n', 'i', 'h', '_', 'h', 't', 'g', 'n', 'e', 'l', '_', '_']) (o := ['d', 'e', 's', 'r', 'e', 'v', 'e', 'r']) (by kernel_rfl) owner_rt]; kernel_rfl
theorem asInt_int (n : Int) (t : Tok) : asInt? (.int n t) = pure (some n) := rfl
theorem call_hint_rt {prog : Program} {w : World} {A : Around} {E : Value → Shared → Prop} {s : Shared} {it t : Addr} {items : Array Value} {Q : Value → Shared → Prop} (hit : IsRt s.heap it t ((items.size : Int) - 1)) (ht : IsTup s.heap t items) (hz : items.size ≤ sizeLine)
    (hQ : ∀ tk tk', Q (.int items.size tk') { s with toks := tk }) : wpAny (model prog w) A (call (.builtin "reversed.__length_hint__") [.ref it]) Q E s := by
  obtain ⟨o, ho, hc, hd⟩ := id hit
  rw [sizeLine_eq] at hz
  refine wpAny_call_entry slot_rt_hint hit.typeIs entry_rt_hint ?_ (args_rt_hint _)
  unfold Builtin.«reversed.__length_hint__»
  refine wpAny_bind (wpAny_of_eq (a := Value.ref it) rfl ?_)
  refine wpAny_bind (wpAny_field ho hd (x := .ref t) rfl ?_)
  have hnn : ¬ ((Value.ref t == Value.none) = true) := by rw [show (Value.ref t == Value.none) = false from rfl]; decide
  rw [if_neg hnn]
  refine wpAny_bind (len_tuple ht (by omega) ?_)
  refine wpAny_bind (wpAny_of_eq (a := some ((items.size : Nat) : Int)) rfl ?_)
  try dsimp only
  refine wpAny_bind (wpAny_field (s := { s with toks := s.toks + 1 + 1 }) ho hd (x := rawInt ((items.size : Int) - 1)) rfl ?_)
  show wpAny _ _ (if ((items.size : Nat) : Int) < (items.size : Int) - 1 + 1 then _ else _) _ _ _
  rw [if_neg (by omega)]
  rw [show ((items.size : Int) - 1 + 1) = (items.size : Int) by omega]
  show wpAny _ _ (mkInt _ >>= fun v => ret v) _ _ _
  refine wpAny_bind (wpAny_mkInt ?_)
  exact wpAny_pure ⟨_, rfl, hQ _ _⟩
section
variable {prog : Program} {w : World} {A : Around} {s : Shared} {R : Result → Shared → Prop} {E : Value → Shared → Prop}
theorem extend_rt {it t : Addr} {items : Array Value} (hh : A.handled = none) (hn : items.size ≤ sizeLine) (S : Addr) (res : Value) (c₀ : Nat) (hit : IsRt s.heap it t ((items.size : Int) - 1)) (ht : IsTup s.heap t items) (hne : t ≠ it) (hSi : S ≠ it) (hSt : S ≠ t)
    (hS : s.heap.get? S = some { cls := .type "list", data := .seq #[] c₀ })
    (hR : ∀ (h' : Heap) (tk : Nat) (acc' : Array Value) (c' : Nat), (∀ b o, b ≠ S → b ≠ it → s.heap.get? b = some o → h'.get? b = some o) → h'.get? S = some { cls := .type "list", dict := none, data := .seq acc' c', slots := #[] } → ItemsOf (fun i v => items[items.size - 1 - i]? = some v) acc' items.size → R (.ok (.ret res)) { s with heap := h', toks := tk }) :
    wpAny (model prog w) A.in1 (Builtin.List.listExtendWith (.ref S) (.ref it) res)
      (fun fin s' => match fin with | .done f => R (.ok f) s' | .again c' => c'.quiet = true ∧ codeAny (model prog w) A c' R s') (fun e s' => R (.error e) s') s := by
  have W := (tupRev (prog := prog) (w := w) (A := A.in1) hh it t hne items hn).toS
  have hSf : S ∉ [it, t] := by simp only [List.mem_cons, List.not_mem_nil, or_false, not_or]; exact ⟨hSi, hSt⟩
  have hT : s.TypeIs (.ref it) "reversed" := hit.typeIs
  unfold Builtin.List.listExtendWith
  refine wpAny_bind (wpAny_typeOf hT ?_)
  have h1 : Builtin.List.listSameRef (.ref S) (.ref it) = false := by simp [Builtin.List.listSameRef, hSi]
  rw [if_neg (by rw [h1]; decide)]
  refine wpAny_bind (iter_rt hit ?_)
  refine wpAny_bind (wpAny_holding ?_)
  unfold Builtin.List.listLengthHint
  refine wpAny_bind (wpAny_specialOf hT nolen_rt ?_)
  show wpAny _ A.in1 (specialOf (Value.ref it) (Str.ofString "__length_hint__") >>= _) _ _ _
  refine wpAny_bind (wpAny_specialOf hT hint_rt ?_)
  generalize hid : ("reversed.__length_hint__" : String) = id0
  wp_delta
  rw [show splitId id0 = some ("reversed", "__length_hint__") from by subst hid; decide +kernel]
  subst hid
  refine wpAny_bind (wpAny_isInstance (b := true) hT (by rw [isSubtype_type]; kernel_rfl) ?_)
  rw [if_neg (by decide)]
  show wpAny _ A.in1 (if _ then _ else _) _ _ _
  rw [if_neg (by decide +kernel)]
  refine wpAny_bind (wpAny_rule ?_)
  refine wpAny_bind (wpAny_of_eq (slot_rt_hint.bind _) ?_)
  try dsimp only
  refine wpAny_bind (wpAny_attempt (call_hint_rt hit ht hn fun tk tk' => ?_))
  try dsimp only
  have hn2 := hn
  rw [sizeLine_eq] at hn2
  rw [asInt_int]
  generalize hN : ((items.size : Nat) : Int) = N
  refine wpAny_bind ?_
  refine wpAny_pure ?_
  dsimp only
  have hfit : Builtin.List.listFitsIndex N = true := by
    rw [← hN]
    simp only [Builtin.List.listFitsIndex, Bool.and_eq_true, decide_eq_true_eq]; omega
  have hlong : Builtin.List.listTooLong N.toNat = false := by
    rw [← hN]
    simp only [Builtin.List.listTooLong, decide_eq_false_iff_not]; omega
  rw [if_neg (by rw [hfit]; decide), if_neg (by omega), if_neg (by rw [hlong]; decide)]
  refine wpAny_pure ?_
  have e0 : ((items.size : Nat) : Int) - 1 - ((0 : Nat) : Int) = (items.size : Int) - 1 := by omega
  by_cases hz0 : items.size = 0
  · have hN0 : N = 0 := by omega
    rw [if_neg (by rw [hN0]; decide +kernel)]
    refine wpAny_pure ⟨plainId_quiet F.plain_extend_loop _, codeAny_extend_loopS W hn _ hSf _ items.size 0 _ _ _ rfl (Nat.zero_le _) ⟨Nat.zero_le _, by rw [e0]; exact hit, ht⟩ hS (ItemsOf.nil _) fun s' acc' c' hm hS' hacc => ?_⟩
    rw [Moved.eq_with hm]
    refine hR s'.heap s'.toks acc' c' (fun b o hb hb2 e => hm.heap b o (fun hmem => ?_) e) hS' hacc
    rcases List.mem_cons.mp hmem with e' | hmem
    · exact hb e'
    · exact hb2 (List.mem_singleton.mp hmem)
  · have hne0 : (N != 0) = true := by
      rw [← hN]; simpa using hz0
    rw [if_pos (by rw [hne0]; rfl)]
    refine wpAny_bind (wpAny_rule ?_)
    refine wpAny_bind ?_
    show wpAny _ A.in1 (updateSeq S (·.push .none) >>= fun _ => updateSeq S (·.pop)) _ _ _
    refine wpAny_bind (wpAny_updateSeq (s := { s with toks := tk }) hS rfl ?_)
    have hS₂ := Heap.get?_update_self (Obj.mapSeq (·.push Value.none)) hS rfl
    refine wpAny_updateSeq (hz := by seq_fits) hS₂ rfl ?_
    have hS₃ := Heap.get?_update_self (Obj.mapSeq (·.pop)) hS₂ rfl
    have oth : ∀ b o, b ≠ S → s.heap.get? b = some o → ((s.heap.update S (Obj.mapSeq (·.push Value.none))).update S (Obj.mapSeq (·.pop))).get? b = some o :=
      fun b o hb e => (Heap.get?_update_other _ _ (Ne.symm hb)).trans ((Heap.get?_update_other _ _ (Ne.symm hb)).trans e)
    refine wpAny_pure ⟨plainId_quiet F.plain_extend_loop _, codeAny_extend_loopS W hn _ hSf _ items.size 0 _ _ _ rfl (Nat.zero_le _)
      ⟨Nat.zero_le _, by rw [e0]; exact hit.at fun o e => oth it o (Ne.symm hSi) e, IsTup.at' ht fun o e => oth t o (Ne.symm hSt) e⟩ hS₃ (ItemsOf.nil _) fun s' acc' c' hm hS' hacc => ?_⟩
    rw [Moved.eq_with hm]
    refine hR s'.heap s'.toks acc' c' (fun b o hb hb2 e => hm.heap b o (fun hmem => ?_) (oth b o hb e)) hS' hacc
    rcases List.mem_cons.mp hmem with e' | hmem
    · exact hb e'
    · exact hb2 (List.mem_singleton.mp hmem)
theorem list_init_rt {it t : Addr} {items : Array Value} (hh : A.handled = none) (hn : items.size ≤ sizeLine) (S : Addr) (hit : IsRt s.heap it t ((items.size : Int) - 1)) (ht : IsTup s.heap t items) (hne : t ≠ it) (hSi : S ≠ it) (hSt : S ≠ t)
    (hS : s.heap.get? S = some { cls := .type "list", data := .seq #[] })
    (hR : ∀ (h' : Heap) (tk : Nat) (acc' : Array Value) (c' : Nat), (∀ b o, b ≠ S → b ≠ it → s.heap.get? b = some o → h'.get? b = some o) → h'.get? S = some { cls := .type "list", dict := none, data := .seq acc' c', slots := #[] } → ItemsOf (fun i v => items[items.size - 1 - i]? = some v) acc' items.size → R (.ok (.ret .none)) { s with heap := h', toks := tk }) :
    wpAny (model prog w) A.in1 (Builtin.«list.__init__» ⟨[.ref S, .ref it], []⟩)
      (fun fin s' => match fin with | .done f => R (.ok f) s' | .again c' => c'.quiet = true ∧ codeAny (model prog w) A c' R s') (fun e s' => R (.error e) s') s := by
  show wpAny _ A.in1 (do let old ← Builtin.List.listItems (.ref S); Builtin.List.listUpdate (.ref S) (fun _ => #[]); letGo old.toList.reverse; Builtin.List.listExtendWith (.ref S) (.ref it) .none) _ _ s
  refine wpAny_bind ?_
  unfold Builtin.List.listItems
  refine wpAny_bind (wpAny_seqItems hS rfl (wpAny_pure ?_))
  show wpAny _ A.in1 (updateSeq S (fun _ => #[]) >>= fun _ => letGo (#[] : Array Value).toList.reverse >>= fun _ => Builtin.List.listExtendWith (.ref S) (.ref it) .none) _ _ s
  refine wpAny_bind (wpAny_updateSeq hS rfl ?_)
  have hS₂ := Heap.get?_update_self (Obj.mapSeq (fun _ => (#[] : Array Value))) hS rfl
  have oth : ∀ b o, b ≠ S → s.heap.get? b = some o → (s.heap.update S (Obj.mapSeq (fun _ => (#[] : Array Value)))).get? b = some o :=
    fun b o hb e => (Heap.get?_update_other _ _ (Ne.symm hb)).trans e
  refine wpAny_bind (wpAny_letGo ?_)
  refine extend_rt hh hn S .none _ (hit.at fun o e => oth it o (Ne.symm hSi) e) (IsTup.at' ht fun o e => oth t o (Ne.symm hSt) e) hne hSi hSt hS₂ fun h' tk acc' c' hk hS' hacc => ?_
  exact hR h' tk acc' c' (fun b o h1 h2 e => hk b o h1 h2 (oth b o h1 e)) hS' hacc
theorem call_list_rt {it t : Addr} {items : Array Value} {Q : Value → Shared → Prop} (hh : A.handled = none) (hn : items.size ≤ sizeLine) (hit : IsRt s.heap it t ((items.size : Int) - 1)) (ht : IsTup s.heap t items) (hne : t ≠ it)
    (hQ : ∀ (h' : Heap) (tk : Nat) (acc' : Array Value) (c' : Nat), (∀ b o, b ≠ it → s.heap.get? b = some o → h'.get? b = some o) → h'.get? s.heap.objs.size = some { cls := .type "list", dict := none, data := .seq acc' c', slots := #[] } → ItemsOf (fun i v => items[items.size - 1 - i]? = some v) acc' items.size → Q (.ref s.heap.objs.size) { s with heap := h', toks := tk }) :
    wpAny (model prog w) A (call (.type "list") [.ref it]) Q E s := by
  obtain ⟨oi, hoi, _⟩ := id hit
  obtain ⟨ot, hot, _⟩ := id ht
  have hSi : s.heap.objs.size ≠ it := Nat.ne_of_gt (Heap.lt_size hoi)
  have hSt : s.heap.objs.size ≠ t := Nat.ne_of_gt (Heap.lt_size hot)
  refine callType_codes (Q₁ := fun obj s₁ => obj = .ref s.heap.objs.size ∧ s₁ = { s with heap := s.heap.push { cls := .type "list", data := .seq #[] } }) F.called_list (F.typeCall_list_1 _) F.entry_list_init
    (code_list_new _ ⟨rfl, rfl⟩) fun obj s₁ h₁ => ?_
  obtain ⟨rfl, rfl⟩ := h₁
  have hS : (s.heap.push { cls := .type "list", data := .seq #[] }).get? s.heap.objs.size = some { cls := .type "list", data := .seq #[] } := Heap.get?_push_size _ rfl
  refine ⟨⟨_, hS, rfl⟩, F.args_list_init_2 _ _, list_init_rt (A := A.in1) (s := { s with heap := s.heap.push { cls := .type "list", data := .seq #[] } }) hh hn _ (hit.at fun o e => Heap.get?_push_of_some _ e) (ht.push _) hne hSi hSt hS fun h' tk acc' c' hk hS' hacc => ?_⟩
  exact ⟨rfl, hQ h' tk acc' c' (fun b o hb e => hk b o (Nat.ne_of_lt (Heap.lt_size e)) hb (Heap.get?_push_of_some _ e)) hS' hacc⟩
end
section
variable {X : Cx}
def tLstRev (K : PySem.W.Frag) (te : TA) : TE := fun σ H Q => te σ H fun us H1 => ∃ (a : Addr) (xs : List V), us = [.ref a] ∧ SqT K H1 a xs ∧ ∀ q, H1 q = none → Q (.ref q) (upd H1 q (.lst xs.reverse))
theorem pe_lstRev {e : Expr} {te : TA} {p p2 pos pos2 : Pos} (hc : X.calm = true) (hg : Gl X "list") (hm : X.mg "list" = none) (hg2 : Gl X "reversed") (hm2 : X.mg "reversed" = none) (he : PA X [e] te)
    (hs : starEach [e] X.env = (false, eval e X.env) :: starEach [] X.env := by rfl)
    (hs2 : starEach [.Call (.Name "reversed" p2) [e] [] pos2] X.env = (false, eval (.Call (.Name "reversed" p2) [e] [] pos2) X.env) :: starEach [] X.env := by rfl) :
    PE X (.Call (.Name "list" p) [.Call (.Name "reversed" p2) [e] [] pos2] [] pos) (tLstRev X.K te) := by
  refine ⟨fun pins s σ H Q I h => ?_⟩
  refine Call_ (ld_blt I hg hm boot_list (PyProof.Rows.callWith_type1 (args_cons (Call_ (ld_blt I hg2 hm2 PyProof.Rows.boot_reversed (PyProof.Rows.callWith_type1 (thn (he.run pos2 pins s σ H _ I h) fun us s1 ⟨vs, H1, I1, r1, q1⟩ => ?_) hs rfl))) hs2) hs2 rfl))
  obtain ⟨a, xs, ev, hq, q⟩ := q1
  subst ev
  rw [Vals.ref1 r1]
  obtain ⟨its, rv, p', hz⟩ := I1.tuple hq
  have hl := rv.length
  have hn63 := line63
  refine call_reversed_tup p' (fun A E Q k => len_tuple p' (by simp only [List.size_toArray] <;> omega) k) (args_nil ?_)
  have k0 : ∀ b o, s1.heap.get? b = some o → (s1.heap.push (rtObj a ((its.toArray.size : Int) - 1))).get? b = some o := fun b o e => Heap.get?_push_of_some _ e
  obtain ⟨ot, hot, _⟩ := id p'
  have hne : a ≠ s1.heap.objs.size := Nat.ne_of_lt (Heap.lt_size hot)
  have hn : its.toArray.size ≤ sizeLine := by rw [List.size_toArray, ← rv.length]; exact hz
  refine call_list_rt (s := { s1 with heap := s1.heap.push (rtObj a ((its.toArray.size : Int) - 1)), toks := s1.toks + 1 + 1 }) (I1.ok.hd hc) hn ⟨_, Heap.get?_push_size _ rfl, rfl, rfl⟩ (p'.push _) hne fun h' tk acc c' hk hS hi => ?_
  have hsz : s1.heap.objs.size ≤ (s1.heap.push (rtObj a ((its.toArray.size : Int) - 1))).objs.size := by
    simp [Heap.push]
  refine ⟨.ref (s1.heap.push (rtObj a ((its.toArray.size : Int) - 1))).objs.size, upd H1 (s1.heap.push (rtObj a ((its.toArray.size : Int) - 1))).objs.size (.lst xs.reverse), I1.laid (t' := tk) (fun b o e => hk b o (Nat.ne_of_lt (Heap.lt_size e)) (k0 b o e)) hsz (show ObjOk X.prog X.w _ _ _ (.lst xs.reverse) from ⟨by rw [List.length_reverse]; exact hz, acc.toList, c', vals_rev rv hi, ?_⟩), rfl, q _ (I1.hok.fresh hsz)⟩
  rw [Array.toArray_toList]
  exact hS
theorem e_revl {e : Expr} {C : Call} {es : CEs} {p p2 pos pos2 : Pos} (hp : plainE e = true) (hc : X.calm = true) (hg : Gl X "list") (hm : X.mg "list" = none) (hg2 : Gl X "reversed") (hm2 : X.mg "reversed" = none) (ha : PA X [e] (tR X.K C es)) :
    PE X (.Call (.Name "list" p) [.Call (.Name "reversed" p2) [e] [] pos2] [] pos) (tE X.K C (.bi .revl es)) :=
  PE.imp (pe_lstRev hc hg hm hg2 hm2 ha (star_plain hp) (star_plain rfl)) fun σ H Q h => by
    obtain ⟨β, st, ρ, r, st', s, en, h, q⟩ := h
    simp only [ev] at h
    split at h
    · cases h
    rename_i rs st1 e1
    simp only [Option.map_eq_some_iff, Prod.mk.injEq] at h
    obtain ⟨z, e2, rfl, rfl⟩ := h
    simp only [biApp] at e2
    unfold biRevl at e2
    split at e2
    rotate_left
    · cases e2
    rename_i xs
    cases e2
    refine ⟨β, st, ρ, _, st1, s, en, e1, fun vs β1 H1 x1 s1 r1 => ?_⟩
    obtain ⟨v, rfl, hv⟩ := one_rep r1
    obtain ⟨a, ws, rfl, h1, h2⟩ := hv
    refine ⟨a, ws, rfl, h1.sq, fun b hfb => ?_⟩
    exact q _ β1 _ (x1.trans (Ext.new hfb) s1.nd) (s1.new hfb) ⟨b, _, rfl, upd_same, s1.off hfb, x1.free hfb fun hm => s1.off hfb (x1.mem hm), RepL.mono s1 (Ext.new hfb) _ _ h2.reverse⟩
end
end Mw

set_option Elab.async false
set_option linter.all false
set_option autoImplicit false
set_option maxRecDepth 100000
/-! PyB11: sorted(set(e)) of rows of numbers. -/
namespace Mw
open PySem PySem.Spec PyProof.Rows L2
/-! ### rows in order -/
theorem lexB_refl : ∀ a : List Int, lexB a a = true
  | [] => rfl
  | x :: xs => by simp [lexB, lexB_refl xs]
theorem lexB_tot : ∀ a b : List Int, lexB a b = true ∨ lexB b a = true
  | [], _ => .inl rfl
  | _ :: _, [] => .inr rfl
  | x :: xs, y :: ys => by
    simp only [lexB, Bool.or_eq_true, Bool.and_eq_true, decide_eq_true_eq]
    rcases Int.lt_trichotomy x y with h | h | h
    · exact .inl (.inl h)
    · rcases lexB_tot xs ys with k | k
      · exact .inl (.inr ⟨h, k⟩)
      · exact .inr (.inr ⟨h.symm, k⟩)
    · exact .inr (.inl h)
theorem lexB_tr : ∀ a b c : List Int, lexB a b = true → lexB b c = true → lexB a c = true
  | [], _, _, _, _ => rfl
  | _ :: _, [], _, h, _ => by cases h
  | _ :: _, _ :: _, [], _, h => by cases h
  | x :: xs, y :: ys, z :: zs, h1, h2 => by
    simp only [lexB, Bool.or_eq_true, Bool.and_eq_true, decide_eq_true_eq] at h1 h2 ⊢
    rcases h1 with h1 | ⟨h1, k1⟩ <;> rcases h2 with h2 | ⟨h2, k2⟩
    · exact .inl (by omega)
    · exact .inl (by omega)
    · exact .inl (by omega)
    · exact .inr ⟨by omega, lexB_tr xs ys zs k1 k2⟩
theorem lexB_anti : ∀ a b : List Int, lexB a b = true → lexB b a = true → a = b
  | [], [], _, _ => rfl
  | [], _ :: _, _, h => by cases h
  | _ :: _, [], h, _ => by cases h
  | x :: xs, y :: ys, h1, h2 => by
    simp only [lexB, Bool.or_eq_true, Bool.and_eq_true, decide_eq_true_eq] at h1 h2
    rcases h1 with h1 | ⟨h1, k1⟩ <;> rcases h2 with h2 | ⟨h2, k2⟩
    · omega
    · omega
    · omega
    · rw [h1, lexB_anti xs ys k1 k2]
theorem nubT_mem : ∀ {xs : List (List Int)} {k : List Int}, k ∈ nubT xs ↔ k ∈ xs
  | [], k => by simp [nubT]
  | x :: xs, k => by
    simp only [nubT, List.mem_cons, List.mem_filter, nubT_mem (xs := xs), decide_eq_true_eq]
    by_cases h : k = x <;> simp [h]
theorem nubT_nd : ∀ xs : List (List Int), (nubT xs).Nodup
  | [] => List.nodup_nil
  | x :: xs => by
    refine List.nodup_cons.mpr ⟨fun h => ?_, (nubT_nd xs).filter _⟩
    have := (List.mem_filter.mp h).2
    simp at this
theorem sortT_mem {xs : List (List Int)} {k : List Int} : k ∈ sortT xs ↔ k ∈ xs := by
  unfold sortT
  rw [(List.mergeSort_perm _ _).mem_iff, nubT_mem]
theorem sortT_nd (xs : List (List Int)) : (sortT xs).Nodup := (List.mergeSort_perm _ _).nodup_iff.mpr (nubT_nd xs)
theorem sortT_le (xs : List (List Int)) : (sortT xs).Pairwise fun a b => lexB a b = true :=
  List.pairwise_mergeSort (le := lexB) (fun a b c => lexB_tr a b c) (fun a b => by rw [Bool.or_eq_true]; exact lexB_tot a b) (nubT xs)
/-- sorted, each once, of the same things: the same -/
theorem lex_ext : ∀ {a b : List (List Int)}, a.Pairwise (fun x y => lexB x y = true) → b.Pairwise (fun x y => lexB x y = true) → a.Nodup → b.Nodup → (∀ k, k ∈ a ↔ k ∈ b) → a = b
  | [], [], _, _, _, _, _ => rfl
  | [], y :: b, _, _, _, _, h => by have := (h y).mpr List.mem_cons_self; cases this
  | x :: a, [], _, _, _, _, h => by have := (h x).mp List.mem_cons_self; cases this
  | x :: a, y :: b, ha, hb, na, nb, h => by
    obtain ⟨a1, a2⟩ := List.pairwise_cons.mp ha
    obtain ⟨b1, b2⟩ := List.pairwise_cons.mp hb
    obtain ⟨n1, n2⟩ := List.nodup_cons.mp na
    obtain ⟨m1, m2⟩ := List.nodup_cons.mp nb
    have hxy : x = y := by
      rcases List.mem_cons.mp ((h x).mp List.mem_cons_self) with e | e
      · exact e
      · rcases List.mem_cons.mp ((h y).mpr List.mem_cons_self) with e2 | e2
        · exact e2.symm
        · exact lexB_anti x y (a1 y e2) (b1 x e)
    subst hxy
    rw [lex_ext a2 b2 n2 m2 fun k => ⟨fun hk => by
      rcases List.mem_cons.mp ((h k).mp (List.mem_cons_of_mem _ hk)) with e | e
      · exact absurd (e ▸ hk) n1
      · exact e, fun hk => by
      rcases List.mem_cons.mp ((h k).mpr (List.mem_cons_of_mem _ hk)) with e | e
      · exact absurd (e ▸ hk) m1
      · exact e⟩]
theorem code_lexB {B : Int} : ∀ {a b : List Int}, a.length = b.length → TS.Bd B a → TS.Bd B b → TS.code B a ≤ TS.code B b → lexB a b = true
  | [], _, _, _, _, _ => rfl
  | _ :: _, [], h, _, _, _ => by cases h
  | x :: xs, y :: ys, hl, h1, h2, h => by
    simp only [List.length_cons, Nat.add_right_cancel_iff] at hl
    simp only [lexB, Bool.or_eq_true, Bool.and_eq_true, decide_eq_true_eq]
    rcases Int.lt_trichotomy x y with z | z | z
    · exact .inl z
    · subst z
      refine .inr ⟨rfl, code_lexB hl h1.tail h2.tail ?_⟩
      have q := TS.code_same (B := B) (d := x) (r := ys) (q := xs) hl.symm
      by_cases hc : TS.code B ys < TS.code B xs
      · have := q.mpr hc; omega
      · omega
    · have q : TS.code B (y :: ys) < TS.code B (x :: xs) := TS.code_lt hl.symm h2.tail h1.tail z
      omega
/-- a bound of all numbers -/
def topN : List Int → Int
  | [] => 1
  | x :: xs => if x < topN xs then topN xs else x + 1
theorem topN_lt : ∀ {xs : List Int} {x : Int}, x ∈ xs → x < topN xs
  | y :: xs, x, h => by
    simp only [topN]
    rcases List.mem_cons.mp h with rfl | h
    · split <;> omega
    · have := topN_lt h
      split <;> omega
section
variable {X : Cx} {C : Call} {es : CEs} {e : Expr}
theorem rows_ks {K : PySem.W.Frag} {β : List Addr} {H : Hp} : ∀ {rs : List (List Int)} {vs : List V}, RepL K β H (rs.map fun r => .tup (r.map .int)) vs →
    ∃ ks : List (Addr × List Int), vs = (ks.map fun p => V.ref p.1) ∧ ks.map (·.2) = rs ∧ ∀ p ∈ ks, SqU K H p.1 (p.2.map V.int)
  | [], vs, h => ⟨[], h, rfl, fun p hp => by cases hp⟩
  | r :: rs, vs, h => by
    obtain ⟨v, w, rfl, ⟨a, us, rfl, h1, h2⟩, h3⟩ := h
    obtain ⟨ks, e1, e2, e3⟩ := rows_ks h3
    refine ⟨(a, r) :: ks, by rw [e1]; rfl, by rw [← e2]; rfl, fun p hp => ?_⟩
    rcases List.mem_cons.mp hp with rfl | hp
    · rw [h2.ints] at h1; exact h1
    · exact e3 p hp
theorem ks_rows {K : PySem.W.Frag} {β : List Addr} {H : Hp} : ∀ (ks : List (Addr × List Int)), (∀ p ∈ ks, SqU K H p.1 (p.2.map V.int)) → RepL K β H ((ks.map (·.2)).map fun r => .tup (r.map .int)) (ks.map fun p => V.ref p.1)
  | [], _ => rfl
  | p :: ks, h => ⟨_, _, rfl, ⟨p.1, _, rfl, h p List.mem_cons_self, rep_ints _⟩, ks_rows ks fun q hq => h q (List.mem_cons_of_mem _ hq)⟩
theorem rowsOf_eq : ∀ {xs : List D} {rs : List (List Int)}, rowsOf xs = some rs → xs = rs.map fun r => .tup (r.map .int)
  | [], rs, h => by simp only [rowsOf, mapO, Option.some.injEq] at h; subst h; rfl
  | x :: xs, rs, h => by
    simp only [rowsOf, mapO] at h
    split at h
    · rename_i y hy
      split at h
      · rename_i ys hys
        simp only [Option.some.injEq] at h; subst h
        cases x with
        | tup zs => rw [List.map_cons, rowsOf_eq hys, intsOf_eq hy]
        | _ => cases hy
      · cases h
    · cases h
theorem e_setT {p p2 pos pos2 : Pos} (hp : plainE e = true) (hc : X.calm = true) (hu : X.A.units + 65 < cLine) (hg : Gl X "sorted") (hm : X.mg "sorted" = none) (hg2 : Gl X "set") (hm2 : X.mg "set" = none) (ha : PA X [e] (tR X.K C es)) :
    PE X (.Call (.Name "sorted" p) [.Call (.Name "set" p2) [e] [] pos2] [] pos) (tSe X.K C biSetT es) :=
  PE.imp (pe_callB (cr_sortedT hc) hg hm (by rfl) (pa_cons (pe_callTy (cr_setOfT hc (by omega)) hg2 hm2 (by rfl) ha (he := star_plain hp) (hpl := stars_plain rfl)) pa_nil (star_plain rfl)) (he := star_plain rfl) (hpl := stars_plain rfl)) fun σ H Q h => by
    obtain ⟨β, st, ρ, rs, st1, z, s, en, e1, e2, q⟩ := h
    unfold biSetT at e2
    split at e2
    rotate_left
    · cases e2
    simp only [Option.bind_eq_some_iff] at e2
    obtain ⟨xs, e3, rows, e4, e5⟩ := e2
    split at e5
    · cases e5
    rename_i r0 rt
    split at e5
    rotate_left
    · cases e5
    rename_i hb
    simp only [Bool.and_eq_true, decide_eq_true_eq, List.all_eq_true] at hb
    obtain ⟨b1, b2, b3⟩ := hb
    simp only [Option.some.injEq] at e5
    subst e5
    obtain ⟨rw_, erw⟩ : ∃ rw_, rw_ = r0 :: rt := ⟨_, rfl⟩
    rw [← erw] at e4 b2 b3 q
    refine ⟨β, st, ρ, _, st1, s, en, e1, fun vs β1 H1 x1 s1 r1 => ?_⟩
    obtain ⟨v, rfl, hv⟩ := one_rep r1
    obtain ⟨l, ws, rfl, h1, h2⟩ := listOf_sq s1 hv e3
    have e6 := rowsOf_eq e4
    subst e6
    obtain ⟨ks, e7, e8, e9⟩ := rows_ks h2
    subst e7
    have hkl : ks.length = rw_.length := by rw [← e8, List.length_map]
    refine ⟨l, ks, rfl, h1, fun p hp => (e9 p hp).sq, by omega, fun a L hfree hL1 hL2 => ?_⟩
    have x2 : Ext β1 H1 β1 (upd H1 a (SetTO X.prog X.w a L)) := Ext.new hfree
    have s2 := s1.new (o := SetTO X.prog X.w a L) hfree
    have hsq : ∀ p ∈ L, SqU X.K (upd H1 a (SetTO X.prog X.w a L)) p.1 (p.2.map V.int) := fun p hp => s1.tupU x2.keep (e9 p (hL1 p hp))
    have hrow : ∀ p ∈ L, p.2 ∈ rw_ := fun p hp => by rw [← e8]; exact List.mem_map_of_mem (hL1 p hp)
    have hbd : ∀ p ∈ L, p.2.length = r0.length ∧ TS.Bd (topN rw_.flatten) p.2 := fun p hp => by
      obtain ⟨c1, c2⟩ := b3 _ (hrow p hp)
      exact ⟨c1, fun m hm => ⟨c2 m hm, topN_lt (List.mem_flatten.mpr ⟨_, hrow p hp, hm⟩)⟩⟩
    refine ⟨a, L, r0.length, topN rw_.flatten, rfl, upd_same, fun p hp => (hsq p hp).sq, b1, hbd, fun L' b pm nd lt pw hfb => ?_⟩
    have x12 := x1.trans x2 s1.nd
    have hso : L'.map (·.2) = sortT rw_ := by
      refine lex_ext ?_ (sortT_le _) nd (sortT_nd _) fun k => ?_
      · rw [List.pairwise_map]
        refine List.Pairwise.imp_of_mem (fun {p r} hp hr hle => ?_) pw
        obtain ⟨c1, c2⟩ := hbd p (pm.mem_iff.mp hp)
        obtain ⟨d1, d2⟩ := hbd r (pm.mem_iff.mp hr)
        exact code_lexB (c1.trans d1.symm) c2 d2 hle
      · rw [sortT_mem]
        constructor
        · intro hk
          obtain ⟨p, hp, rfl⟩ := List.mem_map.mp hk
          exact hrow p (pm.mem_iff.mp hp)
        · intro hk
          rw [← e8] at hk
          obtain ⟨p, hp, rfl⟩ := List.mem_map.mp hk
          obtain ⟨p', hp', e⟩ := List.mem_map.mp (hL2 p hp)
          rw [← e]
          exact List.mem_map_of_mem (pm.mem_iff.mpr hp')
    have hsq' : ∀ p ∈ L', SqU X.K (upd (upd H1 a (SetTO X.prog X.w a L)) b (.lst (L'.map fun q => V.ref q.1))) p.1 (p.2.map V.int) := fun p hp =>
      s2.tupU (Ext.new hfb).keep (hsq p (pm.mem_iff.mp hp))
    refine q _ β1 _ (x12.trans (Ext.new hfb) s2.nd) (s2.new hfb) ⟨b, _, rfl, upd_same, s2.off hfb, x12.free hfb fun hm => s2.off hfb (x12.mem hm), ?_⟩
    rw [← hso]
    exact ks_rows L' hsq'
theorem e_set {p p2 pos pos2 : Pos} (hp : plainE e = true) (hc : X.calm = true) (hu : X.A.units + 65 < cLine) (hg : Gl X "sorted") (hm : X.mg "sorted" = none) (hg2 : Gl X "set") (hm2 : X.mg "set" = none) (ha : PA X [e] (tR X.K C es)) :
    PE X (.Call (.Name "sorted" p) [.Call (.Name "set" p2) [e] [] pos2] [] pos) (tE X.K C (.bi .set es)) :=
  PE.imp (PE.or (e_setI hp hc hg hm hg2 hm2 ha) (e_setT hp hc hu hg hm hg2 hm2 ha)) fun σ H Q h => tSe_or (fun st rs => rfl) h
end
end Mw

set_option Elab.async false
set_option linter.all false
set_option autoImplicit false
set_option maxRecDepth 100000
/-! PyDc: dicts. -/
namespace Mw
open PySem PySem.Spec PyProof.Rows L2
section
variable {K : PySem.W.Frag} {β β' : List Addr} {st st' : Sto} {H H' H0 : Hp}
theorem Sim.layO (s : Sim K β st H) {p : Addr} {o : O} (hp : p ∉ β) (ho : ObjR K (β ++ [p]) H p o) : Sim K (β ++ [p]) (st ++ [o]) H := by
  refine ⟨by simp [s.len], List.nodup_append.mpr ⟨s.nd, by simp, fun a ha b hb => ?_⟩, fun n a o' h1 h2 => ?_⟩
  · simp only [List.mem_singleton] at hb
    subst hb
    exact fun z => hp (z ▸ ha)
  · by_cases hn : n < β.length
    · rw [List.getElem?_append_left hn] at h1
      rw [List.getElem?_append_left (s.len ▸ hn)] at h2
      have q := s.obj n a o' h1 h2
      cases o' with
      | lst xs => obtain ⟨ws, q1, q2⟩ := q; exact ⟨ws, q1, RepL.grow grow_app _ _ q2⟩
      | dic _ _ => obtain ⟨ws, q1, q2, q3⟩ := q; exact ⟨ws, q1, q2, RepL.grow grow_app _ _ q3⟩
      | dit _ _ => obtain ⟨ws, q1, q2, q3⟩ := q; exact ⟨ws, q1, q2, RepL.grow grow_app _ _ q3⟩
      | ins _ _ => exact q.elim
    · have hl : n < (β ++ [p]).length := (List.getElem?_eq_some_iff.mp h1).1
      have en : n = β.length := by simp at hl; omega
      subst en
      rw [List.getElem?_append_right (Nat.le_refl _)] at h1
      rw [s.len, List.getElem?_append_right (Nat.le_refl _)] at h2
      simp at h1 h2
      subst h1 h2
      exact ho
theorem lay_at {p : Addr} (hl : β.length = st.length) : (β ++ [p])[st.length]? = some p := by
  rw [← hl, List.getElem?_append_right (Nat.le_refl _)]; simp
end
section
variable {X : Cx} {C : Call} {a b c : CE} {es : CEs} {l r e : Expr} {pos : Pos}
theorem e_dic0 : PE X (.Dict [] [] pos) (tE X.K C .dic0) := PE.imp pe_dnewK fun σ H Q ⟨β, st, ρ, r, st', s, en, e, q⟩ p hp => by
  simp only [ev, Option.some.injEq, Prod.mk.injEq] at e
  obtain ⟨rfl, rfl⟩ := e
  have s1 := s.new (o := .dK []) hp
  exact q (.ref p) (β ++ [p]) _ ((Ext.new hp).lay hp) (s1.layO (s.off hp) ⟨[], upd_same, rfl, rfl⟩) ⟨p, lay_at s.len, rfl⟩
theorem e_dit0 : PE X (.Dict [] [] pos) (tE X.K C .dit0) := PE.imp pe_dnewT fun σ H Q ⟨β, st, ρ, r, st', s, en, e, q⟩ p hp => by
  simp only [ev, Option.some.injEq, Prod.mk.injEq] at e
  obtain ⟨rfl, rfl⟩ := e
  have s1 := s.new (o := .dT []) hp
  exact q (.ref p) (β ++ [p]) _ ((Ext.new hp).lay hp) (s1.layO (s.off hp) ⟨[], upd_same, rfl, rfl⟩) ⟨p, lay_at s.len, rfl⟩
theorem KeepT.updD {H : Hp} {p : Addr} {ks : List (Key × V)} {u : HO} (h : H p = some (.dK ks)) : KeepT H (L2.upd H p u) := fun b =>
  ⟨fun xs e => by rw [upd_ne fun z => by rw [z, h] at e; cases e]; exact e, fun o u e => by rw [upd_ne fun z => by rw [z, h] at e; cases e]; exact e⟩
theorem e_dic1 (ha : PE X l (tE X.K C a)) (hb : PE X r (tE X.K C b)) : PE X (.Dict [some l] [r] pos) (tE X.K C (.dic1 a b)) :=
  PE.imp (pe_disp (pps_cons ha hb pps_nil) rfl rfl (by simp) (by simp)) fun σ H Q ⟨β, st, ρ, r, st', s, en, e, q⟩ p hp => by
    simp only [ev] at e
    split at e
    · cases e
    rename_i x st1 e1
    split at e
    · cases e
    rename_i y st2 e2
    split at e
    case h_2 => cases e
    rename_i d
    split at e
    case isFalse => cases e
    rename_i hk
    simp only [Option.some.injEq, Prod.mk.injEq] at e
    obtain ⟨rfl, rfl⟩ := e
    obtain ⟨k, rfl⟩ := keyOk_iff hk
    have hpβ := s.off hp
    have x0 : Ext β H β (upd H p (.dK [])) := Ext.new hp
    refine seq1 (s.new hp) (en.mono s x0) e1 fun v β1 H1 x1 s1 r1 en1 => seq1 s1 en1 e2 fun w β2 H2 x2 s2 r2 en2 => ?_
    have hv : v = kV k := rep_keyD r1
    subst hv
    obtain ⟨β3, x3, s3, r3, _⟩ := mat_ok x2 s2 r2
    have x13 := x1.trans x3 s3.nd
    have h2p : H2 p = some (.dK []) := x13.keep p _ upd_same hpβ
    refine ⟨h2p, [(k, w)], rfl, by simp, ?_⟩
    have hp3 : p ∉ β3 := by
      obtain ⟨new, en, f⟩ := x13.pre
      rw [en]
      intro hm
      rcases List.mem_append.mp hm with z | z
      · exact hpβ z
      · have := f p z; rw [upd_same] at this; cases this
    obtain ⟨u, hu⟩ : ∃ u, u = HO.dK (mergeK [] [(k, w)]) := ⟨_, rfl⟩
    rw [← hu]
    have kt : KeepT H2 (upd H2 p u) := KeepT.updD h2p
    have s4 : Sim X.K β3 (mat y st2).2 (upd H2 p u) := s3.keepT kt fun b hb => upd_ne fun z => hp3 (z ▸ hb)
    have x4 : Ext β H (β3 ++ [p]) (upd H2 p u) := by
      obtain ⟨new, en, f⟩ := x13.pre
      refine ⟨⟨new ++ [p], by rw [en, List.append_assoc], fun b hb => ?_⟩, fun b o hb hn => ?_, fun b o u' hb => ?_⟩
      · rcases List.mem_append.mp hb with z | z
        · have := f b z
          by_cases hbp : b = p
          · rw [hbp, upd_same] at this; cases this
          · rw [upd_ne hbp] at this; exact this
        · simp only [List.mem_singleton] at z; rw [z]; exact hp
      · have hbp : b ≠ p := fun z => by rw [z, hp] at hb; cases hb
        rw [upd_ne hbp]
        exact x13.keep b o (by rw [upd_ne hbp]; exact hb) hn
      · have hbp : b ≠ p := fun z => by rw [z, hp] at hb; cases hb
        rw [upd_ne hbp]
        exact x13.frz b o u' (by rw [upd_ne hbp]; exact hb)
    refine q (.ref p) (β3 ++ [p]) _ x4 (s4.layO hp3 ⟨[(k, w)], ?_, rfl, ?_⟩) ⟨p, lay_at s3.len, rfl⟩
    · show upd H2 p u p = _
      rw [upd_same, hu]; rfl
    · exact RepL.one (Rep.grow grow_app _ _ (Rep.keepT kt _ _ r3))
/-! ### d.get(k), d.get(k, x) -/
theorem kd_dic {K : PySem.W.Frag} {β : List Addr} {st : Sto} {H H0 : Hp} {x : RV} {v : V} (s : Sim K β st H) (r : RRep K β H H0 x v) (h : kdOf st x = .dic) : ∃ a, v = .ref a ∧ IsD H a := by
  cases x with
  | tmp _ => cases h
  | val d =>
    cases d with
    | ref n =>
      simp only [kdOf] at h
      obtain ⟨a, h1, rfl⟩ := r
      split at h
      · cases h
      · rename_i lk kvs hz
        obtain ⟨ks, h2, _⟩ := s.dic h1 hz
        exact ⟨a, rfl, .inl ⟨ks, h2⟩⟩
      · rename_i lk kvs hz
        obtain ⟨ks, h2, _⟩ := s.dit h1 hz
        exact ⟨a, rfl, .inr ⟨ks, h2⟩⟩
      · cases h
    | _ => simp [kdOf] at h
theorem plain_m1 {m : Str} {apos : Pos} (hr : recvOk l = true) (hp : plainE e = true) (hline : (apos.endLine == pos.line) = true) : M1 X l m apos e pos :=
  ⟨base_of hr, few_plain (by rw [List.all_cons, hp]; rfl) (by simp), hline, by rw [star_plain hp]; rfl⟩
theorem plain_m2 {m : Str} {apos : Pos} {f : Expr} (hr : recvOk l = true) (hp : plainE e = true) (hf : plainE f = true) (hline : (apos.endLine == pos.line) = true) : M2 X l m apos e f pos :=
  ⟨base_of hr, few_plain (by rw [List.all_cons, List.all_cons, hp, hf]; rfl) (by simp), hline, by rw [star_plain hp, star_plain hf]; rfl⟩
theorem get_val {K : PySem.W.Frag} {β : List Addr} {st st' : Sto} {H H0 : Hp} {x k : RV} {u v : V} {rs : List RV} {r : RV} (s : Sim K β st H) (hx : RRep K β H H0 x u) (hk : RRep K β H H0 k v) (e : mtApp st .get x (k :: rs) = some (r, st')) :
    st' = st ∧ ∃ a o, u = .ref a ∧ DGet H a v o ∧ ((rs = [] ∧ ∃ d, r = .val d ∧ Rep K β H d (o.getD .non)) ∨ ∃ z, rs = [z] ∧ ((o = none ∧ r = z) ∨ ∃ d w, o = some w ∧ r = .val d ∧ Rep K β H d w)) := by
  have one : ∀ {n : Nat} {a : Addr} {k' : D} {g : Option D} {o : Option V}, DGet H a v o → ORep K β H g o → Rep K β H (g.getD .non) (o.getD .non) := by
    intro n a k' g o _ g2
    cases g <;> cases o <;> first | exact g2.elim | exact g2 | rfl
  simp only [mtApp] at e
  unfold mtGet at e
  split at e
  · rename_i n k' heq
    simp only [List.cons.injEq] at heq
    obtain ⟨rfl, rfl⟩ := heq
    obtain ⟨a, h1, rfl⟩ := hx
    split at e
    · rename_i lk kvs hz
      split at e
      case isFalse => cases e
      rename_i hkk
      simp only [Option.some.injEq, Prod.mk.injEq] at e
      obtain ⟨rfl, rfl⟩ := e
      obtain ⟨o, g1, g2⟩ := dic_get s h1 hz hkk hk
      exact ⟨rfl, a, o, rfl, g1, .inl ⟨rfl, _, rfl, one (n := n) (k' := k') g1 g2⟩⟩
    · rename_i lk kvs hz
      split at e
      case isFalse => cases e
      rename_i hkk
      simp only [Option.some.injEq, Prod.mk.injEq] at e
      obtain ⟨rfl, rfl⟩ := e
      obtain ⟨o, g1, g2⟩ := dit_get s h1 hz hkk hk
      exact ⟨rfl, a, o, rfl, g1, .inl ⟨rfl, _, rfl, one (n := n) (k' := k') g1 g2⟩⟩
    · cases e
  · rename_i n k' z heq
    simp only [List.cons.injEq] at heq
    obtain ⟨rfl, rfl⟩ := heq
    obtain ⟨a, h1, rfl⟩ := hx
    have two : ∀ {g : Option D} {o : Option V}, DGet H a v o → ORep K β H g o → (match g with
        | some w => some (RV.val w, st)
        | none => some (z, st)) = some (r, st') → st' = st ∧ ∃ a' o, V.ref a = .ref a' ∧ DGet H a' v o ∧ (([z] = [] ∧ ∃ d, r = .val d ∧ Rep K β H d (o.getD .non)) ∨ ∃ z', [z] = [z'] ∧ ((o = none ∧ r = z') ∨ ∃ d w, o = some w ∧ r = .val d ∧ Rep K β H d w)) := by
      intro g o g1 g2 e
      cases g with
      | some w =>
        simp only [Option.some.injEq, Prod.mk.injEq] at e
        obtain ⟨rfl, rfl⟩ := e
        cases o with
        | none => exact g2.elim
        | some w' => exact ⟨rfl, a, _, rfl, g1, .inr ⟨z, rfl, .inr ⟨w, w', rfl, rfl, g2⟩⟩⟩
      | none =>
        simp only [Option.some.injEq, Prod.mk.injEq] at e
        obtain ⟨rfl, rfl⟩ := e
        cases o with
        | some _ => exact g2.elim
        | none => exact ⟨rfl, a, _, rfl, g1, .inr ⟨_, rfl, .inl ⟨rfl, rfl⟩⟩⟩
    split at e
    · rename_i lk kvs hz
      split at e
      case isFalse => cases e
      rename_i hkk
      obtain ⟨o, g1, g2⟩ := dic_get s h1 hz hkk hk
      exact two g1 g2 e
    · rename_i lk kvs hz
      split at e
      case isFalse => cases e
      rename_i hkk
      obtain ⟨o, g1, g2⟩ := dit_get s h1 hz hkk hk
      exact two g1 g2 e
    · cases e
  · cases e
theorem get_kd {st : Sto} {x k : RV} {rs : List RV} {z : RV × Sto} (h : mtApp st .get x (k :: rs) = some z) : kdOf st x = .dic := by
  simp only [mtApp] at h
  unfold mtGet at h
  split at h
  · split at h
    · rename_i hz; simp [kdOf, hz]
    · rename_i hz; simp [kdOf, hz]
    · cases h
  · split at h
    · rename_i hz; simp [kdOf, hz]
    · rename_i hz; simp [kdOf, hz]
    · cases h
  · cases h
theorem e_get1 {apos : Pos} (hu : X.A.units + 65 < cLine) (ho : PE X l (tE X.K C a)) (he : PE X e (tE X.K C b)) (hr : recvOk l = true) (hp : plainE e = true) (hline : (apos.endLine == pos.line) = true) :
    PE X (.Call (.Attribute l "get" apos) [e] [] pos) (tE X.K C (.mt .get a (.cons b .nil))) :=
  PE.imp (pe_dget1 (by omega) ho he (plain_m1 hr hp hline)) fun σ H Q ⟨β, st, ρ, r, st', s, en, h, q⟩ => by
    simp only [ev] at h
    split at h
    · cases h
    rename_i x st1 e1
    simp only [evR] at h
    split at h
    · cases h
    rename_i rs st2 h2
    split at h2
    · cases h2
    rename_i k st3 e2
    simp only [Option.some.injEq, Prod.mk.injEq] at h2
    obtain ⟨rfl, rfl⟩ := h2
    split at h
    case isFalse => cases h
    rename_i hkd
    refine seq1 s en e1 fun v β1 H1 x1 s1 r1 en1 => ?_
    have hd : kdOf st1 x = .dic := by
      rw [hkd]
      exact get_kd h
    obtain ⟨aa, rfl, hisd⟩ := kd_dic s1 r1 hd
    refine ⟨aa, rfl, hisd, seq1 s1 en1 e2 fun w β2 H2 x2 s2 r2 en2 => ?_⟩
    obtain ⟨rfl, a', o, e3, g, hr⟩ := get_val s2 (r1.mono s1 x2 s2.nd) (r2.back x1 x2) h
    cases e3
    rcases hr with ⟨_, d, rfl, hr⟩ | ⟨z, hz, _⟩
    · exact ⟨o, g, q _ β2 H2 (x1.trans x2 s2.nd) s2 hr⟩
    · cases hz
theorem e_get2 {apos : Pos} {f : Expr} (hu : X.A.units + 65 < cLine) (ho : PE X l (tE X.K C a)) (he : PE X e (tE X.K C b)) (hf : PE X f (tE X.K C c)) (hr : recvOk l = true) (hp : plainE e = true) (hpf : plainE f = true) (hline : (apos.endLine == pos.line) = true) :
    PE X (.Call (.Attribute l "get" apos) [e, f] [] pos) (tE X.K C (.mt .get a (.cons b (.cons c .nil)))) :=
  PE.imp (pe_dget2 (by omega) ho he hf (plain_m2 hr hp hpf hline)) fun σ H Q ⟨β, st, ρ, r, st', s, en, h, q⟩ => by
    simp only [ev] at h
    split at h
    · cases h
    rename_i x st1 e1
    simp only [evR] at h
    split at h
    · cases h
    rename_i rs st2 h2
    split at h2
    · cases h2
    rename_i k st3 e2
    split at h2
    · cases h2
    rename_i rs4 st4 h4
    split at h4
    · cases h4
    rename_i y st5 e5
    simp only [Option.some.injEq, Prod.mk.injEq] at h2 h4
    obtain ⟨rfl, rfl⟩ := h4
    obtain ⟨rfl, rfl⟩ := h2
    split at h
    case isFalse => cases h
    rename_i hkd
    refine seq1 s en e1 fun v β1 H1 x1 s1 r1 en1 => ?_
    have hd : kdOf st1 x = .dic := by
      rw [hkd]
      exact get_kd h
    obtain ⟨aa, rfl, hisd⟩ := kd_dic s1 r1 hd
    refine ⟨aa, rfl, hisd, seq1 s1 en1 e2 fun w β2 H2 x2 s2 r2 en2 => seq1 s2 en2 e5 fun z β3 H3 x3 s3 r3 en3 => ?_⟩
    have x23 := x2.trans x3 s3.nd
    have x12 := x1.trans x2 s2.nd
    obtain ⟨rfl, a', o, e3, g, hr⟩ := get_val s3 (r1.mono s1 x23 s3.nd) ((r2.back x1 x2).mono s2 x3 s3.nd) h
    cases e3
    rcases hr with ⟨hz, _⟩ | ⟨z', hz, hr⟩
    · cases hz
    · simp only [List.cons.injEq, and_true] at hz
      subst hz
      rcases hr with ⟨rfl, rfl⟩ | ⟨d, w', rfl, rfl, hr⟩
      · exact ⟨none, g, q _ β3 H3 (x1.trans x23 s3.nd) s3 (r3.back x12 x3)⟩
      · exact ⟨some w', g, q _ β3 H3 (x1.trans x23 s3.nd) s3 hr⟩
/-! ### for k in d -/
/-- the dict is locked from now on -/
theorem pi_keysL {tg e : Expr} {td : TE} (he : PE X e td) : PI X tg e (fun σ H R => td σ H fun x H1 => ∃ d kvs, x = .ref d ∧ ((∃ o, H1 d = some (.frz o (.dK kvs)) ∧ R (L2.Itk d o kvs) H1) ∨ (H1 d = some (.dK kvs) ∧ ∀ o, R (L2.Itk d o kvs) (upd H1 d (.frz o (.dK kvs)))))) := by
  refine ⟨fun pins s σ H R I h => ?_⟩
  refine thn (he.run pins s σ H _ I h) fun u s1 ⟨x, H1, I1, rx, d, kvs, ex, q⟩ => ?_
  subst ex
  obtain rfl : u = Value.ref d := rx
  have go : ∀ (o : Obj) (H2 : Hp), Inv X pins σ H2 s1 → H2 d = some (.frz o (.dK kvs)) → R (L2.Itk d o kvs) H2 → wpAny (model X.prog X.w) X.A (pyIter (.ref d)) (PIE X pins σ tg R) X.xe s1 := fun o H2 I2 hd q => by
    obtain ⟨hs, hgd, hx, es, ep, vs, hdt, hsz, kv, hm⟩ := I2.frzK hd
    refine iter_keys hs hgd hx hdt (pi_one (tk := s1.toks) I2 _ (turn_keys _ hdt) ⟨_, Heap.get?_push_size _ rfl, rfl, ?_⟩ q)
    rw [hsz] <;> rfl
  rcases q with ⟨o, hd, q⟩ | ⟨hd, q⟩
  · exact go o H1 I1 hd q
  · obtain ⟨od, I2⟩ := I1.lock hd trivial
    exact go od _ I2 upd_same (q od)
/-- the same, keys that are rows -/
theorem pi_keysT {tg e : Expr} {td : TE} (he : PE X e td) : PI X tg e (fun σ H R => td σ H fun x H1 => ∃ d kvs, x = .ref d ∧ ((∃ o, H1 d = some (.frz o (.dT kvs)) ∧ R (L2.Itkt d o kvs) H1) ∨ (H1 d = some (.dT kvs) ∧ ∀ o, R (L2.Itkt d o kvs) (upd H1 d (.frz o (.dT kvs)))))) := by
  refine ⟨fun pins s σ H R I h => ?_⟩
  refine thn (he.run pins s σ H _ I h) fun u s1 ⟨x, H1, I1, rx, d, kvs, ex, q⟩ => ?_
  subst ex
  obtain rfl : u = Value.ref d := rx
  have go : ∀ (o : Obj) (H2 : Hp), Inv X pins σ H2 s1 → H2 d = some (.frz o (.dT kvs)) → R (L2.Itkt d o kvs) H2 → wpAny (model X.prog X.w) X.A (pyIter (.ref d)) (PIE X pins σ tg R) X.xe s1 := fun o H2 I2 hd q => by
    obtain ⟨hs, hgd, hx, es, ep, hdt, hsz, ent⟩ := I2.frzT hd
    refine iter_keys hs hgd hx hdt (pi_one (tk := s1.toks) I2 _ (turn_keysT _ hdt) ⟨_, Heap.get?_push_size _ rfl, rfl, ?_⟩ q)
    rw [hsz] <;> rfl
  rcases q with ⟨o, hd, q⟩ | ⟨hd, q⟩
  · exact go o H1 I1 hd q
  · obtain ⟨od, I2⟩ := I1.lock hd trivial
    exact go od _ I2 upd_same (q od)
def LensT (H : Hp) : Prop := ∀ (d : Addr) (o : Obj) (ks : List (List Key × V)), H d = some (.frz o (.dT ks)) → ks.length ≤ sizeLine
theorem PI.lenT {tg e : Expr} {t : TI} (h : PI X tg e t) : PI X tg e (fun σ H R => t σ H fun J H' => LensT H' → R J H') := ⟨fun pins s σ H R I hw => by
  refine thn (h.run pins s σ H _ I hw) fun v s1 h1 => thn h1 fun itv s2 h2 => ?_
  obtain ⟨it, fp, tn, J, H', e, I2, T, st2, f2, r⟩ := h2
  exact ⟨it, fp, tn, J, H', e, I2, T, st2, f2, r fun d o ks hq => (dt_rd I2.hok (.inr ⟨o, hq⟩)).1⟩⟩
theorem DicT.len {kvs : List (D × D)} {ks : List (List Key × V)} (h : DicT kvs ks) : kvs.length = ks.length := h.length
theorem repL_keys {K : PySem.W.Frag} {β : List Addr} {H : Hp} : ∀ k : List Key, RepL K β H (k.map keyD) (k.map kV)
  | [] => rfl
  | x :: xs => ⟨_, _, rfl, rep_key x, repL_keys xs⟩
theorem itok_dt {K : PySem.W.Frag} {β : List Addr} {H : Hp} {d : Addr} {o : Obj} {kvs : List (D × D)} {ks : List (List Key × V)} (h : H d = some (.frz o (.dT ks))) (hk : DicT kvs ks) (hl : ks.length ≤ sizeLine) : ItOk K β H ⟨kvs.map (·.1), [], false⟩ (L2.Itkt d o ks) := by
  have hlen := hk.len
  refine ⟨fun β2 st2 H2 x2 s2 _ i k hd => ?_, fun β2 st2 H2 x2 s2 _ => ?_, fun _ => ?_⟩
  · have hf := x2.frz d _ _ h
    have hk' : kvs.map (·.1) = ks.map fun p => tkD p.1 := hk
    simp only at hd
    rw [hk', List.getElem?_map, Option.map_eq_some_iff] at hd
    obtain ⟨p, hp, rfl⟩ := hd
    refine ⟨⟨hf, (List.getElem?_eq_some_iff.mp hp).1⟩, fun x H3 hy => ?_⟩
    obtain ⟨rfl, k', v', q, hk2, rfl, hq⟩ := hy
    rw [hp] at hk2
    cases hk2
    exact ⟨.refl, s2, q, _, rfl, .inl hq, repL_keys _⟩
  · exact ⟨x2.frz d _ _ h, by simp [hlen]⟩
  · simp only [List.length_map]; omega
def LensD (H : Hp) : Prop := ∀ (d : Addr) (o : Obj) (ks : List (Key × V)), H d = some (.frz o (.dK ks)) → ks.length ≤ sizeLine
theorem PI.lenD {tg e : Expr} {t : TI} (h : PI X tg e t) : PI X tg e (fun σ H R => t σ H fun J H' => LensD H' → R J H') := ⟨fun pins s σ H R I hw => by
  refine thn (h.run pins s σ H _ I hw) fun v s1 h1 => thn h1 fun itv s2 h2 => ?_
  obtain ⟨it, fp, tn, J, H', e, I2, T, st2, f2, r⟩ := h2
  exact ⟨it, fp, tn, J, H', e, I2, T, st2, f2, r fun d o ks hq => (dk_rd I2.hok (.inr ⟨o, hq⟩)).1⟩⟩
theorem itok_dk {K : PySem.W.Frag} {β : List Addr} {H : Hp} {d : Addr} {o : Obj} {kvs : List (D × D)} {ks : List (Key × V)} (h : H d = some (.frz o (.dK ks))) (hk : DicR kvs ks) (hl : ks.length ≤ sizeLine) : ItOk K β H ⟨kvs.map (·.1), [], false⟩ (L2.Itk d o ks) := by
  have hlen := hk.length
  refine ⟨fun β2 st2 H2 x2 s2 _ i k hd => ?_, fun β2 st2 H2 x2 s2 _ => ?_, fun _ => ?_⟩
  · have hf := x2.frz d _ _ h
    have hk' : kvs.map (·.1) = ks.map fun p => keyD p.1 := hk
    simp only at hd
    rw [hk', List.getElem?_map, Option.map_eq_some_iff] at hd
    obtain ⟨p, hp, rfl⟩ := hd
    refine ⟨⟨hf, (List.getElem?_eq_some_iff.mp hp).1⟩, fun x H3 hy => ?_⟩
    obtain ⟨rfl, k', v', hk2, rfl⟩ := hy
    rw [hp] at hk2
    cases hk2
    exact ⟨.refl, s2, rep_key _⟩
  · exact ⟨x2.frz d _ _ h, by simp [hlen]⟩
  · simp only [List.length_map]; omega
theorem s_dk {tg e : Expr} (ha : PE X e (tE X.K C a)) : PI X tg e (tS X.K C (.dk a)) :=
  PI.imp (PI.or (PI.lenD (pi_keysL ha)) (PI.lenT (pi_keysT ha))) fun σ H R ⟨β, st, ρ, v, st', s, en, h, q⟩ => by
    simp only [evS] at h
    split at h
    · cases h
    rename_i r st1 e1
    unfold dkOf at h
    split at h
    case h_2 => cases h
    rename_i n
    split at h
    · rename_i lk kvs hz
      left
      simp only [Option.some.injEq, Prod.mk.injEq] at h
      obtain ⟨rfl, rfl⟩ := h
      refine seq1 s en e1 fun x β1 H1 x1 s1 r1 en1 => ?_
      obtain ⟨d, h1, rfl⟩ := r1
      obtain ⟨ks, h2, h3, h4⟩ := s1.obj n d _ h1 hz
      refine ⟨d, ks, rfl, ?_⟩
      cases lk with
      | true =>
        obtain ⟨o, h2⟩ := h2
        refine .inl ⟨o, h2, fun hl => q β1 H1 _ x1 ?_ (itok_dk h2 h3 (hl d o ks h2))⟩
        have es : st1.set n (.dic true kvs) = st1 := by
          obtain ⟨hn, e⟩ := List.getElem?_eq_some_iff.mp hz
          rw [← e, List.set_getElem_self]
        rw [es]; exact s1
      | false =>
        refine .inr ⟨h2, fun o hl => ?_⟩
        have h2' : H1 d = some (.dK ks) := h2
        have el : Ext β1 H1 β1 (upd H1 d (.frz o (.dK ks))) := Ext.refl.write (List.mem_of_getElem? h1) (dK_nf h2')
        exact q β1 _ _ (x1.trans el s1.nd) (s1.writeD h1 el ⟨o, rfl⟩ h3 h4) (itok_dk upd_same h3 (hl d o ks upd_same))
    · rename_i lk kvs hz
      right
      simp only [Option.some.injEq, Prod.mk.injEq] at h
      obtain ⟨rfl, rfl⟩ := h
      refine seq1 s en e1 fun x β1 H1 x1 s1 r1 en1 => ?_
      obtain ⟨d, h1, rfl⟩ := r1
      obtain ⟨ks, h2, h3, h4⟩ := s1.obj n d _ h1 hz
      refine ⟨d, ks, rfl, ?_⟩
      cases lk with
      | true =>
        obtain ⟨o, h2⟩ := h2
        refine .inl ⟨o, h2, fun hl => q β1 H1 _ x1 ?_ (itok_dt h2 h3 (hl d o ks h2))⟩
        have es : st1.set n (.dit true kvs) = st1 := by
          obtain ⟨hn, e⟩ := List.getElem?_eq_some_iff.mp hz
          rw [← e, List.set_getElem_self]
        rw [es]; exact s1
      | false =>
        refine .inr ⟨h2, fun o hl => ?_⟩
        have h2' : H1 d = some (.dT ks) := h2
        have el : Ext β1 H1 β1 (upd H1 d (.frz o (.dT ks))) := Ext.refl.write (List.mem_of_getElem? h1) (dT_nf h2')
        exact q β1 _ _ (x1.trans el s1.nd) (s1.writeT h1 el ⟨o, rfl⟩ h3 h4) (itok_dt upd_same h3 (hl d o ks upd_same))
    · cases h
end
end Mw

set_option Elab.async false
set_option linter.all false
set_option autoImplicit false
set_option maxRecDepth 100000
/-! PyDd: a display {k: v} with a row of whole numbers as key. -/
namespace Mw
open PySem PySem.Spec PyProof.Rows L2
section
variable {X : Cx} {pos : Pos}
def tDisT (tk tv : TE) : TE := fun σ H Q => ∀ p, H p = none → tk σ (upd H p (.dT [])) fun x H1 => tv σ H1 fun y H2 => H2 p = some (.dT []) ∧
  ∃ (k : List Key) (b : Addr), x = .ref b ∧ H2 b = some (.tup (k.map kV)) ∧ Q (.ref p) (upd H2 p (.dT [(k, y)]))
theorem pe_disT {l r : Expr} {tk tv : TE} (hu : X.A.units + 1 < cLine) (ha : PE X l tk) (hb : PE X r tv) : PE X (.Dict [some l] [r] pos) (tDisT tk tv) := by
  refine ⟨fun pins s σ H Q I q => ?_⟩
  have hn := I.hok.fresh (Nat.le_refl s.heap.objs.size)
  have I1 := I.laid (a := s.heap.objs.size) (o := .dT []) (h' := s.heap.push { cls := .type "dict", data := .dict #[] }) (t' := s.toks) (fun _ _ q => Heap.get?_push_of_some _ q) (Nat.le_refl _) (dt_empty s.heap I.big)
  have hp := pairTrees_length [some l] [r] X.env pos rfl rfl
  have h0 : pairTrees [some l] [r] X.env pos ≠ [] := fun e => by rw [e] at hp; cases hp
  rw [arm_eval_Dict, zip_pairTrees [some l] [r] X.env pos rfl rfl, dictDisplay_pairs (pairTrees [some l] [r] X.env pos) h0 (by rw [hp]; show 1 + 1 ≤ 17; decide)]
  refine wpAny_bind (wpAny_standAt (wpAny_bind (wpAny_subDictH (knd := tupleKind (mixKind X.prog X.w)) (Q := fun d s' => wpAny (model X.prog X.w) X.A (pure (Value.ref d)) _ X.xe s') (show X.A.units < cLine by omega) (by rw [hp]; show 1 ≤ 15; decide)
    (pairTrees_cons_walk (thn (ha.run pins _ σ _ _ I1 (q _ hn)) fun u s1 ⟨x, H1, I2, rx, q1⟩ => thn (hb.run pins s1 σ H1 _ I2 q1) fun w2 s2 ⟨y, H2, I3, ry, e, k, b, ex, eb, q2⟩ => pairTrees_nil_walk ?_)))))
  subst ex
  cases (show u = Value.ref b from rx)
  obtain ⟨z, hd, xs, rel, dd⟩ := dt_of I3.hok e
  cases rel
  refine ⟨[(k, b, w2)], ⟨rfl, rfl, key_of I3.hok eb, trivial⟩, dd, fun h' tk' dd' hs => wpAny_pure ⟨.ref s.heap.objs.size, _, ?_, rfl, q2⟩⟩
  obtain ⟨q, es, ep, hq, h2, h3, h4, h6, h5⟩ := dd'
  have kt : KT H2 (putK [] k y) (storedH [] k b w2) := KT.put (H := H2) (.nil) k eb ry
  have ok : ObjOk X.prog X.w (upd H2 s.heap.objs.size (HO.dT [(k, y)])) h' s.heap.objs.size (HO.dT [(k, y)]) := by
    refine ⟨by rw [sizeLine_eq]; show 1 ≤ 16777216; decide, hd, _, KT.keeps (kvs := [(k, y)]) (xs := [(k, b, w2)]) kt fun c ys ec => ?_, q, es, ep, hq, h2, h3, h4, h5⟩
    rw [upd_ne (ne_of ec e (fun z => nomatch z))]
    exact ec
  exact d_write I3 (by rw [e]; exact True.intro) hs ⟨q, hq⟩ ok
theorem KeepT.updDT {H : Hp} {p : Addr} {ks : List (List Key × V)} {u : HO} (h : H p = some (.dT ks)) : KeepT H (L2.upd H p u) := fun b =>
  ⟨fun xs e => by rw [upd_ne fun z => by rw [z, h] at e; cases e]; exact e, fun o u e => by rw [upd_ne fun z => by rw [z, h] at e; cases e]; exact e⟩
theorem e_dit1 {C : Call} {a b : CE} {l r : Expr} (hu : X.A.units + 65 < cLine) (ha : PE X l (tE X.K C a)) (hb : PE X r (tE X.K C b)) : PE X (.Dict [some l] [r] pos) (tE X.K C (.dit1 a b)) :=
  PE.imp (pe_disT (by omega) ha hb) fun σ H Q ⟨β, st, ρ, r, st', s, en, e, q⟩ p hp => by
    simp only [ev] at e
    split at e
    · cases e
    rename_i x st1 e1
    split at e
    · cases e
    rename_i y st2 e2
    split at e
    case h_2 => cases e
    rename_i d
    split at e
    case isFalse => cases e
    rename_i hk
    simp only [Option.some.injEq, Prod.mk.injEq] at e
    obtain ⟨rfl, rfl⟩ := e
    obtain ⟨ns, rfl⟩ := tkOk_iff hk
    have hpβ := s.off hp
    have x0 : Ext β H β (upd H p (.dT [])) := Ext.new hp
    refine seq1 (s.new hp) (en.mono s x0) e1 fun v β1 H1 x1 s1 r1 en1 => seq1 s1 en1 e2 fun w β2 H2 x2 s2 r2 en2 => ?_
    obtain ⟨b, rfl, hb⟩ := rep_tk (Rep.mono s1 x2 _ _ r1)
    obtain ⟨β3, x3, s3, r3, _⟩ := mat_ok x2 s2 r2
    have x13 := x1.trans x3 s3.nd
    have h2p : H2 p = some (.dT []) := x13.keep p _ upd_same hpβ
    refine ⟨h2p, _, b, rfl, hb, ?_⟩
    have hp3 : p ∉ β3 := by
      obtain ⟨new, en, f⟩ := x13.pre
      rw [en]
      intro hm
      rcases List.mem_append.mp hm with z | z
      · exact hpβ z
      · have := f p z; rw [upd_same] at this; cases this
    obtain ⟨u, hu⟩ : ∃ u, u = HO.dT [(ns.map Sum.inl, w)] := ⟨_, rfl⟩
    rw [← hu]
    have kt : KeepT H2 (upd H2 p u) := KeepT.updDT h2p
    have s4 : Sim X.K β3 (mat y st2).2 (upd H2 p u) := s3.keepT kt fun b hb => upd_ne fun z => hp3 (z ▸ hb)
    have x4 : Ext β H (β3 ++ [p]) (upd H2 p u) := by
      obtain ⟨new, en, f⟩ := x13.pre
      refine ⟨⟨new ++ [p], by rw [en, List.append_assoc], fun b hb => ?_⟩, fun b o hb hn => ?_, fun b o u' hb => ?_⟩
      · rcases List.mem_append.mp hb with z | z
        · have := f b z
          by_cases hbp : b = p
          · rw [hbp, upd_same] at this; cases this
          · rw [upd_ne hbp] at this; exact this
        · simp only [List.mem_singleton] at z; rw [z]; exact hp
      · have hbp : b ≠ p := fun z => by rw [z, hp] at hb; cases hb
        rw [upd_ne hbp]
        exact x13.keep b o (by rw [upd_ne hbp]; exact hb) hn
      · have hbp : b ≠ p := fun z => by rw [z, hp] at hb; cases hb
        rw [upd_ne hbp]
        exact x13.frz b o u' (by rw [upd_ne hbp]; exact hb)
    refine q (.ref p) (β3 ++ [p]) _ x4 (s4.layO hp3 ⟨[(ns.map Sum.inl, w)], ?_, ?_, ?_⟩) ⟨p, lay_at s3.len, rfl⟩
    · show upd H2 p u p = _
      rw [upd_same, hu]
    · show [D.tup (ns.map .int)] = [tkD (ns.map Sum.inl)]
      rw [tkD_ints]
    · exact RepL.one (Rep.grow grow_app _ _ (Rep.keepT kt _ _ r3))
end
end Mw

set_option Elab.async false
set_option linter.all false
set_option autoImplicit false
set_option maxRecDepth 100000
/-! PyZp: zip of three. -/
namespace Mw
open PySem PySem.Spec PyProof.Rows L2
def Iz3 (k l j : Kq) (K : PySem.W.Frag) (a b c : Addr) : It :=
  ⟨fun i H => ∃ (xs ys zs : List V) (x y z : V), sqK k K H a xs ∧ sqK l K H b ys ∧ sqK j K H c zs ∧ xs[i]? = some x ∧ ys[i]? = some y ∧ zs[i]? = some z,
    fun i H v H' => ∃ T x y z, v = .ref T ∧ H T = none ∧ H' = upd H T (.tup [x, y, z]) ∧ (∀ xs, sqK k K H a xs → xs[i]? = some x) ∧ (∀ ys, sqK l K H b ys → ys[i]? = some y) ∧ ∀ zs, sqK j K H c zs → zs[i]? = some z,
    fun i H => ∃ xs ys zs : List V, sqK k K H a xs ∧ sqK l K H b ys ∧ sqK j K H c zs ∧ min (min xs.length ys.length) zs.length = i⟩
def ZSt3 (k l j : Kq) (N : Addr) (a b c : Addr) (i : Nat) (h : Heap) : Prop :=
  IsZip h (N + 5) (N + 3) (N + 4) .none ∧ IsTupOf3 h (N + 3) (.ref N) (.ref (N + 1)) (.ref (N + 2)) ∧ (∃ a1 a2 a3, IsTupOf3 h (N + 4) a1 a2 a3) ∧ itK k h N a i ∧ itK l h (N + 1) b i ∧ itK j h (N + 2) c i ∧ a < N ∧ b < N ∧ c < N
theorem lt6 {N T S c : Nat} (h : N + 5 < S) (h2 : S ≤ T) (hc : c = N + 5 ∨ c = N + 3 ∨ c = N + 4 ∨ c = N ∨ c = N + 1 ∨ c = N + 2) : c < T := by omega
theorem turn_z3 {P : Program} {w : World} {K : PySem.W.Frag} {elts : List Expr} {kk : Nat} {tpos : Pos} {k l j : Kq} {a b d N : Addr} :
    Turn P w K (.Tuple elts kk tpos) (Iz3 k l j K a b d) [N + 5, N + 3, N + 4, N, N + 1, N + 2] (N + 5) (ZSt3 k l j N a b d) where
  mem := by simp
  obj := fun i h st c hc => by
    obtain ⟨hz, hTI, ⟨x, y, z, hTO⟩, h1, h2, h3, _⟩ := st
    simp only [List.mem_cons, List.not_mem_nil, or_false] at hc
    rcases hc with rfl | rfl | rfl | rfl | rfl | rfl
    · exact ⟨_, hz, fun v q => nomatch q⟩
    · exact ⟨_, hTI, fun v q => nomatch q⟩
    · exact ⟨_, hTO, fun v q => nomatch q⟩
    · exact it_obj h1
    · exact it_obj h2
    · exact it_obj h3
  keep := fun i h h' st kp => by
    obtain ⟨hz, hTI, ⟨x, y, z, hTO⟩, h1, h2, h3, l1, l2, l3⟩ := st
    exact ⟨kp _ (by simp) _ hz, kp _ (by simp) _ hTI, ⟨x, y, z, kp _ (by simp) _ hTO⟩, it_keep h1 (fun o q => kp _ (by simp) o q), it_keep h2 (fun o q => kp _ (by simp) o q), it_keep h3 (fun o q => kp _ (by simp) o q), l1, l2, l3⟩
  item := by
    intro X hP hw hK hc i pins s σ H E I hf st hg
    subst hP hw hK
    obtain ⟨hz, hTI, ⟨a1, a2, a3, hTO⟩, h1, h2, h3, l1, l2, l3⟩ := st
    obtain ⟨xs, ys, zs, x, y, z, hq, hq', hq3, hx, hy, hzz⟩ := hg
    obtain ⟨its, rv, co, _⟩ := sq_inv I hq
    obtain ⟨its2, rv2, co2, _⟩ := sq_inv I hq'
    obtain ⟨its3, rv3, co3, _⟩ := sq_inv I hq3
    obtain ⟨u, hu, ru⟩ := rv.get hx
    obtain ⟨u2, hu2, ru2⟩ := rv2.get hy
    obtain ⟨u3, hu3, ru3⟩ := rv3.get hzz
    have sep : ZipSep3 (N + 5) (N + 3) (N + 4) N (N + 1) (N + 2) [N, a] [N + 1, b] [N + 2, d] :=
      zip_sep3 (fp1 := [a]) (fp2 := [b]) (fp3 := [d]) (fun c hc => by rw [List.mem_singleton.mp hc]; exact l1) (fun c hc => by rw [List.mem_singleton.mp hc]; exact l2) (fun c hc => by rw [List.mem_singleton.mp hc]; exact l3)
    have W := GoesN.zip3 (prog := X.prog) (w := X.w) (A := X.A) (elts := elts) (x1 := kk) (pos := tpos) sep (draws_k (k := k) (prog := X.prog) (w := X.w) (A := X.A.in1) (I.ok.hd hc) (it_ne h1 co) its.toArray) (draws_k (k := l) (prog := X.prog) (w := X.w) (A := X.A.in1) (I.ok.hd hc) (it_ne h2 co2) its2.toArray) (draws_k (k := j) (prog := X.prog) (w := X.w) (A := X.A.in1) (I.ok.hd hc) (it_ne h3 co3) its3.toArray)
    have b1 := (List.getElem?_eq_some_iff.mp hu).1
    have b2 := (List.getElem?_eq_some_iff.mp hu2).1
    have b3 := (List.getElem?_eq_some_iff.mp hu3).1
    have hil : i < min (min its.toArray.size its2.toArray.size) its3.toArray.size := by simp only [List.size_toArray]; omega
    refine W.goes i s _ E hil ⟨hz, hTI, ⟨a1, a2, a3, hTO⟩, ⟨h1, co⟩, ⟨h2, co2⟩, ⟨h3, co3⟩⟩ fun v h' tk hY st' hk _ => ?_
    obtain ⟨T, y1, y2, y3, rfl, hT, hy1, hy2, hy3, hTT⟩ := hY
    have e1 : y1 = u := by
      rw [List.getElem?_toArray, hu] at hy1
      exact (Option.some.inj hy1).symm
    have e2 : y2 = u2 := by
      rw [List.getElem?_toArray, hu2] at hy2
      exact (Option.some.inj hy2).symm
    have e3 : y3 = u3 := by
      rw [List.getElem?_toArray, hu3] at hy3
      exact (Option.some.inj hy3).symm
    subst e1 e2 e3
    have sub : ∀ c, c ∈ [N + 5, N + 4, N, N + 1, N + 2] → c ∈ [N + 5, N + 3, N + 4, N, N + 1, N + 2] := fun c hc => by
      simp only [List.mem_cons, List.not_mem_nil, or_false] at hc ⊢
      rcases hc with z | z | z | z | z <;> simp [z]
    have I1 : Inv X pins σ (upd H T (.tup [x, y, z])) { s with heap := h', toks := tk } :=
      I.turnedNew (t' := tk) (ch := [N + 5, N + 4, N, N + 1, N + 2]) (fun c o hcn q => hk c o hcn q) (fun c hc => hf c (sub c hc)) hT ⟨by show 3 ≤ sizeLine; decide, _, .cons ru (.cons ru2 (.cons ru3 .nil)), hTT⟩
    obtain ⟨hz', hTI', hTO', ⟨h1', _⟩, ⟨h2', _⟩, ⟨h3', _⟩⟩ := st'
    refine ⟨.ref T, _, I1, rfl, ⟨T, x, y, z, rfl, I.hok.fresh hT, rfl, fun zs hzs => by rw [sq_inj I hzs hq]; exact hx, fun zs hzs => by rw [sq_inj I hzs hq']; exact hy, fun zs hzs => by rw [sq_inj I hzs hq3]; exact hzz⟩, ⟨hz', hTI', hTO', h1', h2', h3', l1, l2, l3⟩, fun c hc => ?_⟩
    have hzl : N + 5 < s.heap.objs.size := Heap.lt_size hz
    have hcl : c < T := lt6 hzl hT (by simpa only [List.mem_cons, List.not_mem_nil, or_false] using hc)
    rw [upd_ne (Nat.ne_of_lt hcl)]
    exact (hf c hc).1
  done := by
    intro X hP hw hK hc i pins s σ H E I hf st hg
    subst hP hw hK
    obtain ⟨hz, hTI, ⟨a1, a2, a3, hTO⟩, h1, h2, h3, l1, l2, l3⟩ := st
    obtain ⟨xs, ys, zs, hq, hq', hq3, hn⟩ := hg
    obtain ⟨its, rv, co, _⟩ := sq_inv I hq
    obtain ⟨its2, rv2, co2, _⟩ := sq_inv I hq'
    obtain ⟨its3, rv3, co3, _⟩ := sq_inv I hq3
    have sep : ZipSep3 (N + 5) (N + 3) (N + 4) N (N + 1) (N + 2) [N, a] [N + 1, b] [N + 2, d] :=
      zip_sep3 (fp1 := [a]) (fp2 := [b]) (fp3 := [d]) (fun c hc => by rw [List.mem_singleton.mp hc]; exact l1) (fun c hc => by rw [List.mem_singleton.mp hc]; exact l2) (fun c hc => by rw [List.mem_singleton.mp hc]; exact l3)
    have W := GoesN.zip3 (prog := X.prog) (w := X.w) (A := X.A) (elts := elts) (x1 := kk) (pos := tpos) sep (draws_k (k := k) (prog := X.prog) (w := X.w) (A := X.A.in1) (I.ok.hd hc) (it_ne h1 co) its.toArray) (draws_k (k := l) (prog := X.prog) (w := X.w) (A := X.A.in1) (I.ok.hd hc) (it_ne h2 co2) its2.toArray) (draws_k (k := j) (prog := X.prog) (w := X.w) (A := X.A.in1) (I.ok.hd hc) (it_ne h3 co3) its3.toArray)
    have en : min (min its.toArray.size its2.toArray.size) its3.toArray.size = i := by rw [List.size_toArray, List.size_toArray, List.size_toArray, ← rv.length, ← rv2.length, ← rv3.length]; exact hn
    have sub : ∀ c, c ∈ [N + 5, N + 4, N, N + 1, N + 2] → c ∈ [N + 5, N + 3, N + 4, N, N + 1, N + 2] := fun c hc => by
      simp only [List.mem_cons, List.not_mem_nil, or_false] at hc ⊢
      rcases hc with z | z | z | z | z <;> simp [z]
    exact W.stops s (fun s1 => Inv X pins σ H s1) E (by rw [en]; exact ⟨hz, hTI, ⟨a1, a2, a3, hTO⟩, ⟨h1, co⟩, ⟨h2, co2⟩, ⟨h3, co3⟩⟩) fun h' tk hk _ => I.turnedL (ch := [N + 5, N + 4, N, N + 1, N + 2]) (fun c o hcn q => hk c o hcn q) fun c hc => hf c (sub c hc)
  self := fun A i s Q E st h => wpAny_pyIter_zip st.1 h
def iZ3 (k l j : Kq) (K : PySem.W.Frag) (ta : TA) : TI := fun σ H R => ta σ H fun vs H1 => ∃ a b c xs ys zs, vs = [.ref a, .ref b, .ref c] ∧ sqK k K H1 a xs ∧ sqK l K H1 b ys ∧ sqK j K H1 c zs ∧ R (Iz3 k l j K a b c) H1
theorem pi_z3 {X : Cx} {k l j : Kq} {e e2 e3 : Expr} {ta : TA} {p pos tpos : Pos} {elts : List Expr} {kk : Nat} (hg : Gl X "zip") (hm : X.mg "zip" = none) (ha : PA X [e, e2, e3] ta)
    (hs : starEach [e, e2, e3] X.env = (false, eval e X.env) :: starEach [e2, e3] X.env) (hpl : (backTo pos (starEach [e2, e3] X.env)).any (·.1) = false) :
    PI X (.Tuple elts kk tpos) (.Call (.Name "zip" p) [e, e2, e3] [] pos) (iZ3 k l j X.K ta) := by
  refine ⟨fun pins s σ H R I h => ?_⟩
  refine Call_ (ld_blt I hg hm PyProof.Rows.boot_zip (PyProof.Rows.callWith_type1 (thn (ha.run pos pins s σ H _ I h) fun us s1 ⟨vs, H1, I1, r1, q1⟩ => ?_) hs hpl))
  obtain ⟨a, b, c, xs, ys, zs, ex, hq, hq', hq3, q⟩ := q1
  subst ex
  cases r1 with
  | cons r rr =>
    cases rr with
    | cons r' rr =>
      cases rr with
      | cons r3 rr =>
        cases rr
        cases r
        cases r'
        cases r3
        obtain ⟨its, rv, co, _⟩ := sq_inv I1 hq
        obtain ⟨its2, rv2, co2, _⟩ := sq_inv I1 hq'
        obtain ⟨its3, rv3, co3, _⟩ := sq_inv I1 hq3
        refine zip_begins3 (begins_k k a its.toArray) (begins_k l b its2.toArray) (begins_k j c its3.toArray) co co2 co3 fun h' hz hTI hTO h1 h2 h3 hsz hk => wpAny_pyIter_zip hz ?_
        have I2 : Inv X pins σ H1 { s1 with heap := h' } := I1.kept (t' := s1.toks) hk
        refine ⟨s1.heap.objs.size + 5, [s1.heap.objs.size + 5, s1.heap.objs.size + 3, s1.heap.objs.size + 4, s1.heap.objs.size, s1.heap.objs.size + 1, s1.heap.objs.size + 2], _, _, H1, rfl, I2, turn_z3 (k := k) (l := l) (j := j) (a := a) (b := b) (d := c), ⟨hz, hTI, ⟨_, _, _, hTO⟩, it_of h1, it_of h2, it_of h3, co_lt co, co_lt co2, co_lt co3⟩, fun c hcm => ?_, q⟩
        have hle : s1.heap.objs.size ≤ c := by
          simp only [List.mem_cons, List.not_mem_nil, or_false] at hcm
          rcases hcm with z | z | z | z | z | z
          · rw [z]; exact Nat.le_add_right _ _
          · rw [z]; exact Nat.le_add_right _ _
          · rw [z]; exact Nat.le_add_right _ _
          · rw [z]; exact Nat.le_refl _
          · rw [z]; exact Nat.le_add_right _ _
          · rw [z]; exact Nat.le_add_right _ _
        exact I1.fpOk hle (I1.hok.fresh hle)
section
variable {X : Cx} {C : Call} {K : PySem.W.Frag}
theorem three_rep {β : List Addr} {H H0 : Hp} {r r' r3 : RV} {vs : List V} (h : RRepL K β H H0 [r, r', r3] vs) : ∃ v v' v3, vs = [v, v', v3] ∧ RRep K β H H0 r v ∧ RRep K β H H0 r' v' ∧ RRep K β H H0 r3 v3 := by
  obtain ⟨v, w, rfl, h1, h2⟩ := h
  obtain ⟨v', v3, rfl, h3, h4⟩ := two_rep h2
  exact ⟨v, v', v3, rfl, h1, h3, h4⟩
theorem itok_z3 {k l j : Kq} {β : List Addr} {H : Hp} {v w u : SV} {a b c : Addr} (h : Stn k K β H v a) (h' : Stn l K β H w b) (h3 : Stn j K β H u c) (hl : Lens K H) : ItOk K β H ⟨List.zipWith (fun x (y : D × D) => .tup [x, y.1, y.2]) v.xs (w.xs.zip u.xs), v.ws ++ w.ws ++ u.ws, false⟩ (Iz3 k l j K a b c) := by
  obtain ⟨vs, f1, f2, f3⟩ := h
  obtain ⟨us, f1', f2', f3'⟩ := h'
  obtain ⟨ts, p1, p2, p3⟩ := h3
  refine ⟨fun β2 st2 H2 x2 s2 hc i d hd => ?_, fun β2 st2 H2 x2 s2 hc => ?_, fun _ => ?_⟩
  · have hc12 := chk_app hc
    have hc1 := chk_app hc12.1
    obtain ⟨vs2, g1, g2⟩ := f3 β2 st2 H2 x2 s2 hc1.1
    obtain ⟨us2, g1', g2'⟩ := f3' β2 st2 H2 x2 s2 hc1.2
    obtain ⟨ts2, t1, t2⟩ := p3 β2 st2 H2 x2 s2 hc12.2
    simp only [List.getElem?_zipWith] at hd
    split at hd
    · rename_i x y hx hy
      simp only [Option.some.injEq] at hd
      subst hd
      obtain ⟨y1, y2⟩ := y
      obtain ⟨hy1, hy2⟩ := List.getElem?_zip_eq_some.mp hy
      obtain ⟨x', hx', rx⟩ := RepL.at g2 hx
      obtain ⟨y', hy', ry⟩ := RepL.at g2' hy1
      obtain ⟨z', hz', rz⟩ := RepL.at t2 hy2
      refine ⟨⟨vs2, us2, ts2, x', y', z', g1, g1', t1, hx', hy', hz'⟩, fun z H3 hz => ?_⟩
      obtain ⟨T, x3, y3, z3, rfl, hT, rfl, ex, ey, ez⟩ := hz
      have e1 := ex vs2 g1
      have e2 := ey us2 g1'
      have e3 := ez ts2 t1
      rw [hx'] at e1
      rw [hy'] at e2
      rw [hz'] at e3
      cases e1
      cases e2
      cases e3
      exact ⟨.new hT, s2.new hT, _, _, rfl, SqU.of upd_same, _, _, rfl, Rep.mono s2 (.new hT) _ _ rx, _, _, rfl, Rep.mono s2 (.new hT) _ _ ry, _, [], rfl, Rep.mono s2 (.new hT) _ _ rz, rfl⟩
    · cases hd
  · have hc12 := chk_app hc
    have hc1 := chk_app hc12.1
    obtain ⟨vs2, g1, g2⟩ := f3 β2 st2 H2 x2 s2 hc1.1
    obtain ⟨us2, g1', g2'⟩ := f3' β2 st2 H2 x2 s2 hc1.2
    obtain ⟨ts2, t1, t2⟩ := p3 β2 st2 H2 x2 s2 hc12.2
    exact ⟨vs2, us2, ts2, g1, g1', t1, by simp only [List.length_zipWith, List.length_zip]; rw [g2.length, g2'.length, t2.length]; omega⟩
  · simp only [List.length_zipWith]
    have := hl k a vs f1
    rw [f2.length]
    omega
theorem s_zp3 {e e' e3 : Expr} {es : CEs} {p pos tpos : Pos} {elts : List Expr} {kk : Nat} (hl : lenC es = 3) (hp : plainE e = true) (hp' : plainE e' = true) (hp3 : plainE e3 = true) (hg : Gl X "zip") (hm : X.mg "zip" = none) (ha : PA X [e, e', e3] (tR X.K C es)) :
    PI X (.Tuple elts kk tpos) (.Call (.Name "zip" p) [e, e', e3] [] pos) (tS X.K C (.zp es)) :=
  have P := fun (k l j : Kq) => PI.len (pi_z3 (k := k) (l := l) (j := j) (p := p) (pos := pos) (tpos := tpos) (elts := elts) (kk := kk) hg hm ha (star_plain hp) (stars_plain (by simp [hp', hp3])))
  PI.imp (PI.or (PI.or (PI.or (P .L .L .L) (P .L .L .T)) (PI.or (P .L .T .L) (P .L .T .T))) (PI.or (PI.or (P .T .L .L) (P .T .L .T)) (PI.or (P .T .T .L) (P .T .T .T)))) fun σ H R ⟨β, st, ρ, v, st', s, en, e, q⟩ => by
    simp only [evS] at e
    split at e
    · cases e
    rename_i rs st1 e1
    simp only [Option.map_eq_some_iff, Prod.mk.injEq] at e
    obtain ⟨w, e2, rfl, rfl⟩ := e
    have hlr := evR_len e1
    unfold zpOf at e2
    split at e2
    · simp [hl] at hlr
    · rename_i a b c
      split at e2
      · rename_i p q' u hp hq hu
        simp only [Option.some.injEq] at e2
        subst e2
        have go : tR X.K C es σ H fun vs H1 => ∃ a' b' c' xs ys zs, vs = [.ref a', .ref b', .ref c'] ∧ sqK (kqOf a) X.K H1 a' xs ∧ sqK (kqOf b) X.K H1 b' ys ∧ sqK (kqOf c) X.K H1 c' zs ∧ (Lens X.K H1 → R (Iz3 (kqOf a) (kqOf b) (kqOf c) X.K a' b' c') H1) := by
          refine seqR s en e1 fun vs β1 H1 x1 s1 r1 en1 => ?_
          obtain ⟨v, v', v3, rfl, rv, rv', rv3⟩ := three_rep r1
          obtain ⟨a', xs, rfl, f1, f2⟩ := Stn.of s1 rv hp
          obtain ⟨b', ys, rfl, g1, g2⟩ := Stn.of s1 rv' hq
          obtain ⟨c', zs, rfl, t1, t2⟩ := Stn.of s1 rv3 hu
          exact ⟨a', b', c', xs, ys, zs, rfl, f1, g1, t1, fun hz => q β1 H1 _ x1 s1 (itok_z3 f2 g2 t2 hz)⟩
        cases hk : kqOf a <;> cases hk' : kqOf b <;> cases hk3 : kqOf c <;> rw [hk, hk', hk3] at go
        · exact .inl (.inl (.inl go))
        · exact .inl (.inl (.inr go))
        · exact .inl (.inr (.inl go))
        · exact .inl (.inr (.inr go))
        · exact .inr (.inl (.inl go))
        · exact .inr (.inl (.inr go))
        · exact .inr (.inr (.inl go))
        · exact .inr (.inr (.inr go))
      · cases e2
    · cases e2
end
end Mw

set_option Elab.async false
set_option linter.all false
set_option autoImplicit false
set_option maxRecDepth 100000
/-! PyD: the checker of core text against the program's text, expressions. -/
namespace Mw
open PySem PySem.Spec PyProof.Rows L2
/-! ### tests and values -/
def plainT : Expr → Bool
  | .UnaryOp .Not _ _ => false
  | .BoolOp .. => false
  | .IfExp .. => false
  | .Compare .. => false
  | _ => true
theorem isTrue_plainT {e : Expr} {env : PySem.Env} (h : plainT e = true) (whole : Sem Value) : isTrue e env whole = (do let v ← whole; standAt e.pos; holding [v] (truthy v)) := by
  cases e with
  | UnaryOp op x pos => cases op <;> first | rfl | (cases h)
  | BoolOp _ _ _ => cases h
  | IfExp _ _ _ _ => cases h
  | Compare _ _ _ _ => cases h
  | _ => rfl
structure J (X : Cx) (C : Call) (c : CE) (e : Expr) : Prop where
  pe : PE X e (tE X.K C c)
  pt : PT X e (tT X.K C c)
  pw : ∀ op vs pos, e = .BoolOp op vs pos → PW X e (tT X.K C c)
section
variable {X : Cx} {C : Call} {c a b : CE} {e l r m : Expr} {pos : Pos}
theorem J.of (h : PE X e (tE X.K C c)) (ht : plainT e = true) : J X C c e :=
  ⟨h, PT.imp (pt_truth h (isTrue_plainT ht)) fun _ _ _ => tT_tE, fun op vs pos z => by subst z; cases ht⟩
theorem J.of2 (h : PE X e (tE X.K C c)) (ht : PT X e (tT X.K C c)) (hn : ∀ op vs pos, e ≠ .BoolOp op vs pos) : J X C c e := ⟨h, ht, fun op vs pos z => (hn op vs pos z).elim⟩
theorem J.bad : J X C .bad e :=
  ⟨⟨fun _ _ _ _ _ _ ⟨_, _, _, _, _, _, _, ee, _⟩ => by simp [ev] at ee⟩, ⟨fun _ _ _ _ _ _ ⟨_, _, _, _, _, _, _, ee, _⟩ => by simp [ev, evT] at ee⟩, fun _ _ _ _ => ⟨fun _ _ _ _ _ _ _ ⟨_, _, _, _, _, _, _, ee, _⟩ => by simp [ev, evT] at ee⟩⟩
/-- one operand alone -/
theorem J.one {op : BoolOp} (h : J X C c e) : PE X (.BoolOp op [e] pos) (tE X.K C c) ∧ PW X (.BoolOp op [e] pos) (tT X.K C c) :=
  ⟨pe_one h.pe, by cases op; exact pw_and1 h.pt; exact pw_or1 h.pt⟩
theorem J.and {rest : List Expr} (h : J X C a l) (h2 : PE X (.BoolOp .And (r :: rest) pos) (tE X.K C b) ∧ PW X (.BoolOp .And (r :: rest) pos) (tT X.K C b)) : J X C (.and a b) (.BoolOp .And (l :: r :: rest) pos) :=
  ⟨e_and h.pe h2.1, (w_and h.pt h2.2).pt, fun _ _ _ _ => w_and h.pt h2.2⟩
theorem J.or {rest : List Expr} (h : J X C a l) (h2 : PE X (.BoolOp .Or (r :: rest) pos) (tE X.K C b) ∧ PW X (.BoolOp .Or (r :: rest) pos) (tT X.K C b)) : J X C (.or a b) (.BoolOp .Or (l :: r :: rest) pos) :=
  ⟨e_or h.pe h2.1, (w_or h.pt h2.2).pt, fun _ _ _ _ => w_or h.pt h2.2⟩
theorem pt_ite {tc tl tr : TT} (hm : PT X m tc) (hl : PT X l tl) (hr : PT X r tr) : PT X (.IfExp m l r pos) (fun σ H Q => tc σ H fun b H1 => if b = true then tl σ H1 Q else tr σ H1 Q) := by
  refine ⟨fun pins s σ H Q I h => ?_⟩
  show wpAny _ _ (do if ← isTrue m X.env (eval m X.env) then isTrue l X.env (eval l X.env) else isTrue r X.env (eval r X.env)) _ _ _
  refine wpAny_bind (thn (hm.run pins s σ H _ I h) fun b s1 ⟨H1, I1, q⟩ => ?_)
  cases b with
  | true => exact hl.run pins s1 σ H1 Q I1 q
  | false => exact hr.run pins s1 σ H1 Q I1 q
theorem c_ite (hc : PT X m (tT X.K C c)) (ha : PT X l (tT X.K C a)) (hb : PT X r (tT X.K C b)) : PT X (.IfExp m l r pos) (tT X.K C (.ite c a b)) :=
  PT.imp (pt_ite hc ha hb) fun σ H Q ⟨β, st, ρ, k, st', s, en, e, q⟩ => by
    simp only [evT, ev] at e
    cases e1 : ev C c ρ st with
    | none => rw [e1] at e; cases e
    | some r1 =>
      obtain ⟨x, st1⟩ := r1
      rw [e1] at e
      simp only at e
      cases e2 : truth st1 x with
      | none => rw [e2] at e; cases e
      | some t =>
        rw [e2] at e
        have et : evT C c ρ st = some (t, st1) := by simp [evT, e1, e2]
        refine seqT s en et fun β1 H1 x1 s1 en1 => ?_
        cases t with
        | true =>
          rw [if_pos rfl]
          exact ⟨β1, st1, ρ, k, st', s1, en1, e, fun β2 H2 x2 s2 => q β2 H2 (x1.trans x2 s2.nd) s2⟩
        | false =>
          rw [if_neg Bool.false_ne_true]
          exact ⟨β1, st1, ρ, k, st', s1, en1, e, fun β2 H2 x2 s2 => q β2 H2 (x1.trans x2 s2.nd) s2⟩
end
/-! ### what is known where a text stands -/
structure Gd where
  N : List Str
  fr : List Str
  fns : List (Str × Nat)
  cs : List (Str × D)
structure Gk (X : Cx) (C : Call) (G : Gd) (sc : Scope) (fnb : Str → Bool) : Prop where
  n : X.N = G.N
  hsc : X.env.scope = sc
  kind : sc.kind = .function
  calm : X.calm = true
  nd : G.N.Nodup
  fn : ∀ x, fnb x = true → X.fn x = true
  units : X.A.units + 65 < cLine
  gd : X.A.guards = some []
  fr : ∀ x, x ∈ G.fr → X.mg x = none
  fns : ∀ p, p ∈ G.fns → ∃ (k : Nat) (g : Addr) (fd : FuncData) (ps : List Str), X.mg p.1 = some (.ref g) ∧ PySem.W.keepIn X.K (.ref g) = true ∧ Binds X.K fd ps [] ∧ FnG X.prog X.w X.K X.mg X.base k g fd ps (spOf X.K C p.1 ps.length) ∧ ps.length = p.2 ∧ Room k X.A
  cs : ∀ p, p ∈ G.cs → ∃ (v : V) (u : Value), X.mg p.1 = some u ∧ RelV v u ∧ ∀ β H, Rep X.K β H p.2 v
def glB (sc : Scope) (x : Str) : Bool := decide (sc.names.lookup x = some .globalImplicit)
def visB (sc : Scope) (x : Str) : Bool := decide (sc.names.lookup x = some .local) || (decide (sc.names.lookup x = some .cell) || decide (sc.names.lookup x = some .free))
def nmB (x : Str) : Bool := decide (x ≠ "__debug__") && (decide (x ≠ "__classdict__") && decide (x ≠ "__name__"))
theorem nmB_ok {x : Str} (h : nmB x = true) : (x == ("__debug__" : Str)) = false ∧ (x == ("__classdict__" : Str)) = false ∧ x ≠ "__name__" := by
  simp only [nmB, Bool.and_eq_true, decide_eq_true_eq] at h
  exact ⟨beq_eq_false_iff_ne.mpr h.1, beq_eq_false_iff_ne.mpr h.2.1, h.2.2⟩
section
variable {X : Cx} {C : Call} {G : Gd} {sc : Scope} {fnb : Str → Bool} (g : Gk X C G sc fnb)
theorem visB_ok {x : Str} (h : visB sc x = true) : Vis sc x := by
  simpa [visB, Vis, Bool.or_eq_true] using h
include g
theorem Gk.gl {x : Str} (h : glB sc x = true) : Gl X x := by
  have := of_decide_eq_true h
  show X.env.scope.names.lookup x = _
  rw [g.hsc]; exact this
theorem Gk.blk (s : Shared) (H : Hp) (A : Addr) (cl : List (Str × Addr)) (fp : List Addr) {scope : Scope} (hk : scope.kind = .function) : Gk (X.blk s H scope (compEnvC scope cl A X.env) fp) C G (relS scope sc) (fun x => scope.names.lookup x == some .cell) :=
  ⟨g.n, by rw [← g.hsc]; rfl, hk, g.calm, g.nd, fun _ h => h, g.units, g.gd, g.fr, g.fns, g.cs⟩
end
/-! ### built-ins -/
def biNm : BI → Str
  | .len => "len" | .int => "int" | .str => "str" | .repr => "repr" | .bool => "bool" | .tuple => "tuple" | .list => "list"
  | .max => "max" | .min => "min" | .sum => "sum" | .any => "any" | .all => "all" | .sorted => "sorted" | .set => "set" | .abs => "abs" | .revl => "reversed"
def biSup : BI → Bool
  | .set => false
  | .revl => false
  | _ => true
theorem bi_ok {X : Cx} (hc : X.calm = true) (hu : X.A.units + 65 < cLine) (gd : X.A.guards = some []) : ∀ b : BI, biSup b = true → (∃ id, CallR X (.builtin id) (rBi X.K b) ∧ bootBuiltins (biNm b) = some (.builtin id)) ∨ (∃ T, CallR X (.type T) (rBi X.K b) ∧ bootBuiltins (biNm b) = some (.type T))
  | .len, _ => .inl ⟨_, bi_len, boot_len⟩
  | .int, _ => .inr ⟨_, bi_int, by rfl⟩
  | .str, _ => .inr ⟨_, bi_str, by rfl⟩
  | .bool, _ => .inr ⟨_, bi_bool, by rfl⟩
  | .tuple, _ => .inr ⟨_, bi_tuple, by rfl⟩
  | .list, _ => .inr ⟨_, bi_list, by rfl⟩
  | .max, _ => .inl ⟨_, bi_max hc hu, by rfl⟩
  | .min, _ => .inl ⟨_, bi_min hc hu, by rfl⟩
  | .sum, _ => .inl ⟨_, bi_sum hc, by rfl⟩
  | .any, _ => .inl ⟨_, bi_any hc, by rfl⟩
  | .all, _ => .inl ⟨_, bi_all hc, by rfl⟩
  | .abs, _ => .inl ⟨_, bi_abs, by rfl⟩
  | .repr, _ => .inl ⟨_, bi_repr hu gd, by rfl⟩
  | .sorted, _ => .inl ⟨_, bi_sorted hc hu, by rfl⟩
  | .set, h => by cases h
def tyNm (t : Ty) : Str := tyName t
theorem ty_boot : ∀ t : Ty, bootBuiltins (Str.ofString (tyName t)) = some (.type (tyName t))
  | .int => by rfl
  | .bool => by rfl
  | .str => by rfl
  | .tuple => by rfl
  | .list => by rfl
  | .dict => by rfl
def mtNm : MT → Str
  | .append => "append" | .extend => "extend" | .insert => "insert" | .pop => "pop" | .index => "index" | .remove => "remove" | .count => "count" | .get => "get" | .setdefault => "setdefault"
  | .values => "values" | .join => "join" | .split => "split" | .replace => "replace" | .upper => "upper" | .tindex => "index"
theorem hk_pop : ∀ st x rs z, mtApp st .pop x rs = some z → kdOf st x = .lst := fun st x rs z e => by
  simp only [mtApp] at e
  unfold mtPop at e
  split at e
  · split at e
    · rename_i hz
      exact kd_ref hz
    · cases e
  · split at e
    · rename_i hz
      exact kd_ref hz
    · cases e
  · cases e
theorem hk_index : ∀ st x rs z, mtApp st .index x rs = some z → kdOf st x = .lst := fun st x rs z e => by
  simp only [mtApp] at e
  unfold mtIndex at e
  split at e
  · split at e
    · rename_i xs hz
      unfold listOf at hz
      split at hz
      · rfl
      · rfl
      · split at hz
        · rename_i hq
          exact kd_ref hq
        · cases hz
      · cases hz
    · cases e
  · cases e
end Mw

set_option Elab.async false
set_option linter.all false
set_option autoImplicit false
set_option maxRecDepth 100000
/-! PyD2: the checker, expressions. -/
namespace Mw
open PySem PySem.Spec PyProof.Rows L2
def mtSup : MT → Bool
  | .append | .extend | .insert | .pop | .index | .join | .split | .upper => true
  | _ => false
structure MtOk (X : Cx) (m : MT) (T id : String) (kd : Kd) : Prop where
  pa : PlainAttrs T
  slot : Slot T (mtNm m) id
  hty : typeOf (.builtin id) = pure (.type "method_descriptor")
  hm : MtR X id (rMt X.K m)
  ty : ∀ {β : List Addr} {st : Sto} {H H0 : Hp} {x : RV} {v : V}, Sim X.K β st H → RRep X.K β H H0 x v → kdOf st x = kd → tyV X.K T v H
  hk : ∀ st x rs z, mtApp st m x rs = some z → kdOf st x = kd
theorem mt_ok {X : Cx} (hu : X.A.units + 65 < cLine) : ∀ m : MT, mtSup m = true → ∃ T id kd, MtOk X m T id kd
  | .append, _ => ⟨_, _, _, F.plainAttrs_list, F.slot_list_append, F.type_list_append, mt_append_ok, kd_lst, hk_append⟩
  | .extend, _ => ⟨_, _, _, F.plainAttrs_list, F.slot_list_extend, F.type_list_extend, mt_extend_ok, kd_lst, hk_extend⟩
  | .insert, _ => ⟨_, _, _, F.plainAttrs_list, F.slot_list_insert, F.type_list_insert, mt_insert_ok, kd_lst, hk_insert⟩
  | .pop, _ => ⟨_, _, _, F.plainAttrs_list, F.slot_list_pop, F.type_list_pop, mt_pop_ok, kd_lst, hk_pop⟩
  | .index, _ => ⟨_, _, _, F.plainAttrs_list, F.slot_list_index, F.type_list_index, mt_index_ok hu, kd_lst, hk_index⟩
  | .join, _ => ⟨_, _, _, F.plainAttrs_str, F.slot_str_join, F.type_str_join, mt_join_ok, kd_str, hk_join⟩
  | .split, _ => ⟨_, _, _, F.plainAttrs_str, F.slot_str_split, F.type_str_split, mt_split_ok, kd_str, hk_split⟩
  | .upper, _ => ⟨_, _, _, F.plainAttrs_str, F.slot_str_upper, F.type_str_upper, mt_upper_ok, kd_str, hk_upper⟩
  | .remove, h | .count, h | .get, h | .setdefault, h | .values, h | .replace, h | .tindex, h => by cases h
/-! ### targets -/
/-- a name that may be stored -/
def locB (sc : Scope) (fnb : Str → Bool) (x : Str) : Bool := decide (sc.names.lookup x = some .local) || (decide (sc.names.lookup x = some .cell) && fnb x)
mutual
def ckT (G : Gd) (sc : Scope) (fnb : Str → Bool) : Tgt → Expr → Bool
  | .nm i, e => match e with
    | .Name x _ => decide (G.N[i]? = some x) && locB sc fnb x
    | _ => false
  | .tp ts, e => match e with
    | .Tuple es _ _ => ckTs G sc fnb ts es
    | _ => false
def ckTs (G : Gd) (sc : Scope) (fnb : Str → Bool) : Tgts → List Expr → Bool
  | .nil, es => es.isEmpty
  | .cons t ts, es => match es with
    | e :: r => plainE e && (ckT G sc fnb t e && ckTs G sc fnb ts r)
    | [] => false
end
section
variable {X : Cx} {C : Call} {G : Gd} {sc : Scope} {fnb : Str → Bool}
theorem locB_ok (g : Gk X C G sc fnb) {x : Str} (h : locB sc fnb x = true) : Loc X.env.scope x ∧ (X.fn x = true ∨ X.env.scope.names.lookup x = some .local) := by
  rw [g.hsc]
  simp only [locB, Bool.or_eq_true, Bool.and_eq_true, decide_eq_true_eq] at h
  rcases h with h | ⟨h, h2⟩
  · exact ⟨.inl h, .inr h⟩
  · exact ⟨.inr h, .inl (g.fn x h2)⟩
mutual
theorem ckT_ok (g : Gk X C G sc fnb) : ∀ (t : Tgt) (e : Expr), ckT G sc fnb t e = true → PG X e (tTg X.K t)
  | .nm i, e, h => by
    unfold ckT at h
    split at h
    · simp only [Bool.and_eq_true, decide_eq_true_eq] at h
      obtain ⟨h1, h2⟩ := locB_ok g h.2
      exact g_nm (by rw [g.n]; exact g.nd) (by rw [g.n]; exact h.1) h1 h2
    · cases h
  | .tp ts, e, h => by
    unfold ckT at h
    split at h
    · rename_i es k pos
      obtain ⟨h1, h2, h3⟩ := ckTs_ok g ts es h
      exact g_tp g.calm h1 h2 h3
    · cases h
theorem ckTs_ok (g : Gk X C G sc fnb) : ∀ (ts : Tgts) (es : List Expr), ckTs G sc fnb ts es = true → PGs X es (tTgs X.K ts) ∧ es.all plainE = true ∧ es.length = lenTs ts
  | .nil, es, h => by
    unfold ckTs at h
    rw [List.isEmpty_iff.mp h]
    exact ⟨g_nil, rfl, rfl⟩
  | .cons t ts, es, h => by
    unfold ckTs at h
    split at h
    · rename_i e r
      simp only [Bool.and_eq_true] at h
      obtain ⟨h1, h2, h3⟩ := ckTs_ok g ts r h.2.2
      refine ⟨g_cons h.1 (ckT_ok g t e h.2.1) h1, ?_, ?_⟩
      · rw [List.all_cons, h.1, h2]; rfl
      · rw [List.length_cons, h3]; rfl
    · cases h
end
end
/-! ### blocks -/
def ownL (N : List Str) (own : List Nat) : List (Str × Nat) := own.map fun i => (N.getD i "", i)
theorem ownL_snd (N : List Str) (own : List Nat) : (ownL N own).map (·.2) = own := by
  unfold ownL
  rw [List.map_map]
  exact List.map_id' own
def blkB (N : List Str) (sc scope : Scope) (own : List Nat) : Bool :=
  decide (scope.kind = .function) && (scope.names.all (fun y => decide (scope.names.lookup y.1 = some y.2)) && (own.all (fun i => decide (N[i]? = some (N.getD i ""))) &&
    (scope.names.all (fun y => decide (y.2 ≠ .free) || (decide (sc.names.lookup y.1 = some .cell) || decide (sc.names.lookup y.1 = some .free))) &&
     scope.names.all (fun y => (decide (y.2 ≠ .local) && decide (y.2 ≠ .cell)) || (((ownL N own).map (·.1)).contains y.1 || !N.contains y.1)))))
theorem blkB_ok {N : List Str} {sc scope : Scope} {own : List Nat} (h : blkB N sc scope own = true) : BlkOk N sc scope (ownL N own) := by
  simp only [blkB, Bool.and_eq_true, decide_eq_true_eq, List.all_eq_true] at h
  obtain ⟨h1, h2, h3, h4, h5⟩ := h
  refine ⟨h1, fun y hy => h2 y hy, fun p hp => ?_, fun y hy e => ?_, fun y hy e => ?_⟩
  · obtain ⟨i, hi, rfl⟩ := List.mem_map.mp hp
    exact h3 i hi
  · have := h4 y hy
    simp only [Bool.or_eq_true, decide_eq_true_eq, e] at this
    rcases this with q | q
    · exact absurd rfl q
    · exact q
  · have := h5 y hy
    simp only [Bool.or_eq_true, Bool.and_eq_true, decide_eq_true_eq, List.contains_iff_mem, Bool.not_eq_true', ← Bool.not_eq_true] at this
    rcases this with q | q | q
    · exact absurd e (by rcases e with e | e; exact absurd e q.1; exact absurd e q.2)
    · exact .inl q
    · exact .inr q
def subB (l m : List Nat) : Bool := l.all fun i => m.contains i
theorem subB_ok {l m : List Nat} (h : subB l m = true) : ∀ i ∈ l, i ∈ m := fun i hi => by
  have := List.all_eq_true.mp h i hi
  simpa [List.contains_iff_mem] using this
/-! ### the checker -/
def fnB (G : Gd) (f : Str) (n : Nat) : Bool := G.fns.any fun p => decide (p.1 = f) && decide (p.2 = n)
theorem fnB_ok {G : Gd} {f : Str} {n : Nat} (h : fnB G f n = true) : (f, n) ∈ G.fns := by
  obtain ⟨p, hp, h⟩ := List.any_eq_true.mp h
  simp only [Bool.and_eq_true, decide_eq_true_eq] at h
  obtain ⟨rfl, rfl⟩ := h
  exact hp
def csB (G : Gd) (x : Str) (d : D) : Bool := G.cs.any fun p => decide (p.1 = x) && decide (p.2 = d)
theorem csB_ok {G : Gd} {x : Str} {d : D} (h : csB G x d = true) : (x, d) ∈ G.cs := by
  obtain ⟨p, hp, h⟩ := List.any_eq_true.mp h
  simp only [Bool.and_eq_true, decide_eq_true_eq] at h
  obtain ⟨rfl, rfl⟩ := h
  exact hp
def bltB (G : Gd) (sc : Scope) (x : Str) : Bool := glB sc x && (G.fr.contains x && nmB x)
def ckC : D → Expr → Bool
  | .int j, .Constant (.int i) _ _ => decide (i = j)
  | .bl c, .Constant (.bool b) _ _ => decide (b = c)
  | .non, .Constant .none _ _ => true
  | .str t, .Constant (.str s) _ _ => decide (s = t)
  | _, _ => false
mutual
def ckE (G : Gd) (sc : Scope) (fnb : Str → Bool) : CE → Expr → Bool
  | .bad, _ => true
  | .var i, e => match e with
    | .Name x _ => decide (G.N[i]? = some x) && (visB sc x && nmB x)
    | _ => false
  | .cst d, e => match e with
    | .Name x _ => glB sc x && (csB G x d && nmB x)
    | e => ckC d e
  | .bin o a b, e => match e with
    | .BinOp l op r _ => opIs o op && (ckE G sc fnb a l && ckE G sc fnb b r)
    | _ => false
  | .neg a, e => match e with
    | .UnaryOp .USub l _ => ckE G sc fnb a l
    | _ => false
  | .not a, e => match e with
    | .UnaryOp .Not l _ => ckE G sc fnb a l
    | _ => false
  | .cmp o a b, e => match e with
    | .Compare l [op] [r] _ => cmIs o op && (plainE r && (ckE G sc fnb a l && ckE G sc fnb b r))
    | _ => false
  | .chain o o' a b c, e => match e with
    | .Compare l [op, op'] [m, r] _ => (cmIs o op && cmIs o' op') && ((plainE m && plainE r) && (ckE G sc fnb a l && (ckE G sc fnb b m && ckE G sc fnb c r)))
    | _ => false
  | .and a b, e => match e with
    | .BoolOp .And (l :: r :: rest) pos => ckE G sc fnb a l && (match rest with
      | [] => ckE G sc fnb b r
      | r2 :: rest => ckE G sc fnb b (.BoolOp .And (r :: r2 :: rest) pos))
    | _ => false
  | .or a b, e => match e with
    | .BoolOp .Or (l :: r :: rest) pos => ckE G sc fnb a l && (match rest with
      | [] => ckE G sc fnb b r
      | r2 :: rest => ckE G sc fnb b (.BoolOp .Or (r :: r2 :: rest) pos))
    | _ => false
  | .ite c a b, e => match e with
    | .IfExp m l r _ => ckE G sc fnb c m && (ckE G sc fnb a l && ckE G sc fnb b r)
    | _ => false
  | .tup es, e => match e with
    | .Tuple ls _ _ => decide (ls.length ≤ 1000) && ckA G sc fnb es ls
    | _ => false
  | .lst es, e => match e with
    | .List ls _ => decide (ls.length ≤ 1000) && ckA G sc fnb es ls
    | _ => false
  | .idx a b, e => match e with
    | .Subscript l r _ => plainE r && (ckE G sc fnb a l && ckE G sc fnb b r)
    | _ => false
  | .sli a lo hi, e => match e with
    | .Subscript l (.Slice x y none _) _ => ckE G sc fnb a l && (ckP G sc fnb lo x && ckP G sc fnb hi y)
    | _ => false
  | .rev a, e => match e with
    | .Subscript l (.Slice none none (some (.UnaryOp .USub (.Constant (.int 1) _ _) _)) _) _ => ckE G sc fnb a l
    | _ => false
  | .stp a b, e => match e with
    | .Subscript l (.Slice none none (some r) _) _ => ckE G sc fnb a l && ckE G sc fnb b r
    | _ => false
  | .mm mx a d, e => match e with
    | .Call (.Name y _) [l] [⟨some k, f, _⟩] _ => (decide (y = if mx then Str.ofString "max" else Str.ofString "min") && (bltB G sc y && (decide (k = Str.ofString "default") && plainE l))) && (ckE G sc fnb a l && ckE G sc fnb d f)
    | _ => false
  | .los tp a, e => match e with
    | .Call (.Name y _) [.Call (.Name x _) [l] [] _] [] _ => (decide (y = if tp then "tuple" else "list") && (bltB G sc y && (decide (x = "range") && (bltB G sc x && plainE l)))) && ckE G sc fnb a l
    | _ => false
  | .call f es, e => match e with
    | .Call (.Name x _) ls [] _ => decide (x = f) && (glB sc x && (nmB x && (fnB G x ls.length && ckA G sc fnb es ls)))
    | _ => false
  | .bi b es, e => match e with
    | .Call (.Name x _) (l :: ls) [] _ => (biSup b && (decide (x = biNm b) && (bltB G sc x && ckA G sc fnb es (l :: ls)))) || (match l, ls with
      | .Call (.Name y _) [u] [] _, [] => ((decide (b = .set) && (decide (x = "sorted") && (bltB G sc x && (decide (y = "set") && (bltB G sc y && plainE u))))) && ckA G sc fnb es [u]) || ((decide (b = .revl) && (decide (x = "list") && (bltB G sc x && (decide (y = "reversed") && (bltB G sc y && plainE u))))) && ckA G sc fnb es [u])
      | _, _ => false)
    | _ => false
  | .mt m o es, e => match e with
    | .Call (.Attribute l x apos) ls [] pos => ((mtSup m && (decide (x = mtNm m) && (recvOk l && ((apos.endLine == pos.line) && decide (ls.length < 29))))) || (decide (m = .get) && (decide (x = "get") && (recvOk l && ((apos.endLine == pos.line) && (decide (ls.length = 1) || decide (ls.length = 2))))))) && (ckE G sc fnb o l && ckA G sc fnb es ls)
    | _ => false
  | .isi a t, e => match e with
    | .Call (.Name x _) [l, .Name y _] [] _ => (decide (x = "isinstance") && (bltB G sc x && (decide (y = Str.ofString (tyName t)) && (bltB G sc y && plainE l)))) && ckE G sc fnb a l
    | _ => false
  | .dic0, e => match e with
    | .Dict [] [] _ => true
    | _ => false
  | .dit0, e => match e with
    | .Dict [] [] _ => true
    | _ => false
  | .dic1 a b, e => match e with
    | .Dict [some l] [r] _ => ckE G sc fnb a l && ckE G sc fnb b r
    | _ => false
  | .dit1 a b, e => match e with
    | .Dict [some l] [r] _ => ckE G sc fnb a l && ckE G sc fnb b r
    | _ => false
  | .comp t s c el own, e => match e with
    | .ListComp elt [⟨tg, iter, ifs, 0⟩] scope _ => (blkB G.N sc scope own && (subB (slotsT t) own && (plainE iter && ckT G (relS scope sc) (fun x => scope.names.lookup x == some .cell) t tg))) &&
        (ckS G sc fnb s tg iter && (ckQ G (relS scope sc) (fun x => scope.names.lookup x == some .cell) c ifs && ckE G (relS scope sc) (fun x => scope.names.lookup x == some .cell) el elt))
    | _ => false
def ckA (G : Gd) (sc : Scope) (fnb : Str → Bool) : CEs → List Expr → Bool
  | .nil, ls => ls.isEmpty
  | .cons a es, ls => match ls with
    | l :: r => plainE l && (ckE G sc fnb a l && ckA G sc fnb es r)
    | [] => false
/-- a slice's part -/
def ckP (G : Gd) (sc : Scope) (fnb : Str → Bool) : CEs → Option Expr → Bool
  | .nil, o => o.isNone
  | .cons a es, o => match o, es with
    | some l, .nil => ckE G sc fnb a l
    | _, _ => false
/-- a clause's tests -/
def ckQ (G : Gd) (sc : Scope) (fnb : Str → Bool) : CEs → List Expr → Bool
  | .nil, ls => ls.isEmpty
  | .cons a es, ls => match ls, es with
    | [l], .nil => ckE G sc fnb a l
    | _, _ => false
def ckS (G : Gd) (sc : Scope) (fnb : Str → Bool) : Src → Expr → Expr → Bool
  | .ex a, _, e => ckE G sc fnb a e
  | .rng es, _, e => match e with
    | .Call (.Name x _) ls [] _ => (decide (x = "range") && (bltB G sc x && (decide (1 ≤ ls.length) && decide (ls.length ≤ 3)))) && ckA G sc fnb es ls
    | _ => false
  | .enm a, tg, e => match tg, e with
    | .Tuple _ _ _, .Call (.Name x _) [l] [] _ => (decide (x = "enumerate") && (bltB G sc x && plainE l)) && ckE G sc fnb a l
    | _, _ => false
  | .zp es, tg, e => match tg, e with
    | .Tuple _ _ _, .Call (.Name x _) [l, l'] [] _ => (decide (x = "zip") && bltB G sc x) && ckA G sc fnb es [l, l']
    | .Tuple _ _ _, .Call (.Name x _) [l, l', l3] [] _ => (decide (x = "zip") && bltB G sc x) && ckA G sc fnb es [l, l', l3]
    | _, _ => false
  | .rv _, _, _ => false
  | .dk a, _, e => ckE G sc fnb a e
end
end Mw

set_option Elab.async false
set_option linter.all false
set_option autoImplicit false
set_option maxRecDepth 100000
/-! PyD3: the checker is right, expressions. -/
namespace Mw
open PySem PySem.Spec PyProof.Rows L2
def AllJ (X : Cx) (C : Call) : CEs → List Expr → Prop
  | .nil, [] => True
  | .cons a es, l :: ls => J X C a l ∧ AllJ X C es ls
  | _, _ => False
structure JA (X : Cx) (C : Call) (es : CEs) (ls : List Expr) : Prop where
  pa : PA X ls (tA X.K C es)
  pr : PA X ls (tR X.K C es)
  pl : ls.all plainE = true
  len : lenC es = ls.length
  el : AllJ X C es ls
section
variable {X : Cx} {C : Call} {G : Gd} {sc : Scope} {fnb : Str → Bool}
theorem Gk.fnm (g : Gk X C G sc fnb) {x : Str} (h : bltB G sc x = true) : Gl X x ∧ X.mg x = none ∧ nmB x = true := by
  simp only [bltB, Bool.and_eq_true] at h
  exact ⟨g.gl h.1, g.fr x (by simpa [List.contains_iff_mem] using h.2.1), h.2.2⟩
theorem ckC_ok {d : D} {e : Expr} (h : ckC d e = true) : J X C (.cst d) e := by
  unfold ckC at h
  split at h
  · have := of_decide_eq_true h; subst this; exact J.of (e_cst pe_int fun _ _ => rfl) rfl
  · have := of_decide_eq_true h; subst this; exact J.of (e_cst pe_bl fun _ _ => rfl) rfl
  · exact J.of (e_cst pe_non fun _ _ => rfl) rfl
  · have := of_decide_eq_true h; subst this; exact J.of (e_cst pe_str fun _ _ => rfl) rfl
  · cases h
theorem fold_plain {e : Expr} (h : plainE e = true) (env : PySem.Env) (x : Value) : foldedSetIterable e env x = pure x := by
  cases e <;> first | rfl | (cases h)
end
mutual
theorem ckE_ok : ∀ (c : CE) {X : Cx} {C : Call} {G : Gd} {sc : Scope} {fnb : Str → Bool} (g : Gk X C G sc fnb) (e : Expr), ckE G sc fnb c e = true → J X C c e
  | .bad, _, _, _, _, _, g, e, h => J.bad
  | .var i, _, _, _, _, _, g, e, h => by
    unfold ckE at h
    split at h
    · simp only [Bool.and_eq_true, decide_eq_true_eq] at h
      obtain ⟨n1, n2, n3⟩ := nmB_ok h.2.2
      exact J.of (e_var (by rw [g.n]; exact h.1) (by rw [g.hsc]; exact visB_ok h.2.1) n1 n2) rfl
    · cases h
  | .cst d, _, _, _, _, _, g, e, h => by
    unfold ckE at h
    split at h
    · rename_i x _ _ _
      simp only [Bool.and_eq_true] at h
      obtain ⟨n1, n2, n3⟩ := nmB_ok h.2.2
      obtain ⟨v, u, h1, h2, h3⟩ := g.cs _ (csB_ok h.2.1)
      exact J.of (e_cst (pe_glob (g.gl h.1) h1 h2 n1) h3) rfl
    · exact ckC_ok h
  | .bin o a b, _, _, _, _, _, g, e, h => by
    unfold ckE at h
    split at h
    · simp only [Bool.and_eq_true] at h
      exact J.of (e_bin h.1 (ckE_ok a g _ h.2.1).pe (ckE_ok b g _ h.2.2).pe) rfl
    · cases h
  | .neg a, _, _, _, _, _, g, e, h => by
    unfold ckE at h
    split at h
    · exact J.of (e_neg (ckE_ok a g _ h).pe) rfl
    · cases h
  | .not a, _, _, _, _, _, g, e, h => by
    unfold ckE at h
    split at h
    · exact J.of2 (e_not (ckE_ok a g _ h).pe) (c_not (ckE_ok a g _ h).pt) fun _ _ _ z => by cases z
    · cases h
  | .cmp o a b, _, _, _, _, _, g, e, h => by
    unfold ckE at h
    split at h
    · simp only [Bool.and_eq_true] at h
      exact J.of2 (e_cmp h.1 g.units (ckE_ok a g _ h.2.2.1).pe (ckE_ok b g _ h.2.2.2).pe (plain_mark h.2.1)) (c_cmp h.1 g.units (ckE_ok a g _ h.2.2.1).pe (ckE_ok b g _ h.2.2.2).pe (plain_mark h.2.1)) fun _ _ _ z => by cases z
    · cases h
  | .chain o o' a b c, _, _, _, _, _, g, e, h => by
    unfold ckE at h
    split at h
    · rename_i l op op' m r pos
      simp only [Bool.and_eq_true] at h
      have hm : lastMarks [op, op'] [m, r] = false := by
        show behindInMarks op' r = false
        exact plain_mark h.2.1.2
      have A := (ckE_ok a g _ h.2.2.1).pe
      have B := (ckE_ok b g _ h.2.2.2.1).pe
      have D := (ckE_ok c g _ h.2.2.2.2).pe
      exact J.of2 (e_chain h.1.1 h.1.2 g.units A B D hm) (c_chain h.1.1 h.1.2 g.units A B D hm) fun _ _ _ z => by cases z
    · cases h
  | .and a b, _, _, _, _, _, g, e, h => by
    unfold ckE at h
    split at h
    · simp only [Bool.and_eq_true] at h
      obtain ⟨h1, h2⟩ := h
      split at h2
      · exact J.and (ckE_ok a g _ h1) (ckE_ok b g _ h2).one
      · exact J.and (ckE_ok a g _ h1) ⟨(ckE_ok b g _ h2).pe, (ckE_ok b g _ h2).pw _ _ _ rfl⟩
    · cases h
  | .or a b, _, _, _, _, _, g, e, h => by
    unfold ckE at h
    split at h
    · simp only [Bool.and_eq_true] at h
      obtain ⟨h1, h2⟩ := h
      split at h2
      · exact J.or (ckE_ok a g _ h1) (ckE_ok b g _ h2).one
      · exact J.or (ckE_ok a g _ h1) ⟨(ckE_ok b g _ h2).pe, (ckE_ok b g _ h2).pw _ _ _ rfl⟩
    · cases h
  | .ite c a b, _, _, _, _, _, g, e, h => by
    unfold ckE at h
    split at h
    · simp only [Bool.and_eq_true] at h
      have A := ckE_ok c g _ h.1
      have B := ckE_ok a g _ h.2.1
      have D := ckE_ok b g _ h.2.2
      exact J.of2 (e_ite A.pt B.pe D.pe) (c_ite A.pt B.pt D.pt) fun _ _ _ z => by cases z
    · cases h
  | .tup es, _, _, _, _, _, g, e, h => by
    unfold ckE at h
    split at h
    · simp only [Bool.and_eq_true, decide_eq_true_eq] at h
      have A := ckA_ok es g _ h.2
      exact J.of (e_tup A.pa h.1 fun _ _ _ _ z => (evA_len z).trans A.len) rfl
    · cases h
  | .lst es, _, _, _, _, _, g, e, h => by
    unfold ckE at h
    split at h
    · simp only [Bool.and_eq_true, decide_eq_true_eq] at h
      have A := ckA_ok es g _ h.2
      exact J.of (e_lst A.pa h.1 fun _ _ _ _ z => (evA_len z).trans A.len) rfl
    · cases h
  | .idx a b, _, _, _, _, _, g, e, h => by
    unfold ckE at h
    split at h
    · simp only [Bool.and_eq_true] at h
      exact J.of (e_idx g.units h.1 (ckE_ok a g _ h.2.1).pe (ckE_ok b g _ h.2.2).pe) rfl
    · cases h
  | .sli a lo hi, _, _, _, _, _, g, e, h => by
    unfold ckE at h
    split at h
    · simp only [Bool.and_eq_true] at h
      exact J.of (e_sli (ckE_ok a g _ h.1).pe (ckP_ok lo g _ h.2.1) (ckP_ok hi g _ h.2.2)) rfl
    · cases h
  | .rev a, _, _, _, _, _, g, e, h => by
    unfold ckE at h
    split at h
    · exact J.of (e_rev (ckE_ok a g _ h).pe) rfl
    · cases h
  | .stp a b, _, _, _, _, _, g, e, h => by
    unfold ckE at h
    split at h
    · simp only [Bool.and_eq_true] at h
      exact J.of (e_stp (ckE_ok a g _ h.1).pe (ckE_ok b g _ h.2).pe) rfl
    · cases h
  | .mm mx a d, _, _, _, _, _, g, e, h => by
    unfold ckE at h
    split at h
    · simp only [Bool.and_eq_true, decide_eq_true_eq] at h
      obtain ⟨⟨h0, h1, rfl, h3⟩, h4, h5⟩ := h
      obtain ⟨f1, f2, _⟩ := g.fnm h1
      exact J.of (e_mm h0 h3 g.calm g.units f1 f2 (ckE_ok a g _ h4).pe (ckE_ok d g _ h5).pe) rfl
    · cases h
  | .los tp a, _, _, _, _, _, g, e, h => by
    unfold ckE at h
    split at h
    · simp only [Bool.and_eq_true, decide_eq_true_eq] at h
      obtain ⟨⟨rfl, h1, rfl, h2, h3⟩, h4⟩ := h
      obtain ⟨f1, f2, _⟩ := g.fnm h1
      obtain ⟨f3, f4, _⟩ := g.fnm h2
      have A := (ckE_ok a g _ h4).pe
      cases tp
      · exact J.of (e_losL h3 g.calm f1 f2 f3 f4 A) rfl
      · exact J.of (e_losT h3 g.calm f1 f2 f3 f4 A) rfl
    · cases h
  | .call f es, _, _, _, _, _, g, e, h => by
    unfold ckE at h
    split at h
    · rename_i x p ls pos
      simp only [Bool.and_eq_true, decide_eq_true_eq] at h
      obtain ⟨rfl, h1, h2, h3, h4⟩ := h
      obtain ⟨n1, _, _⟩ := nmB_ok h2
      obtain ⟨k, a, fd, ps, q1, q2, q3, q4, q5, q6⟩ := g.fns _ (fnB_ok h3)
      have A := ckA_ok es g _ h4
      have hl : lenC es = ps.length := A.len.trans q5.symm
      cases ls with
      | nil =>
        cases es with
        | nil => exact J.of (e_call0 (E := E0) q4 q6 g.gd (g.gl h1) q1 q2 q3 pass0 hl n1) rfl
        | cons _ _ => have := A.len; simp [lenC] at this
      | cons l ls => exact J.of (e_call (E := E0) q4 q6 g.gd (g.gl h1) q1 q2 q3 pass0 hl A.pa A.pl n1) rfl
    · cases h
  | .bi b es, X, _, _, _, _, g, e, h => by
    unfold ckE at h
    split at h
    · rcases (Bool.or_eq_true _ _).mp h with h | h
      · simp only [Bool.and_eq_true, decide_eq_true_eq] at h
        obtain ⟨h1, rfl, h3, h4⟩ := h
        obtain ⟨f1, f2, f3⟩ := g.fnm h3
        obtain ⟨n1, _, n3⟩ := nmB_ok f3
        have A := ckA_ok es g _ h4
        rcases bi_ok (X := X) g.calm g.units g.gd b h1 with ⟨id, k1, k2⟩ | ⟨T, k1, k2⟩
        · exact J.of (e_biB k1 f1 f2 k2 A.pr A.pl n3 n1) rfl
        · exact J.of (e_biT k1 f1 f2 k2 A.pr A.pl n3 n1) rfl
      · split at h
        · rcases (Bool.or_eq_true _ _).mp h with h | h
          · simp only [Bool.and_eq_true, decide_eq_true_eq] at h
            obtain ⟨⟨rfl, rfl, h1, rfl, h2, h3⟩, h4⟩ := h
            obtain ⟨f1, f2, _⟩ := g.fnm h1
            obtain ⟨f3, f4, _⟩ := g.fnm h2
            exact J.of (e_set h3 g.calm g.units f1 f2 f3 f4 (ckA_ok es g _ h4).pr) rfl
          · simp only [Bool.and_eq_true, decide_eq_true_eq] at h
            obtain ⟨⟨rfl, rfl, h1, rfl, h2, h3⟩, h4⟩ := h
            obtain ⟨f1, f2, _⟩ := g.fnm h1
            obtain ⟨f3, f4, _⟩ := g.fnm h2
            exact J.of (e_revl h3 g.calm f1 f2 f3 f4 (ckA_ok es g _ h4).pr) rfl
        · cases h
    · cases h
  | .mt m o es, X, _, _, _, _, g, e, h => by
    unfold ckE at h
    split at h
    · rename_i l x apos ls pos
      simp only [Bool.and_eq_true, Bool.or_eq_true, decide_eq_true_eq] at h
      obtain ⟨h1, h6, h7⟩ := h
      have O := (ckE_ok o g _ h6).pe
      have A := ckA_ok es g _ h7
      rcases h1 with ⟨h1, rfl, h3, h4, h5⟩ | ⟨rfl, rfl, h3, h4, h5⟩
      rotate_left
      · have hp := A.pl
        have hj := A.el
        rcases h5 with h5 | h5
        · match ls, es, h5, hp, hj with
          | [l1], .cons a .nil, _, hp, hj =>
            simp at hp
            exact J.of (e_get1 g.units O hj.1.pe h3 hp h4) rfl
          | [l1], .cons _ (.cons _ _), _, _, hj => exact hj.2.elim
          | [l1], .nil, _, _, hj => exact hj.elim
        · match ls, es, h5, hp, hj with
          | [l1, l2], .cons a (.cons b .nil), _, hp, hj =>
            simp at hp
            exact J.of (e_get2 g.units O hj.1.pe hj.2.1.pe h3 hp.1 hp.2 h4) rfl
          | [l1, l2], .cons _ (.cons _ (.cons _ _)), _, _, hj => exact hj.2.2.elim
          | [l1, l2], .cons _ .nil, _, _, hj => exact hj.2.elim
          | [l1, l2], .nil, _, _, hj => exact hj.elim
      obtain ⟨T, id, kd, M⟩ := mt_ok (X := X) g.units m h1
      cases ls with
      | nil =>
        cases es with
        | nil => exact J.of (e_mt0 M.pa M.slot M.hty M.hm M.ty M.hk O h3 h4) rfl
        | cons _ _ => have := A.len; simp [lenC] at this
      | cons l ls => exact J.of (e_mt M.pa M.slot M.hty M.hm M.ty M.hk O A.pr h3 A.pl h5 h4) rfl
    · cases h
  | .isi a t, _, _, _, _, _, g, e, h => by
    unfold ckE at h
    split at h
    · simp only [Bool.and_eq_true, decide_eq_true_eq] at h
      obtain ⟨⟨rfl, h2, rfl, h4, h5⟩, h6⟩ := h
      obtain ⟨f1, f2, f3⟩ := g.fnm h2
      obtain ⟨n1, _, n3⟩ := nmB_ok f3
      obtain ⟨g1, g2, g3⟩ := g.fnm h4
      obtain ⟨m1, _, m3⟩ := nmB_ok g3
      exact J.of (e_isi f1 f2 (by rfl) g1 g2 (ty_boot t) h5 (ckE_ok a g _ h6).pe n3 n1 m3 m1) rfl
    · cases h
  | .dic0, _, _, _, _, _, g, e, h => by
    unfold ckE at h
    split at h
    · exact J.of e_dic0 rfl
    · cases h
  | .dit0, _, _, _, _, _, g, e, h => by
    unfold ckE at h
    split at h
    · exact J.of e_dit0 rfl
    · cases h
  | .dic1 a b, _, _, _, _, _, g, e, h => by
    unfold ckE at h
    split at h
    · simp only [Bool.and_eq_true] at h
      exact J.of (e_dic1 (ckE_ok a g _ h.1).pe (ckE_ok b g _ h.2).pe) rfl
    · cases h
  | .dit1 a b, _, _, _, _, _, g, e, h => by
    unfold ckE at h
    split at h
    · simp only [Bool.and_eq_true] at h
      exact J.of (e_dit1 g.units (ckE_ok a g _ h.1).pe (ckE_ok b g _ h.2).pe) rfl
    · cases h
  | .comp t s c el own, X, C, G, sc, fnb, g, e, h => by
    unfold ckE at h
    split at h
    · rename_i elt tg iter ifs scope pos
      simp only [Bool.and_eq_true] at h
      obtain ⟨⟨h1, h2, h3, h4⟩, h5, h6, h7⟩ := h
      have B := blkB_ok h1
      have hsub : ∀ j ∈ slotsT t, j ∈ (ownL G.N own).map (·.2) := by rw [ownL_snd]; exact subB_ok h2
      have R := e_comp (pos := pos) hsub g.calm (by rw [g.n]; exact g.nd) (ckS_ok s g tg iter h5) (by rw [g.n, g.hsc]; exact B)
        (fun s H A cl fp => ckT_ok (g.blk s H A cl fp B.kind) t tg h4) (fun s H A cl fp => ckQ_ok c (g.blk s H A cl fp B.kind) ifs h6) (fun s H A cl fp => (ckE_ok el (g.blk s H A cl fp B.kind) elt h7).pe) (fold_plain h3 _)
      rw [ownL_snd] at R
      exact J.of R rfl
    · cases h
theorem ckA_ok : ∀ (es : CEs) {X : Cx} {C : Call} {G : Gd} {sc : Scope} {fnb : Str → Bool} (g : Gk X C G sc fnb) (ls : List Expr), ckA G sc fnb es ls = true → JA X C es ls
  | .nil, _, _, _, _, _, g, ls, h => by
    unfold ckA at h
    rw [List.isEmpty_iff.mp h]
    exact ⟨a_nil, r_nil, rfl, rfl, trivial⟩
  | .cons a es, _, _, _, _, _, g, ls, h => by
    unfold ckA at h
    split at h
    · simp only [Bool.and_eq_true] at h
      have A0 := ckE_ok a g _ h.2.1
      have A := A0.pe
      have B := ckA_ok es g _ h.2.2
      exact ⟨a_cons h.1 A B.pa, r_cons h.1 A B.pr, by rw [List.all_cons, h.1, B.pl]; rfl, by rw [List.length_cons, ← B.len]; rfl, ⟨A0, B.el⟩⟩
    · cases h
theorem ckP_ok : ∀ (es : CEs) {X : Cx} {C : Call} {G : Gd} {sc : Scope} {fnb : Str → Bool} (g : Gk X C G sc fnb) (o : Option Expr), ckP G sc fnb es o = true → PO X o (tP X.K C es)
  | .nil, _, _, _, _, _, g, o, h => by
    unfold ckP at h
    cases o with
    | none => exact p_none
    | some _ => cases h
  | .cons a es, _, _, _, _, _, g, o, h => by
    unfold ckP at h
    split at h
    · exact p_some (ckE_ok a g _ h).pe
    · cases h
theorem ckQ_ok : ∀ (es : CEs) {X : Cx} {C : Call} {G : Gd} {sc : Scope} {fnb : Str → Bool} (g : Gk X C G sc fnb) (ls : List Expr), ckQ G sc fnb es ls = true → PTs X ls (tCs X.K C es)
  | .nil, _, _, _, _, _, g, ls, h => by
    unfold ckQ at h
    rw [List.isEmpty_iff.mp h]
    exact ts_nil
  | .cons a es, _, _, _, _, _, g, ls, h => by
    unfold ckQ at h
    split at h
    · exact ts_one (ckE_ok a g _ h).pt
    · cases h
theorem ckS_ok : ∀ (s : Src) {X : Cx} {C : Call} {G : Gd} {sc : Scope} {fnb : Str → Bool} (g : Gk X C G sc fnb) (tg e : Expr), ckS G sc fnb s tg e = true → PI X tg e (tS X.K C s)
  | .ex a, _, _, _, _, _, g, tg, e, h => by
    unfold ckS at h
    exact s_ex (ckE_ok a g _ h).pe
  | .rng es, _, _, _, _, _, g, tg, e, h => by
    unfold ckS at h
    split at h
    · rename_i x p ls pos
      simp only [Bool.and_eq_true, decide_eq_true_eq] at h
      obtain ⟨⟨rfl, h2, h3, h4⟩, h5⟩ := h
      obtain ⟨f1, f2, _⟩ := g.fnm h2
      have A := ckA_ok es g _ h5
      have hl := A.len
      have hp := A.pl
      match ls, h3, h4, hl, hp, A with
      | [e1], _, _, hl, hp, A => simp at hp; exact s_rng1 hl hp f1 f2 A.pr
      | [e1, e2], _, _, hl, hp, A => simp at hp; exact s_rng2 hl hp.1 hp.2 f1 f2 A.pr
      | [e1, e2, e3], _, _, hl, hp, A => simp at hp; exact s_rng3 hl hp.1 hp.2.1 hp.2.2 f1 f2 A.pr
      | _ :: _ :: _ :: _ :: _, _, h4, _, _, _ => simp at h4
    · cases h
  | .enm a, _, _, _, _, _, g, tg, e, h => by
    unfold ckS at h
    split at h
    · simp only [Bool.and_eq_true, decide_eq_true_eq] at h
      obtain ⟨⟨rfl, h2, h3⟩, h5⟩ := h
      obtain ⟨f1, f2, _⟩ := g.fnm h2
      exact s_enm h3 f1 f2 (r_cons h3 (ckE_ok a g _ h5).pe r_nil)
    · cases h
  | .zp es, _, _, _, _, _, g, tg, e, h => by
    unfold ckS at h
    split at h
    · simp only [Bool.and_eq_true, decide_eq_true_eq] at h
      obtain ⟨⟨rfl, h2⟩, h5⟩ := h
      obtain ⟨f1, f2, _⟩ := g.fnm h2
      have A := ckA_ok es g _ h5
      have hp := A.pl
      simp at hp
      exact s_zp A.len hp.1 hp.2 f1 f2 A.pr
    · simp only [Bool.and_eq_true, decide_eq_true_eq] at h
      obtain ⟨⟨rfl, h2⟩, h5⟩ := h
      obtain ⟨f1, f2, _⟩ := g.fnm h2
      have A := ckA_ok es g _ h5
      have hp := A.pl
      simp at hp
      exact s_zp3 A.len hp.1 hp.2.1 hp.2.2 f1 f2 A.pr
    · cases h
  | .rv _, _, _, _, _, _, g, tg, e, h => by
    unfold ckS at h
    cases h
  | .dk a, _, _, _, _, _, g, tg, e, h => by
    unfold ckS at h
    exact s_dk (ckE_ok a g _ h).pe
end
end Mw

set_option Elab.async false
set_option linter.all false
set_option autoImplicit false
set_option maxRecDepth 100000
/-! PyD4: the checker, statements. -/
namespace Mw
open PySem PySem.Spec PyProof.Rows L2
def isComp : Expr → Bool
  | .ListComp .. => true
  | .SetComp .. => true
  | .DictComp .. => true
  | _ => false
def isName : Expr → Bool
  | .Name .. => true
  | _ => false
def isTupE : Expr → Bool
  | .Tuple .. => true
  | _ => false
def isSeqT : Expr → Bool
  | .Tuple .. => true
  | .List .. => true
  | _ => false
theorem sw_not {e : Expr} {tg : Option Expr} {l : Nat} {env : PySem.Env} (h : isComp e = false) : swapsWith e tg l env = pure false := by
  cases e <;> first | rfl | (cases h)
/-- a list made by a comprehension, or by one into a name that others see -/
def swB (sc : Scope) (tg e : Expr) : Bool := !isComp e || match tg with
  | .Name x _ => decide (sc.names.lookup x = some .cell)
  | _ => false
theorem sw_swB {e tg : Expr} {l : Nat} {env : PySem.Env} (h : swB env.scope tg e = true) : swapsWith e (some tg) l env = pure false := by
  unfold swB at h
  simp only [Bool.or_eq_true, Bool.not_eq_true'] at h
  rcases h with h | h
  · exact sw_not h
  · split at h
    · rename_i x p
      have k : env.kindOf x = some .cell := of_decide_eq_true h
      cases e <;> first | rfl | (unfold swapsWith; simp [k, show (NameKind.cell == NameKind.local) = false from rfl])
    · cases h
theorem sw_tgt {e tg : Expr} {l : Nat} {env : PySem.Env} (h : isName tg = false) : swapsWithSole [tg] e l env = pure false := by
  show swapsWith e (some tg) l env = pure false
  cases tg <;> first | (cases h; done) | (cases e <;> rfl)
theorem st_none {e tg : Expr} {env : PySem.Env} (h : isTupE e = false) : swappedStores [tg] e env = pure none := by
  cases e <;> first | (cases h; done) | (cases tg <;> rfl)
theorem st_none2 {e tg : Expr} {env : PySem.Env} (h : isSeqT tg = false) : swappedStores [tg] e env = pure none := by
  cases tg <;> first | (cases h; done) | (cases e <;> rfl)
/-- all items are constants: stored from the left -/
theorem st_fold {ts vs : List Expr} {k k2 : Nat} {p p2 : Pos} {env : PySem.Env} (hk : env.blockKind = .function) (h : vs.all (foldedForSure 8) = true) : swappedStores [.Tuple ts k p] (.Tuple vs k2 p2) env = pure none := by
  unfold swappedStores
  simp only [h]
  split
  · rfl
  · split
    · rfl
    · split <;> rfl
/-- two plain local names of one line -/
def parB (sc : Scope) (x y : Str) (px py : Pos) (a b : Expr) : Bool :=
  decide (x ≠ y) && (decide (sc.names.lookup x = some .local) && (decide (sc.names.lookup y = some .local) && ((py.line == px.line) && (!([a, b].all (foldedForSure 8)) && !([a, b].all (constantsAlone 8))))))
theorem st_par {x y : Str} {a b : Expr} {px py p p2 : Pos} {k k2 : Nat} {env : PySem.Env} (hk : env.scope.kind = .function) (ha : plainE a = true) (hb : plainE b = true) (h : parB env.scope x y px py a b = true) :
    swappedStores [.Tuple [.Name x px, .Name y py] k p] (.Tuple [a, b] k2 p2) env = pure (some [x, y]) := by
  simp only [parB, Bool.and_eq_true, decide_eq_true_eq, Bool.not_eq_true', Bool.not_eq_eq_eq_not, Bool.not_true] at h
  obtain ⟨h1, h2, h3, h4, h5, h6⟩ := h
  have kx : env.kindOf x = some .local := h2
  have ky : env.kindOf y = some .local := h3
  have hb2 : env.blockKind = .function := by unfold PySem.Env.blockKind; rw [hk]; rfl
  have e1 : ([a, b].any fun | .Starred .. => true | _ => false) = false := by
    cases a <;> first | (cases ha; done) | (cases b <;> first | rfl | (cases hb; done))
  have hd : ([x, y] : List Str).eraseDups.length = 2 := by
    have : (y == x) = false := beq_eq_false_iff_ne.mpr (Ne.symm h1)
    simp [List.eraseDups_cons, this]
  unfold swappedStores
  simp only [hb2, e1, h5, h6]
  simp [kx, ky, eq_of_beq h4, Expr.pos, hd]
  intro h
  rcases h with h | h <;> split at h <;> first | cases ha | cases hb | cases h

def foldB (tg e : Expr) : Bool := match tg, e with
  | .Tuple .., .Tuple vs _ _ => vs.all (foldedForSure 8)
  | _, _ => false
def okT : Str → Bool := fun _ => true
/-- target = value, no comprehension of its own: the general road -/
def asgB (G : Gd) (sc : Scope) (t : Tgt) (a : CE) (tg e : Expr) : Bool :=
  swB sc tg e && (plainE tg && ((!isTupE e || (!isSeqT tg || foldB tg e)) && (ckT G sc okT t tg && ckE G sc okT a e)))
/-- a, b = x, y -/
def asgP (G : Gd) (sc : Scope) (t : Tgt) (a : CE) (tg e : Expr) : Bool := match t, a, tg, e with
  | .tp (.cons (.nm i) (.cons (.nm j) .nil)), .tup (.cons a' (.cons b' .nil)), .Tuple [.Name x px, .Name y py] _ _, .Tuple [ea, eb] _ _ =>
    decide (G.N[i]? = some x) && (decide (G.N[j]? = some y) && (decide (i ≠ j) && (parB sc x y px py ea eb && ckA G sc okT (.cons a' (.cons b' .nil)) [ea, eb])))
  | _, _, _, _ => false
/-- name = [.. for ..] on the name's line -/
def asgL (G : Gd) (sc : Scope) (t : Tgt) (a : CE) (tg e : Expr) : Bool := match t, a, tg, e with
  | .nm i, .comp t' s c el own, .Name y py, .ListComp elt gs scope pos =>
    decide (G.N[i]? = some y) && (decide (sc.names.lookup y = some .local) && ((py.line == pos.line) && (!(scope.names.any fun (n, k) => n == y && (k == .local || k == .cell)) && ckE G sc okT (.comp t' s c el own) (.ListComp elt gs scope pos))))
  | _, _, _, _ => false
mutual
def ckSt (G : Gd) (sc : Scope) : CS → Stmt → Bool
  | .bad, _ => true
  | .pass, s => match s with
    | .Pass _ => true
    | _ => false
  | .brk, s => match s with
    | .Break _ => true
    | _ => false
  | .cont, s => match s with
    | .Continue _ => true
    | _ => false
  | .retN, s => match s with
    | .Return none _ => true
    | _ => false
  | .ret a, s => match s with
    | .Return (some e) _ => ckE G sc okT a e
    | _ => false
  | .expr a, s => match s with
    | .Expr e _ => !isComp e && ckE G sc okT a e
    | _ => false
  | .ite c x y, s => match s with
    | .If k a b _ => ckE G sc okT c k && (ckSs G sc x a && ckSs G sc y b)
    | _ => false
  | .asg t a, s => match s with
    | .Assign [tg] e _ => asgB G sc t a tg e || (asgP G sc t a tg e || asgL G sc t a tg e)
    | _ => false
  | .aug i o a, s => match s with
    | .AugAssign (.Name x _) op e _ => decide (G.N[i]? = some x) && (locB sc okT x && (ckE G sc okT a e && ((decide (o = .add) && (match op with | .Add => true | _ => false)) || (decide (o = .sub) && (match op with | .Sub => true | _ => false)))))
    | _ => false
  | .put a b c, s => match s with
    | .Assign [.Subscript o i _] e _ => plainE i && (ckE G sc okT a o && (ckE G sc okT b i && ckE G sc okT c e))
    | _ => false
  | .for t r b, s => match s with
    | .For tg iter body [] _ => plainE iter && (ckS G sc okT r tg iter && (ckT G sc okT t tg && ckSs G sc b body))
    | _ => false
  | .while c b, s => match s with
    | .While k body [] _ => ckE G sc okT c k && ckSs G sc b body
    | _ => false
def ckSs (G : Gd) (sc : Scope) : CSs → List Stmt → Bool
  | .nil, l => l.isEmpty
  | .cons c cs, l => match l with
    | s :: r => ckSt G sc c s && ckSs G sc cs r
    | [] => false
end
theorem asg_sub {o i : Expr} {tpos : Pos} {env : PySem.Env} {v : Value} (h : plainE i = true) : assign (.Subscript o i tpos) env v = (do
      let ov ← holding [v] (eval o env)
      let iv ← holding [v, ov] (eval i env)
      standAt tpos
      holding [v, ov, iv] (setItem ov iv v)
      release [v, ov, iv] []) := by
  cases i <;> first | rfl | (cases h)
section
variable {X : Cx} {C : Call} {G : Gd} {sc : Scope} {n : Nat}
theorem st_bad {s : Stmt} : PS X s (tSt X.K C n .bad) := ⟨fun _ _ _ _ _ _ ⟨_, _, _, _, _, _, _, _, ee, _⟩ => by simp [exS] at ee⟩
theorem asgB_ok (g : Gk X C G sc okT) {t : Tgt} {a : CE} {tg e : Expr} {pos : Pos} (h : asgB G sc t a tg e = true) : PS X (.Assign [tg] e pos) (tSt X.K C n (.asg t a)) := by
  simp only [asgB, Bool.and_eq_true] at h
  obtain ⟨h1, h2, h3, h4, h5⟩ := h
  refine s_asg (ckE_ok a g e h5).pe (ckT_ok g t tg h4) (sw_swB (by rw [g.hsc]; exact h1)) ?_ (by rw [asg_plain h2]; rfl)
  simp only [Bool.or_eq_true, Bool.not_eq_true'] at h3
  rcases h3 with h3 | h3 | h3
  · exact st_none h3
  · exact st_none2 h3
  · unfold foldB at h3
    split at h3
    · refine st_fold ?_ h3
      unfold PySem.Env.blockKind
      rw [g.hsc, g.kind]; rfl
    · cases h3
theorem asgP_ok (g : Gk X C G sc okT) {t : Tgt} {a : CE} {tg e : Expr} {pos : Pos} (h : asgP G sc t a tg e = true) : PS X (.Assign [tg] e pos) (tSt X.K C n (.asg t a)) := by
  unfold asgP at h
  split at h
  · simp only [Bool.and_eq_true, decide_eq_true_eq] at h
    obtain ⟨h1, h2, h3, h4, h5⟩ := h
    have A := ckA_ok _ g _ h5
    have hp := A.pl
    simp at hp
    have hs : X.env.scope.kind = .function := by rw [g.hsc]; exact g.kind
    have h4' := h4
    rw [← g.hsc] at h4'
    have q := h4'
    simp only [parB, Bool.and_eq_true, decide_eq_true_eq] at q
    exact s_par g.calm (by rw [g.n]; exact g.nd) (by rw [g.n]; exact h1) (by rw [g.n]; exact h2) h3 q.2.1 q.2.2.1 A.pa (st_par hs hp.1 hp.2 h4')
  · cases h
theorem asgL_ok (g : Gk X C G sc okT) {t : Tgt} {a : CE} {tg e : Expr} {pos : Pos} (h : asgL G sc t a tg e = true) : PS X (.Assign [tg] e pos) (tSt X.K C n (.asg t a)) := by
  unfold asgL at h
  split at h
  · rename_i i t' s c el own y py elt gs scope pos'
    simp only [Bool.and_eq_true, decide_eq_true_eq, Bool.not_eq_true'] at h
    obtain ⟨h1, h2, h3, h4, h⟩ := h
    unfold ckE at h
    split at h
    · rename_i elt' tg iter ifs scope' pos'' heq
      cases heq
      simp only [Bool.and_eq_true] at h
      obtain ⟨⟨k1, k2, k3, k4⟩, k5, k6, k7⟩ := h
      have B := blkB_ok k1
      have hsub : ∀ j ∈ slotsT t', j ∈ (ownL G.N own).map (·.2) := by rw [ownL_snd]; exact subB_ok k2
      have hs : X.env.scope.kind = .function := by rw [g.hsc]; exact g.kind
      have hy : X.env.scope.names.lookup y = some .local := by rw [g.hsc]; exact h2
      have R := s_setLc (n := n) (i := i) (py := py) (pos := pos') (spos := pos) hsub g.calm (by rw [g.n]; exact g.nd) (by rw [g.n]; exact h1) hy (sw_true hs hy h3 h4) (ckS_ok s g tg iter k5) (by rw [g.n, g.hsc]; exact B)
        (fun s H A cl fp => ckT_ok (g.blk s H A cl fp B.kind) t' tg k4) (fun s H A cl fp => ckQ_ok c (g.blk s H A cl fp B.kind) ifs k6) (fun s H A cl fp => (ckE_ok el (g.blk s H A cl fp B.kind) elt k7).pe) (fold_plain k3 _)
      rw [ownL_snd] at R
      exact R
    · cases h
  · cases h
end
mutual
theorem ckSt_ok {X : Cx} {C : Call} {G : Gd} {sc : Scope} {n : Nat} (g : Gk X C G sc okT) (hp : PassesOwn (model X.prog X.w) X.A X.env X.xe) : ∀ (c : CS) (s : Stmt), ckSt G sc c s = true → PS X s (tSt X.K C n c)
  | .bad, s, h => st_bad
  | .pass, s, h => by
    unfold ckSt at h
    split at h
    · exact s_pass
    · cases h
  | .brk, s, h => by
    unfold ckSt at h
    split at h
    · exact s_brk
    · cases h
  | .cont, s, h => by
    unfold ckSt at h
    split at h
    · exact s_cont
    · cases h
  | .retN, s, h => by
    unfold ckSt at h
    split at h
    · exact s_retN
    · cases h
  | .ret a, s, h => by
    unfold ckSt at h
    split at h
    · exact s_ret (ckE_ok a g _ h).pe
    · cases h
  | .expr a, s, h => by
    unfold ckSt at h
    split at h
    · simp only [Bool.and_eq_true, Bool.not_eq_true'] at h
      exact s_expr (ckE_ok a g _ h.2).pe (sw_not h.1)
    · cases h
  | .ite c x y, s, h => by
    unfold ckSt at h
    split at h
    · simp only [Bool.and_eq_true] at h
      exact s_if (ckE_ok c g _ h.1).pt (ckSs_ok g hp x _ h.2.1) (ckSs_ok g hp y _ h.2.2)
    · cases h
  | .asg t a, s, h => by
    unfold ckSt at h
    split at h
    · simp only [Bool.or_eq_true] at h
      rcases h with h | h | h
      · exact asgB_ok g h
      · exact asgP_ok g h
      · exact asgL_ok g h
    · cases h
  | .aug i o a, s, h => by
    unfold ckSt at h
    split at h
    · simp only [Bool.or_eq_true, Bool.and_eq_true, decide_eq_true_eq] at h
      obtain ⟨h1, h2, h3, h4⟩ := h
      obtain ⟨k1, k2⟩ := locB_ok g h2
      have A := (ckE_ok a g _ h3).pe
      have N1 : X.N.Nodup := by rw [g.n]; exact g.nd
      rcases h4 with ⟨rfl, h4⟩ | ⟨rfl, h4⟩
      · split at h4
        · exact s_augAdd N1 (by rw [g.n]; exact h1) k1 A k2
        · cases h4
      · split at h4
        · exact s_augSub N1 (by rw [g.n]; exact h1) k1 A k2
        · cases h4
    · cases h
  | .put a b c, s, h => by
    unfold ckSt at h
    split at h
    · simp only [Bool.and_eq_true] at h
      exact s_put g.units (ckE_ok a g _ h.2.1).pe (ckE_ok b g _ h.2.2.1).pe (ckE_ok c g _ h.2.2.2).pe (sw_tgt rfl) (fun v => asg_sub h.1)
    · cases h
  | .for t r b, s, h => by
    unfold ckSt at h
    split at h
    · simp only [Bool.and_eq_true] at h
      exact s_for hp g.calm (ckS_ok r g _ _ h.2.1) (ckT_ok g t _ h.2.2.1) (ckSs_ok g hp b _ h.2.2.2) (fold_plain h.1 _)
    · cases h
  | .while c b, s, h => by
    unfold ckSt at h
    split at h
    · simp only [Bool.and_eq_true] at h
      exact s_while hp (ckE_ok c g _ h.1).pt (ckSs_ok g hp b _ h.2)
    · cases h
theorem ckSs_ok {X : Cx} {C : Call} {G : Gd} {sc : Scope} {n : Nat} (g : Gk X C G sc okT) (hp : PassesOwn (model X.prog X.w) X.A X.env X.xe) : ∀ (c : CSs) (l : List Stmt), ckSs G sc c l = true → PSs X l (tSs X.K C n c)
  | .nil, l, h => by
    unfold ckSs at h
    rw [List.isEmpty_iff.mp h]
    exact ss_nil
  | .cons c cs, l, h => by
    unfold ckSs at h
    split at h
    · simp only [Bool.and_eq_true] at h
      exact ss_cons (ckSt_ok g hp c _ h.1) (ckSs_ok g hp cs _ h.2)
    · cases h
end
end Mw

set_option Elab.async false
set_option linter.all false
set_option autoImplicit false
set_option maxRecDepth 100000
/-! PyE: defs of a program, all at once. -/
namespace Mw
open PySem PySem.Spec PyProof.Rows L2
/-! ### how plain parameters bind -/
theorem zip_look : ∀ {ps : List Str} {us : List Value}, us.length = ps.length → ∀ x ∈ ps, ((ps.zip us).lookup x).isSome = true
  | [], _, _, x, h => by simp at h
  | p :: ps, [], hl, x, h => by simp at hl
  | p :: ps, u :: us, hl, x, h => by
    rw [List.zip_cons_cons, List.lookup_cons]
    by_cases e : x == p
    · simp [e]
    · simp only [e]
      rcases List.mem_cons.mp h with z | z
      · exact absurd (beq_iff_eq.mpr z) e
      · exact zip_look (by simpa using hl) x z
theorem zip_map : ∀ {ps : List Str} {us : List Value}, ps.Nodup → us.length = ps.length → (ps.filterMap fun n => ((ps.zip us).lookup n).map fun v => (n, v)) = ps.zip us := by
  have go : ∀ (ps : List Str) (us : List Value) (f : Str → Option Value), ps.Nodup → us.length = ps.length → (∀ p ∈ ps.zip us, f p.1 = some p.2) → (ps.filterMap fun n => (f n).map fun v => (n, v)) = ps.zip us := by
    intro ps
    induction ps with
    | nil => intro us f _ _ _; rfl
    | cons p ps ih =>
      intro us f nd hl h
      cases us with
      | nil => simp at hl
      | cons u us =>
        have h1 : f p = some u := h (p, u) (by simp)
        rw [List.filterMap_cons, h1]
        simp only [Option.map_some, List.zip_cons_cons]
        rw [ih us f (List.nodup_cons.mp nd).2 (by simpa using hl) fun q hq => h q (by simp [hq])]
  intro ps us nd hl
  refine go ps us _ nd hl ?_
  intro q hq
  clear go
  induction ps generalizing us with
  | nil => simp at hq
  | cons p ps ih =>
    cases us with
    | nil => simp at hq
    | cons u us =>
      rw [List.zip_cons_cons] at hq ⊢
      rw [List.lookup_cons]
      rcases List.mem_cons.mp hq with z | z
      · subst z; simp
      · have hne : (q.1 == p) = false := beq_eq_false_iff_ne.mpr fun e => (List.nodup_cons.mp nd).1 (e ▸ (List.of_mem_zip z).1)
        rw [hne]
        exact ih (List.nodup_cons.mp nd).2 (by simpa using hl) z
theorem bind_plain {x qual : Str} {as : List Arg} {body : List Stmt} {scope : Scope} {kV doc pm cdv ct : Value} {an : Option Addr} {us : List Value} (nd : (as.map (·.arg)).Nodup) (hl : us.length = (as.map (·.arg)).length) :
    bindArgs (PySem.W.fnOf x qual ⟨[], as, none, [], [], none, []⟩ body scope .none kV doc pm an cdv ct) ⟨us, []⟩ = pure ((as.map (·.arg)).zip us) := by
  have e1 : ((as.map (·.arg)).filter fun n => (((as.map (·.arg)).zip us).lookup n).isNone) = [] := by
    rw [List.filter_eq_nil_iff]
    intro n hn
    have := zip_look hl n hn
    cases h : ((as.map (·.arg)).zip us).lookup n with
    | none => rw [h] at this; cases this
    | some _ => simp
  have e2 := zip_map nd hl
  have e3 : ¬ (us.length > (as.map (·.arg)).length) := by omega
  unfold bindArgs
  have hd : seqItems? (PySem.W.fnOf x qual ⟨[], as, none, [], [], none, []⟩ body scope .none kV doc pm an cdv ct).defaults = pure none := by rfl
  have hp : (PySem.W.fnOf x qual ⟨[], as, none, [], [], none, []⟩ body scope .none kV doc pm an cdv ct).params = ⟨[], as, none, [], [], none, []⟩ := rfl
  simp only [hd, hp, List.map_nil, List.nil_append, pure_bind, List.append_nil, List.forIn_nil, if_neg e3]
  simp
  rw [if_neg (by simpa using e3)]
  have e4 : (List.take ((List.map (fun x => x.arg) as).length - (List.drop (0 - (List.map (fun x => x.arg) as).length) ([] : List Value)).length) (List.map (fun x => x.arg) as)) = List.map (fun x => x.arg) as := by
    rw [List.drop_nil, List.length_nil, Nat.sub_zero, List.take_length]
  rw [List.filterMap_map] at e2
  refine (if_neg ?_).trans (congrArg pure e2)
  rw [e4, e1]
  simp
/-! ### the store behind a call -/
section
variable {K : PySem.W.Frag} {β new : List Addr} {H : Hp}
mutual
theorem low_rep : ∀ (d : D) (v : V), D.low β.length d = true → Rep K (β ++ new) H d v → Rep K β H d v
  | .non, _, _, h => h
  | .bl _, _, _, h => h
  | .int _, _, _, h => h
  | .str _, _, _, h => h
  | .tup xs, v, hl, h => by obtain ⟨a, vs, e1, h1, h2⟩ := h; exact ⟨a, vs, e1, h1, low_repL xs vs hl h2⟩
  | .rol xs, v, hl, h => by obtain ⟨a, vs, e1, h1, h2⟩ := h; exact ⟨a, vs, e1, h1, low_repL xs vs hl h2⟩
  | .ref n, v, hl, h => by
    obtain ⟨a, e1, e2⟩ := h
    have hn : n < β.length := by simpa [D.low] using hl
    rw [List.getElem?_append_left hn] at e1
    exact ⟨a, e1, e2⟩
theorem low_repL : ∀ (ds : List D) (vs : List V), D.lowL β.length ds = true → RepL K (β ++ new) H ds vs → RepL K β H ds vs
  | [], _, _, h => h
  | x :: xs, vs, hl, h => by
    obtain ⟨v, r, e1, h1, h2⟩ := h
    simp only [D.lowL, Bool.and_eq_true] at hl
    exact ⟨v, r, e1, low_rep x v hl.1 h1, low_repL xs r hl.2 h2⟩
end
mutual
theorem rep_low : ∀ (d : D) (v : V), Rep K β H d v → D.low β.length d = true
  | .non, _, _ => rfl
  | .bl _, _, _ => rfl
  | .int _, _, _ => rfl
  | .str _, _, _ => rfl
  | .tup xs, v, h => by obtain ⟨a, vs, e1, h1, h2⟩ := h; exact repL_low xs vs h2
  | .rol xs, v, h => by obtain ⟨a, vs, e1, h1, h2⟩ := h; exact repL_low xs vs h2
  | .ref n, v, h => by
    obtain ⟨a, e1, e2⟩ := h
    have := (List.getElem?_eq_some_iff.mp e1).1
    simpa [D.low] using this
theorem repL_low : ∀ (ds : List D) (vs : List V), RepL K β H ds vs → D.lowL β.length ds = true
  | [], _, _ => rfl
  | x :: xs, vs, h => by
    obtain ⟨v, r, e1, h1, h2⟩ := h
    simp only [D.lowL, Bool.and_eq_true]
    exact ⟨rep_low x v h1, repL_low xs r h2⟩
end
end
theorem low_vals {m : Nat} {lk : Bool} : ∀ {kvs : List (D × D)}, (O.dic lk kvs).low m = true → D.lowL m (kvs.map (·.2)) = true
  | [], _ => rfl
  | (k, v) :: kvs, h => by
    simp only [O.low, List.all_cons, Bool.and_eq_true] at h
    simp only [List.map_cons, D.lowL, Bool.and_eq_true]
    exact ⟨h.1.2, low_vals (lk := lk) h.2⟩
theorem low_valsT {m : Nat} {lk : Bool} : ∀ {kvs : List (D × D)}, (O.dit lk kvs).low m = true → D.lowL m (kvs.map (·.2)) = true
  | [], _ => rfl
  | (k, v) :: kvs, h => by
    simp only [O.low, List.all_cons, Bool.and_eq_true] at h
    simp only [List.map_cons, D.lowL, Bool.and_eq_true]
    exact ⟨h.1.2, low_valsT (lk := lk) h.2⟩
theorem gc_ok {K : PySem.W.Frag} {β β' : List Addr} {st st' : Sto} {H H' : Hp} {d : D} {v : V} (s0 : Sim K β st H) (x : Ext β H β' H') (s : Sim K β' st' H') (r : Rep K β' H' d v) :
    ∃ β2, Ext β H β2 H' ∧ Sim K β2 (gc st d st').2 H' ∧ Rep K β2 H' (gc st d st').1 v := by
  unfold gc
  split
  rotate_left
  · exact ⟨β', x, s, r⟩
  rename_i hg
  simp only [gcOld, Bool.and_eq_true, decide_eq_true_eq, List.all_eq_true, List.mem_range, Bool.or_eq_true] at hg
  obtain ⟨hle, hall⟩ := hg
  obtain ⟨new, rfl, hn⟩ := x.pre
  have hb : β.length = st.length := s0.len
  -- what was there names only what was there
  have sβ : Sim K β (st'.take st.length) H' := by
    refine ⟨by rw [List.length_take, hb]; omega, s0.nd, fun n a o h1 h2 => ?_⟩
    have hlt : n < st.length := by rw [← hb]; exact (List.getElem?_eq_some_iff.mp h1).1
    rw [List.getElem?_take_of_lt hlt] at h2
    have h1' : (β ++ new)[n]? = some a := by rw [List.getElem?_append_left (by rw [hb]; exact hlt)]; exact h1
    have q := s.obj n a o h1' h2
    cases o with
    | lst xs =>
      obtain ⟨vs, q1, q2⟩ := q
      refine ⟨vs, q1, low_repL xs vs ?_ q2⟩
      rcases hall n hlt with e | e
      · rw [h2] at e
        obtain ⟨ws, _, p2⟩ := s0.obj n a _ h1 e.symm
        exact repL_low xs ws p2
      · rw [h2] at e
        rw [hb]
        exact e
    | dic lk kvs =>
      obtain ⟨ks, q1, q3, q2⟩ := q
      refine ⟨ks, q1, q3, low_repL _ _ ?_ q2⟩
      rcases hall n hlt with e | e
      · rw [h2] at e
        obtain ⟨ws, _, _, p2⟩ := s0.obj n a _ h1 e.symm
        exact repL_low _ _ p2
      · rw [h2] at e
        rw [hb]
        exact low_vals e
    | dit lk kvs =>
      obtain ⟨ks, q1, q3, q2⟩ := q
      refine ⟨ks, q1, q3, low_repL _ _ ?_ q2⟩
      rcases hall n hlt with e | e
      · rw [h2] at e
        obtain ⟨ws, _, _, p2⟩ := s0.obj n a _ h1 e.symm
        exact repL_low _ _ p2
      · rw [h2] at e
        rw [hb]
        exact low_valsT e
    | ins _ _ => exact q.elim
  have xβ : Ext β H β H' := ⟨⟨[], by simp⟩, x.keep, x.frz⟩
  split
  · rename_i hl
    exact ⟨β, xβ, sβ, low_rep d v (by rw [hb]; exact hl) r⟩
  · split
    · rename_i n hl
      split
      · rename_i o ho
        split
        · rename_i hlo
          obtain ⟨a, h1, rfl⟩ := r
          have q := s.obj n a o h1 ho
          cases o with
          | lst xs =>
            obtain ⟨vs, q1, q2⟩ := q
            have hge : β.length ≤ n := by
              rw [hb]
              simp [D.low] at hl
              exact hl
            have hm : a ∈ new := by
              rw [List.getElem?_append_right hge] at h1
              exact List.mem_of_getElem? h1
            have ha : a ∉ β := fun hm2 => (List.nodup_append.mp s.nd).2.2 a hm2 a hm rfl
            have q3 : RepL K β H' xs vs := low_repL xs vs (by rw [hb]; exact hlo) q2
            refine ⟨β ++ [a], ⟨⟨[a], rfl, fun b hb => by rw [List.mem_singleton.mp hb]; exact hn a hm⟩, x.keep, x.frz⟩, sβ.lay q1 ha q3, a, ?_, rfl⟩
            rw [← hb, List.getElem?_append_right (Nat.le_refl _)]
            simp
          | dic lk kvs =>
            obtain ⟨ks, q1, qk, q2⟩ := q
            have hge : β.length ≤ n := by
              rw [hb]
              simp [D.low] at hl
              exact hl
            have hm : a ∈ new := by
              rw [List.getElem?_append_right hge] at h1
              exact List.mem_of_getElem? h1
            have ha : a ∉ β := fun hm2 => (List.nodup_append.mp s.nd).2.2 a hm2 a hm rfl
            have q3 : RepL K β H' (kvs.map (·.2)) (ks.map (·.2)) := low_repL _ _ (by rw [hb]; exact low_vals hlo) q2
            refine ⟨β ++ [a], ⟨⟨[a], rfl, fun b hb => by rw [List.mem_singleton.mp hb]; exact hn a hm⟩, x.keep, x.frz⟩, sβ.layO ha ⟨ks, q1, qk, RepL.grow grow_app _ _ q3⟩, a, ?_, rfl⟩
            rw [← hb, List.getElem?_append_right (Nat.le_refl _)]
            simp
          | dit lk kvs =>
            obtain ⟨ks, q1, qk, q2⟩ := q
            have hge : β.length ≤ n := by
              rw [hb]
              simp [D.low] at hl
              exact hl
            have hm : a ∈ new := by
              rw [List.getElem?_append_right hge] at h1
              exact List.mem_of_getElem? h1
            have ha : a ∉ β := fun hm2 => (List.nodup_append.mp s.nd).2.2 a hm2 a hm rfl
            have q3 : RepL K β H' (kvs.map (·.2)) (ks.map (·.2)) := low_repL _ _ (by rw [hb]; exact low_valsT hlo) q2
            refine ⟨β ++ [a], ⟨⟨[a], rfl, fun b hb => by rw [List.mem_singleton.mp hb]; exact hn a hm⟩, x.keep, x.frz⟩, sβ.layO ha ⟨ks, q1, qk, RepL.grow grow_app _ _ q3⟩, a, ?_, rfl⟩
            rw [← hb, List.getElem?_append_right (Nat.le_refl _)]
            simp
          | ins _ _ => exact q.elim
        · exact ⟨β ++ new, x, s, r⟩
      · exact ⟨β ++ new, x, s, r⟩
    · exact ⟨β ++ new, x, s, r⟩
end Mw

set_option Elab.async false
set_option linter.all false
set_option autoImplicit false
set_option maxRecDepth 100000
/-! PyE2: a program's defs as their core says. -/
namespace Mw
open PySem PySem.Spec PyProof.Rows L2
/-- a def: the name by which it is called, its statement, its slots, its parameters' number, its core, its own name -/
structure Fe where
  nm : Str
  st : Stmt
  N : List Str
  np : Nat
  body : CSs
  on : Str := nm
def tabOf (fes : List Fe) : Tab := fes.map fun e => (e.nm, ⟨e.np, e.N.length, e.body⟩)
def fnsOf (fes : List Fe) : List (Str × Nat) := fes.map fun e => (e.nm, e.np)
def Fe.ps (e : Fe) : List Str := e.N.take e.np
def Fe.dd (e : Fe) : He.DefD := ⟨(e.nm, none), e.on, e.on, defArgs e.st, defBody e.st, defScope e.st, [], []⟩
def argB (as : Arguments) (ps : List Str) : Bool := match as with
  | ⟨[], l, none, [], [], none, []⟩ => decide (l.map (·.arg) = ps)
  | _ => false
def scB (N ps : List Str) (sc : Scope) : Bool :=
  (decide (sc.kind = .function) && (!sc.isCoroutine && !sc.isGenerator)) && (decide N.Nodup && (decide (N.take ps.length = ps) && ((ps.all fun x => decide (sc.names.lookup x = some .local) || decide (sc.names.lookup x = some .cell)) && sc.names.all fun y => decide (y.2 ≠ .free))))
theorem scB_ok {N ps : List Str} {sc : Scope} (h : scB N ps sc = true) : FnScope N ps sc := by
  simp only [scB, Bool.and_eq_true, decide_eq_true_eq, Bool.not_eq_true', List.all_eq_true, Bool.or_eq_true] at h
  obtain ⟨⟨h1, h2, h3⟩, h4, h5, h6, h7⟩ := h
  exact ⟨h1, h2, h3, h4, h5, h6, h7⟩
/-- the whole of a def -/
def ckF (fr : List Str) (fns : List (Str × Nat)) (cs : List (Str × D)) (e : Fe) : Bool :=
  (argB (defArgs e.st) e.ps && (scB e.N e.ps (defScope e.st) && decide (e.np ≤ e.N.length))) && ckSs ⟨e.N, fr, fns, cs⟩ (defScope e.st) e.body (defBody e.st)
section
variable {P : Program} {w : World} {K : PySem.W.Frag} {mg : Str → Option Value} {base : Heap} {fr : List Str} {fns : List (Str × Nat)} {cs : List (Str × D)} {e : Fe} {f : Addr} {fd : FuncData} {C : Call} {n : Nat}
theorem env_start {β : List Addr} {H : Hp} {N : List Str} {np : Nat} : ∀ {ds : List D} {vs : List V}, RepL K β H ds vs → ds.length = np → np ≤ N.length → EnvR K β H (ds.map some ++ List.replicate (N.length - np) none) (L2.start N vs) := by
  intro ds vs r hl hn
  have hvl : vs.length = np := by rw [← r.length]; exact hl
  refine ⟨by simp [L2.start, hl, hvl], fun i d hi => ?_⟩
  have hlt : i < ds.length := by
    by_cases hlt : i < ds.length
    · exact hlt
    · rw [List.getElem?_append_right (by simpa using hlt), List.getElem?_replicate] at hi
      split at hi <;> cases hi
  rw [List.getElem?_append_left (by simpa using hlt), List.getElem?_map] at hi
  cases hd : ds[i]? with
  | none => rw [hd] at hi; cases hi
  | some d' =>
    rw [hd] at hi
    cases hi
    obtain ⟨v, hv, rv⟩ := RepL.at r hd
    refine ⟨v, ?_, rv⟩
    unfold L2.start
    rw [List.getElem?_append_left (by rw [List.length_map, hvl, ← hl]; exact hlt), List.getElem?_map, hv]
    rfl
theorem ckF_binds (h : ckF fr fns cs e = true) (F : FunD K e.on e.on (defArgs e.st) (defBody e.st) (defScope e.st) [] [] f fd) : Binds K fd e.ps [] ∧ ∀ (s : Shared) (us : List Value), us.length = e.ps.length → BindsTo s fd ⟨us, []⟩ (e.ps.zip us) := by
  simp only [ckF, Bool.and_eq_true] at h
  obtain ⟨⟨h1, h2, h3⟩, _⟩ := h
  have S := scB_ok h2
  have nd : e.ps.Nodup := by rw [← S.pre]; exact S.nd.sublist (List.take_sublist _ _)
  unfold argB at h1
  split at h1
  · rename_i l hq
    have hl := of_decide_eq_true h1
    rw [hq] at F
    rw [← hl] at nd ⊢
    exact ⟨F.bindsN fun kV doc pm an cdv ct us hu => bind_plain nd hu, F.bindsA fun kV doc pm an cdv ct us hu => bind_plain nd hu⟩
  · cases h1
theorem ckF_ok {k : Nat} {T : Tab} (h : ckF fr fns cs e = true) (hT : T.lookup e.nm = some ⟨e.np, e.N.length, e.body⟩) (F : FunD K e.on e.on (defArgs e.st) (defBody e.st) (defScope e.st) [] [] f fd) (hfr : ∀ x, x ∈ fr → mg x = none)
    (hfns : ∀ p, p ∈ fns → ∃ (g : Addr) (fd : FuncData) (ps : List Str), mg p.1 = some (.ref g) ∧ PySem.W.keepIn K (.ref g) = true ∧ Binds K fd ps [] ∧ FnG P w K mg base k g fd ps (spOf K (callF T n k) p.1 ps.length) ∧ ps.length = p.2)
    (hcs : ∀ p, p ∈ cs → ∃ (v : V) (u : Value), mg p.1 = some u ∧ RelV v u ∧ ∀ β H, Rep K β H p.2 v) : FnG P w K mg base (k + 1) f fd e.ps (spOf K (callF T n (k + 1)) e.nm e.ps.length) := by
  have h0 := h
  simp only [ckF, Bool.and_eq_true, decide_eq_true_eq] at h
  obtain ⟨⟨h1, h2, h3⟩, h4⟩ := h
  have S := scB_ok h2
  have hpl : e.ps.length = e.np := by
    unfold Fe.ps
    rw [List.length_take]
    omega
  refine fnG_of F S (fun vs H Q E hsp => ?_) fun cdv A outer s H vs Q E hr gd hsp => ?_
  · obtain ⟨β, st, ds, d, st', _, r, hl, _⟩ := hsp
    rw [← r.length, hl]
  · refine ⟨tSs K (callF T n k) n e.body, PSs.nox ?_, ?_⟩
    · refine ckSs_ok (X := (cxOf CX0 P w K mg base e.N e.on (defScope e.st) f cdv A outer s H E).nox) (C := callF T n k) ⟨rfl, rfl, S.kind, rfl, S.nd, fun _ _ => rfl, ?_, gd, hfr, fun p hp => ?_, hcs⟩ PassesOwn.never e.body (defBody e.st) h4
      · have := hr.un
        show (A.deeper _).units + 65 < cLine
        omega
      · obtain ⟨g, fd, ps, q1, q2, q3, q4, q5⟩ := hfns p hp
        exact ⟨k, g, fd, ps, q1, q2, q3, q4, q5, hr⟩
    · obtain ⟨β, st, ds, d, st', s, r, hl, hc, q⟩ := hsp
      simp only [callF, hT] at hc
      rw [if_pos (hl.trans hpl)] at hc
      split at hc
      · rename_i d0 ρ1 st1 hx
        simp only [Option.some.injEq] at hc
        have e1 : (gc st d0 st1).1 = d := congrArg Prod.fst hc
        have e2 : (gc st d0 st1).2 = st' := congrArg Prod.snd hc
        refine ⟨β, st, _, _, _, _, s, env_start r (hl.trans hpl) h3, hx, fun β1 H1 x1 s1 v rv => ?_⟩
        obtain ⟨β2, x2, s2, r2⟩ := gc_ok s x1 s1 rv
        rw [e2] at s2
        rw [e1] at r2
        exact q v β2 H1 x2 s2 r2
      · rename_i ρ1 st1 hx
        simp only [Option.some.injEq] at hc
        have e1 : (gc st .non st1).1 = d := congrArg Prod.fst hc
        have e2 : (gc st .non st1).2 = st' := congrArg Prod.snd hc
        refine ⟨β, st, _, _, _, _, s, env_start r (hl.trans hpl) h3, hx, fun β1 H1 x1 s1 σ1 en1 => ?_⟩
        obtain ⟨β2, x2, s2, r2⟩ := gc_ok s x1 s1 (d := .non) (v := .non) rfl
        rw [e2] at s2
        rw [e1] at r2
        exact q .non β2 H1 x2 s2 r2
      · cases hc
end
/-! ### all defs -/
theorem lookup_tab : ∀ {fes : List Fe} {e : Fe}, (fes.map (·.nm)).Nodup → e ∈ fes → (tabOf fes).lookup e.nm = some ⟨e.np, e.N.length, e.body⟩
  | [], _, _, h => by simp at h
  | x :: xs, e, nd, h => by
    unfold tabOf
    rw [List.map_cons, List.lookup_cons]
    rcases List.mem_cons.mp h with rfl | h
    · simp
    · have : (e.nm == x.nm) = false := beq_eq_false_iff_ne.mpr fun z => (List.nodup_cons.mp nd).1 (List.mem_map.mpr ⟨e, h, z⟩)
      rw [this]
      exact lookup_tab (List.nodup_cons.mp nd).2 h
end Mw

set_option Elab.async false
set_option linter.all false
set_option autoImplicit false
set_option maxRecDepth 100000
/-! PyE3: the module's constants; the law's end. -/
namespace Mw
open PySem PySem.Spec PyProof.Rows L2
/-! ### constants of the module -/
mutual
def repB (K : PySem.W.Frag) : D → Value → Bool
  | .int i, u => match u with
    | .int j _ => decide (i = j)
    | _ => false
  | .bl b, u => match u with
    | .bool c => decide (b = c)
    | _ => false
  | .non, u => match u with
    | .none => true
    | _ => false
  | .str s, u => match u with
    | .str t _ => decide (s = t)
    | _ => false
  | .tup xs, u => match u with
    | .ref a => (match K.lookup a with
      | some ⟨.type c, _, .seq its _, _⟩ => decide (c = "tuple") && (decide (its.size ≤ sizeLine) && ((!tkOk (.tup xs)) && repBL K xs its.toList))
      | _ => false)
    | _ => false
  | .rol xs, u => match u with
    | .ref a => (match K.lookup a with
      | some ⟨.type c, none, .seq its _, _⟩ => decide (c = "list") && (decide (its.size ≤ sizeLine) && repBL K xs its.toList)
      | _ => false)
    | _ => false
  | .ref _, _ => false
def repBL (K : PySem.W.Frag) : List D → List Value → Bool
  | [], us => us.isEmpty
  | x :: xs, us => match us with
    | u :: us => repB K x u && repBL K xs us
    | [] => false
end
theorem rep_isInt {K : PySem.W.Frag} {β : List Addr} {H : Hp} {d : D} {i : Int} (h : Rep K β H d (.int i)) : d = .int i := by
  cases d with
  | int j => cases (show V.int i = .int j from h); rfl
  | non => cases (show V.int i = .non from h)
  | bl b => cases (show V.int i = .bl b from h)
  | str s => cases (show V.int i = .str s from h)
  | tup xs => obtain ⟨_, _, e, _⟩ := h; cases e
  | rol xs => obtain ⟨_, _, e, _⟩ := h; cases e
  | ref n => obtain ⟨_, _, e⟩ := h; cases e
theorem tk_no {K : PySem.W.Frag} {β : List Addr} {H : Hp} : ∀ {xs : List D} {vs : List V}, tkOk (.tup xs) = false → RepL K β H xs vs → ∃ v ∈ vs, ∀ i, v ≠ .int i
  | [], vs, h, _ => by cases h
  | x :: xs, vs, h, r => by
    obtain ⟨v, r', rfl, h1, h2⟩ := r
    by_cases hx : ∃ i, x = .int i
    · obtain ⟨i, rfl⟩ := hx
      have h' : tkOk (.tup xs) = false := by simpa [tkOk] using h
      obtain ⟨w, hw, q⟩ := tk_no h' h2
      exact ⟨w, by simp [hw], q⟩
    · exact ⟨v, by simp, fun i e => hx ⟨i, by rw [e] at h1; exact rep_isInt h1⟩⟩
mutual
theorem repB_ok {K : PySem.W.Frag} : ∀ (d : D) (u : Value), repB K d u = true → ∃ v, RelV v u ∧ ∀ β H, Rep K β H d v
  | .int i, u, h => by
    unfold repB at h
    split at h
    · have := of_decide_eq_true h; subst this; exact ⟨.int i, ⟨_, rfl⟩, fun _ _ => rfl⟩
    · cases h
  | .bl i, u, h => by
    unfold repB at h
    split at h
    · have := of_decide_eq_true h; subst this; exact ⟨.bl i, rfl, fun _ _ => rfl⟩
    · cases h
  | .non, u, h => by
    unfold repB at h
    split at h
    · exact ⟨.non, rfl, fun _ _ => rfl⟩
    · cases h
  | .str i, u, h => by
    unfold repB at h
    split at h
    · have := of_decide_eq_true h; subst this; exact ⟨.str i, ⟨_, rfl⟩, fun _ _ => rfl⟩
    · cases h
  | .tup xs, u, h => by
    unfold repB at h
    split at h
    · rename_i a
      split at h
      · rename_i c od its n sl q
        simp only [Bool.and_eq_true, decide_eq_true_eq] at h
        obtain ⟨rfl, h2, h4, h3⟩ := h
        obtain ⟨vs, r1, r2⟩ := repBL_ok xs _ h3
        exact ⟨.ref a, rfl, fun β H => ⟨a, vs, rfl, .inr ⟨.inr ⟨_, its, n, q, rfl, rfl, h2, r1⟩, tk_no (by simpa using h4) (r2 β H)⟩, r2 β H⟩⟩
      · cases h
    · cases h
  | .rol xs, u, h => by
    unfold repB at h
    split at h
    · rename_i a
      split at h
      · rename_i c its n sl q
        simp only [Bool.and_eq_true, decide_eq_true_eq] at h
        obtain ⟨rfl, h2, h3⟩ := h
        obtain ⟨vs, r1, r2⟩ := repBL_ok xs _ h3
        exact ⟨.ref a, rfl, fun β H => ⟨a, vs, rfl, .inr ⟨_, its, n, q, rfl, rfl, rfl, h2, r1⟩, r2 β H⟩⟩
      · cases h
    · cases h
  | .ref _, u, h => by unfold repB at h; cases h
theorem repBL_ok {K : PySem.W.Frag} : ∀ (ds : List D) (us : List Value), repBL K ds us = true → ∃ vs, Vals vs us ∧ ∀ β H, RepL K β H ds vs
  | [], us, h => by
    unfold repBL at h
    rw [List.isEmpty_iff.mp h]
    exact ⟨[], .nil, fun _ _ => rfl⟩
  | d :: ds, us, h => by
    unfold repBL at h
    split at h
    · rename_i u us
      simp only [Bool.and_eq_true] at h
      obtain ⟨v, r1, r2⟩ := repB_ok d u h.1
      obtain ⟨vs, r3, r4⟩ := repBL_ok ds us h.2
      exact ⟨v :: vs, .cons r1 r3, fun β H => ⟨v, vs, rfl, r2 β H, r4 β H⟩⟩
    · cases h
end
def csIn (cs : List (Str × D)) (K : PySem.W.Frag) : Bool := cs.all fun p => match PySem.W.nsIn K mainGlobals p.1 with
  | some (some u) => repB K p.2 u
  | _ => false
def faOf (fr : List Str) (fes : List Fe) : List He.Fa := fr.map He.Fa.free ++ fes.map fun e => He.Fa.glo e.nm
section
variable {P : Program} {w : World} {K : PySem.W.Frag} {h : Heap} {mg : Str → Option Value} {fr : List Str} {fes : List Fe} {cs : List (Str × D)} {n : Nat}
theorem csIn_ok (X : K.In h) (G : h.Ns mainGlobals mg) (c : csIn cs K = true) : ∀ p, p ∈ cs → ∃ (v : V) (u : Value), mg p.1 = some u ∧ RelV v u ∧ ∀ β H, Rep K β H p.2 v := fun p hp => by
  have h1 := List.all_eq_true.mp c p hp
  split at h1
  · rename_i u q
    obtain ⟨v, r1, r2⟩ := repB_ok _ _ h1
    exact ⟨v, u, PySem.W.mg_of X G q, r1, r2⟩
  · cases h1
theorem all_ok (X : K.In h) (G : h.Ns mainGlobals mg) (c : He.SaysD (faOf fr fes) (fes.map Fe.dd) K) (cc : csIn cs K = true)
    (nd : (fes.map (·.nm)).Nodup) (ck : fes.all (ckF fr (fnsOf fes) cs) = true) :
    ∀ (k : Nat) (e : Fe), e ∈ fes → ∃ fd, mg e.nm = some (.ref (He.ga K e.nm)) ∧ PySem.W.keepIn K (.ref (He.ga K e.nm)) = true ∧ Binds K fd e.ps [] ∧ (∀ base, FnG P w K mg base k (He.ga K e.nm) fd e.ps (spOf K (callF (tabOf fes) n k) e.nm e.ps.length)) ∧ e.ps.length = e.np ∧
      ∀ (s : Shared) (us : List Value), us.length = e.ps.length → BindsTo s fd ⟨us, []⟩ (e.ps.zip us) := by
  have F : ∀ e : Fe, e ∈ fes → ∃ fd, FunD K e.on e.on (defArgs e.st) (defBody e.st) (defScope e.st) [] [] (He.ga K e.nm) fd := fun e he =>
    c.defs (d := e.dd) (List.mem_map.mpr ⟨e, he, rfl⟩)
  have hfr : ∀ x, x ∈ fr → mg x = none := fun x hx => He.free_ok X G (c.facts (f := .free x) (List.mem_append_left _ (List.mem_map.mpr ⟨x, hx, rfl⟩)))
  have hglo : ∀ e : Fe, e ∈ fes → mg e.nm = some (.ref (He.ga K e.nm)) := fun e he => He.glo_ok X G (c.facts (f := .glo e.nm) (List.mem_append_right _ (List.mem_map.mpr ⟨e, he, rfl⟩)))
  intro k
  induction k with
  | zero =>
    intro e he
    obtain ⟨fd, hF⟩ := F e he
    have hc := List.all_eq_true.mp ck e he
    obtain ⟨b1, b2⟩ := ckF_binds hc hF
    have hpl : e.ps.length = e.np := by
      simp only [ckF, Bool.and_eq_true, decide_eq_true_eq] at hc
      unfold Fe.ps
      rw [List.length_take]
      omega
    exact ⟨fd, hglo e he, hF.kp, b1, fun base => ⟨fun _ _ _ _ ⟨_, _, _, _, _, _, _, _, z, _⟩ => by simp [callF] at z, fun _ _ _ _ _ _ _ _ _ _ _ _ _ _ ⟨_, _, _, _, _, _, _, _, z, _⟩ => by simp [callF] at z⟩, hpl, b2⟩
  | succ k ih =>
    intro e he
    obtain ⟨fd, hF⟩ := F e he
    have hc := List.all_eq_true.mp ck e he
    obtain ⟨b1, b2⟩ := ckF_binds hc hF
    have hpl : e.ps.length = e.np := by
      simp only [ckF, Bool.and_eq_true, decide_eq_true_eq] at hc
      unfold Fe.ps
      rw [List.length_take]
      omega
    refine ⟨fd, hglo e he, hF.kp, b1, fun base => ckF_ok hc (lookup_tab nd he) hF hfr (fun p hp => ?_) (csIn_ok X G cc), hpl, b2⟩
    obtain ⟨e', he', rfl⟩ := List.mem_map.mp hp
    obtain ⟨fd', q1, q2, q3, q4, q5, _⟩ := ih e' he'
    exact ⟨_, fd', e'.ps, q1, q2, q3, q4 base, q5⟩
end
/-! ### the law -/
theorem rol_rep {K : PySem.W.Frag} {H : Hp} {a : Addr} {ns : List Int} (h : SqF K H a (ns.map V.int)) : Rep K [] H (.rol (ns.map .int)) (.ref a) := by
  refine ⟨a, _, rfl, h, ?_⟩
  clear h
  induction ns with
  | nil => rfl
  | cons x xs ih => exact ⟨.int x, _, rfl, rfl, ih⟩
theorem SqF.only {K : PySem.W.Frag} {H : Hp} {a : Addr} {xs : List V} (hO : Only H) (h : SqL K H a xs) : SqF K H a xs := by
  rcases h with (h | ⟨o, h⟩) | h
  · rcases hO a with z | ⟨o, ys, z⟩
    · rw [h] at z; cases z
    · rw [h] at z; cases z
  · exact .inl ⟨o, h⟩
  · exact .inr h
/-- what is told of the top -/
abbrev hkOf (fr : List Str) (fes : List Fe) (cs : List (Str × D)) : PySem.W.Hook := He.hookX 5 (faOf fr fes) (fes.map Fe.dd) [] [] (csIn cs)
/-- what a law's def is to do, by the core alone -/
def LawOk (fes : List Fe) (n k m : Nat) : Prop := ∀ ns : List Int, ns.length ≤ m → ∃ st', callF (tabOf fes) n k (Str.ofString "law") [.rol (ns.map .int)] [] = some (.bl true, st')
theorem law_F {P : Program} {fr : List Str} {fes : List Fe} {cs : List (Str × D)} {n k m : Nat} {x : Str} {e : Fe} (he : e ∈ fes) (hn : e.nm = Str.ofString "law") (hps : e.ps = [x]) (nd : (fes.map (·.nm)).Nodup) (ck : fes.all (ckF fr (fnsOf fes) cs) = true) (L : LawOk fes n k m) :
    ∀ (w : World) (mg : Str → Option Value) (fa : Addr) (h : Heap), (hkOf fr fes cs).says w h → h.Ns mainGlobals mg → mg (Str.ofString "law") = some (.ref fa) →
      ∃ (K : PySem.W.Frag) (fd : FuncData) (sp : Sp), K.In h ∧ (∀ (s : Shared) (u : Value), BindsTo s fd ⟨[u], []⟩ [(x, u)]) ∧
        (∀ (H : Hp) (a : Addr) (ns : List Int), ns.length ≤ m → Only H → SqL K H a (ns.map V.int) → sp [.ref a] H (fun v _ => v = .bl true) fun _ _ _ => False) ∧
        ∀ base : Heap, K.In base → base.Ns mainGlobals mg → FnG P w K mg base k fa fd [x] sp := by
  intro w mg fa h ⟨K, KX, c⟩ G hmg
  obtain ⟨fd, q1, _, _, q4, _, q6⟩ := all_ok (P := P) (w := w) (n := n) KX G c.t.d c.more nd ck k e he
  have ea : fa = He.ga K e.nm := by
    have := hmg.symm.trans (hn ▸ q1)
    cases this; rw [hn]
  refine ⟨K, fd, spOf K (callF (tabOf fes) n k) e.nm 1, KX, fun s u => ?_, fun H a ns hl hO hS => ?_, fun base _ _ => ?_⟩
  · have := q6 s [u] (by rw [hps]; rfl)
    rw [hps] at this
    exact this
  · obtain ⟨st', hc⟩ := L ns hl
    refine ⟨[], [], [.rol (ns.map .int)], .bl true, st', ⟨rfl, .nil, fun n a o h1 _ => by simp at h1⟩, ⟨_, _, rfl, rol_rep (SqF.only hO hS), rfl⟩, rfl, by rw [hn]; exact hc, fun v β' H' _ _ r => r⟩
  · have q := q4 base
    rw [hps] at q
    rw [ea]
    exact q
end Mw

set_option Elab.async false
set_option linter.all false
set_option autoImplicit false
set_option maxRecDepth 100000
/-! PyW: what core text does, by its weakest precondition. -/
namespace Mw
open PySem
def dicOf (x y : RV) (st : Sto) : Option (RV × Sto) := match x with
  | .val d => if keyOk d then some (.val (.ref (mat y st).2.length), (mat y st).2 ++ [.dic false [(d, (mat y st).1)]]) else none
  | _ => none
def ditOf (x y : RV) (st : Sto) : Option (RV × Sto) := match x with
  | .val d => if tkOk d then some (.val (.ref (mat y st).2.length), (mat y st).2 ++ [.dit false [(d, (mat y st).1)]]) else none
  | _ => none
section
variable {C : Call} {ρ : Env} {st : Sto} {n : Nat}
def ok2 {α β : Type} (x : Option (α × β)) (Q : α → β → Prop) : Prop := match x with
  | some (a, b) => Q a b
  | none => False
def okO {α : Type} (x : Option α) (Q : α → Prop) : Prop := match x with
  | some a => Q a
  | none => False
@[simp] theorem okO_none {α : Type} {Q : α → Prop} : okO none Q ↔ False := Iff.rfl
@[simp] theorem okO_some {α : Type} {a : α} {Q : α → Prop} : okO (some a) Q ↔ Q a := Iff.rfl
@[simp] theorem okO_map {α β : Type} {x : Option α} {f : α → β} {Q : β → Prop} : okO (x.map f) Q ↔ okO x fun a => Q (f a) := by cases x <;> rfl
@[simp] theorem okO_ite {α : Type} {c : Prop} [Decidable c] {x : Option α} {Q : α → Prop} : okO (if c then x else none) Q ↔ c ∧ okO x Q := by
  by_cases h : c <;> simp [h]
def ok3 {α β γ : Type} (x : Option (α × β × γ)) (Q : α → β → γ → Prop) : Prop := match x with
  | some (a, b, c) => Q a b c
  | none => False
@[simp] theorem ok2_none {α β : Type} {Q : α → β → Prop} : ok2 none Q ↔ False := Iff.rfl
@[simp] theorem ok2_some {α β : Type} {a : α} {b : β} {Q : α → β → Prop} : ok2 (some (a, b)) Q ↔ Q a b := Iff.rfl
@[simp] theorem ok3_none {α β γ : Type} {Q : α → β → γ → Prop} : ok3 none Q ↔ False := Iff.rfl
@[simp] theorem ok3_some {α β γ : Type} {a : α} {b : β} {c : γ} {Q : α → β → γ → Prop} : ok3 (some (a, b, c)) Q ↔ Q a b c := Iff.rfl
theorem ok2_ex {α β : Type} {x : Option (α × β)} {Q : α → β → Prop} : ok2 x Q ↔ ∃ a b, x = some (a, b) ∧ Q a b := by
  rcases x with _ | ⟨a, b⟩
  · simp
  · constructor
    · exact fun q => ⟨a, b, rfl, q⟩
    · rintro ⟨_, _, ⟨⟩, q⟩; exact q
theorem ok3_ex {α β γ : Type} {x : Option (α × β × γ)} {Q : α → β → γ → Prop} : ok3 x Q ↔ ∃ a b c, x = some (a, b, c) ∧ Q a b c := by
  rcases x with _ | ⟨a, b, c⟩
  · simp
  · constructor
    · exact fun q => ⟨a, b, c, rfl, q⟩
    · rintro ⟨_, _, _, ⟨⟩, q⟩; exact q
def wE (C : Call) (c : CE) (ρ : Env) (st : Sto) (Q : RV → Sto → Prop) : Prop := ok2 (ev C c ρ st) Q
def wA (C : Call) (c : CEs) (ρ : Env) (st : Sto) (Q : List D → Sto → Prop) : Prop := ok2 (evA C c ρ st) Q
def wR (C : Call) (c : CEs) (ρ : Env) (st : Sto) (Q : List RV → Sto → Prop) : Prop := ok2 (evR C c ρ st) Q
def wP (C : Call) (c : CEs) (ρ : Env) (st : Sto) (Q : Option Int → Sto → Prop) : Prop := ok2 (evP C c ρ st) Q
def wC (C : Call) (c : CEs) (ρ : Env) (st : Sto) (Q : Bool → Sto → Prop) : Prop := ok2 (evC C c ρ st) Q
def wV (C : Call) (c : Src) (ρ : Env) (st : Sto) (Q : SV → Sto → Prop) : Prop := ok2 (evS C c ρ st) Q
def wS (C : Call) (n : Nat) (c : CS) (ρ : Env) (st : Sto) (Q : Fl → Env → Sto → Prop) : Prop := ok3 (exS C n c ρ st) Q
def wB (C : Call) (n : Nat) (c : CSs) (ρ : Env) (st : Sto) (Q : Fl → Env → Sto → Prop) : Prop := ok3 (exs C n c ρ st) Q
@[simp] theorem wE_bad {Q} : wE C .bad ρ st Q ↔ False := by simp [wE, ev]
@[simp] theorem wE_var {i : Nat} {Q} : wE C (.var i) ρ st Q ↔ ∃ d, ρ[i]? = some (some d) ∧ Q (.val d) st := by
  unfold wE; simp only [ev]
  rcases ρ[i]? with _ | (_ | d) <;> simp
@[simp] theorem wE_cst {d : D} {Q} : wE C (.cst d) ρ st Q ↔ Q (.val d) st := by
  unfold wE; simp only [ev]; simp
@[simp] theorem wE_bin {o : Op} {a b : CE} {Q} : wE C (.bin o a b) ρ st Q ↔ wE C a ρ st fun x s1 => wE C b ρ s1 fun y s2 => okO (binApp s2 o x y) fun r => Q r s2 := by
  unfold wE; simp only [ev]
  rcases ev C a ρ st with _ | ⟨x, s1⟩ <;> simp
  rcases ev C b ρ s1 with _ | ⟨y, s2⟩ <;> simp
  rcases binApp s2 o x y with _ | r <;> simp
@[simp] theorem wE_neg {a : CE} {Q} : wE C (.neg a) ρ st Q ↔ wE C a ρ st fun x s1 => ∃ i, x = .val (.int i) ∧ Q (.val (.int (-i))) s1 := by
  unfold wE; simp only [ev]
  rcases ev C a ρ st with _ | ⟨x, s1⟩ <;> simp
  split <;> simp_all
@[simp] theorem wE_not {a : CE} {Q} : wE C (.not a) ρ st Q ↔ wE C a ρ st fun x s1 => okO (truth s1 x) fun b => Q (.val (.bl (!b))) s1 := by
  unfold wE; simp only [ev]
  rcases ev C a ρ st with _ | ⟨x, s1⟩ <;> simp
  rcases truth s1 x with _ | (_ | _) <;> simp
@[simp] theorem wE_cmp {o : Cm} {a b : CE} {Q} : wE C (.cmp o a b) ρ st Q ↔ wE C a ρ st fun x s1 => wE C b ρ s1 fun y s2 => okO (cmpApp s2 o x y) fun r => Q (.val (.bl r)) s2 := by
  unfold wE; simp only [ev]
  rcases ev C a ρ st with _ | ⟨x, s1⟩ <;> simp
  rcases ev C b ρ s1 with _ | ⟨y, s2⟩ <;> simp
  rcases cmpApp s2 o x y with _ | (_ | _) <;> simp
@[simp] theorem wE_chain {o o' : Cm} {a b c : CE} {Q} : wE C (.chain o o' a b c) ρ st Q ↔ wE C a ρ st fun x s1 => wE C b ρ s1 fun y s2 => okO (cmpApp s2 o x y) fun r => if r = true then wE C c ρ s2 fun z s3 => okO (cmpApp s3 o' y z) fun r2 => Q (.val (.bl r2)) s3 else Q (.val (.bl false)) s2 := by
  unfold wE; simp only [ev]
  rcases ev C a ρ st with _ | ⟨x, s1⟩ <;> simp
  rcases ev C b ρ s1 with _ | ⟨y, s2⟩ <;> simp
  rcases cmpApp s2 o x y with _ | (_ | _) <;> simp
  rcases ev C c ρ s2 with _ | ⟨z, s3⟩ <;> simp
  rcases cmpApp s3 o' y z with _ | (_ | _) <;> simp
@[simp] theorem wE_and {a b : CE} {Q} : wE C (.and a b) ρ st Q ↔ wE C a ρ st fun x s1 => okO (truth s1 x) fun t => if t = true then wE C b ρ s1 Q else Q x s1 := by
  unfold wE; simp only [ev]
  rcases ev C a ρ st with _ | ⟨x, s1⟩ <;> simp
  rcases truth s1 x with _ | (_ | _) <;> simp
@[simp] theorem wE_or {a b : CE} {Q} : wE C (.or a b) ρ st Q ↔ wE C a ρ st fun x s1 => okO (truth s1 x) fun t => if t = true then Q x s1 else wE C b ρ s1 Q := by
  unfold wE; simp only [ev]
  rcases ev C a ρ st with _ | ⟨x, s1⟩ <;> simp
  rcases truth s1 x with _ | (_ | _) <;> simp
@[simp] theorem wE_ite {c a b : CE} {Q} : wE C (.ite c a b) ρ st Q ↔ wE C c ρ st fun x s1 => okO (truth s1 x) fun t => if t = true then wE C a ρ s1 Q else wE C b ρ s1 Q := by
  unfold wE; simp only [ev]
  rcases ev C c ρ st with _ | ⟨x, s1⟩ <;> simp
  rcases truth s1 x with _ | (_ | _) <;> simp
@[simp] theorem wE_tup {es : CEs} {Q} : wE C (.tup es) ρ st Q ↔ wA C es ρ st fun ds s1 => Q (.val (.tup ds)) s1 := by
  unfold wE wA; simp only [ev]
  rcases evA C es ρ st with _ | ⟨x, s1⟩ <;> simp
@[simp] theorem wE_lst {es : CEs} {Q} : wE C (.lst es) ρ st Q ↔ wA C es ρ st fun ds s1 => Q (.tmp ds) s1 := by
  unfold wE wA; simp only [ev]
  rcases evA C es ρ st with _ | ⟨x, s1⟩ <;> simp
@[simp] theorem wE_dic0 {Q} : wE C .dic0 ρ st Q ↔ Q (.val (.ref st.length)) (st ++ [.dic false []]) := by
  unfold wE; simp only [ev, ok2_some]
@[simp] theorem wE_dit0 {Q} : wE C .dit0 ρ st Q ↔ Q (.val (.ref st.length)) (st ++ [.dit false []]) := by
  unfold wE; simp only [ev, ok2_some]
@[simp] theorem wE_dic1 {a b : CE} {Q} : wE C (.dic1 a b) ρ st Q ↔ wE C a ρ st fun x s1 => wE C b ρ s1 fun y s2 => okO (dicOf x y s2) fun r => Q r.1 r.2 := by
  unfold wE; simp only [ev]
  rcases ev C a ρ st with _ | ⟨x, s1⟩ <;> simp
  rcases ev C b ρ s1 with _ | ⟨y, s2⟩ <;> simp
  cases x with
  | tmp _ => simp [dicOf]
  | val d =>
    simp only [dicOf]
    split <;> simp
@[simp] theorem wE_dit1 {a b : CE} {Q} : wE C (.dit1 a b) ρ st Q ↔ wE C a ρ st fun x s1 => wE C b ρ s1 fun y s2 => okO (ditOf x y s2) fun r => Q r.1 r.2 := by
  unfold wE; simp only [ev]
  rcases ev C a ρ st with _ | ⟨x, s1⟩ <;> simp
  rcases ev C b ρ s1 with _ | ⟨y, s2⟩ <;> simp
  cases x with
  | tmp _ => simp [ditOf]
  | val d =>
    simp only [ditOf]
    split <;> simp
@[simp] theorem wE_idx {a b : CE} {Q} : wE C (.idx a b) ρ st Q ↔ wE C a ρ st fun x s1 => wE C b ρ s1 fun y s2 => okO (idxApp s2 x y) fun r => Q r s2 := by
  unfold wE; simp only [ev]
  rcases ev C a ρ st with _ | ⟨x, s1⟩ <;> simp
  rcases ev C b ρ s1 with _ | ⟨y, s2⟩ <;> simp
  rcases idxApp s2 x y with _ | r <;> simp
@[simp] theorem wE_sli {a : CE} {lo hi : CEs} {Q} : wE C (.sli a lo hi) ρ st Q ↔ wE C a ρ st fun x s1 => wP C lo ρ s1 fun l s2 => wP C hi ρ s2 fun h s3 => okO (sliApp s3 x l h) fun r => Q r s3 := by
  unfold wE wP; simp only [ev]
  rcases ev C a ρ st with _ | ⟨x, s1⟩ <;> simp
  rcases evP C lo ρ s1 with _ | ⟨l, s2⟩ <;> simp
  rcases evP C hi ρ s2 with _ | ⟨h, s3⟩ <;> simp
  rcases sliApp s3 x l h with _ | r <;> simp
@[simp] theorem wE_rev {a : CE} {Q} : wE C (.rev a) ρ st Q ↔ wE C a ρ st fun x s1 => okO (revApp s1 x) fun r => Q r s1 := by
  unfold wE; simp only [ev]
  rcases ev C a ρ st with _ | ⟨x, s1⟩ <;> simp
  rcases revApp s1 x with _ | r <;> simp
@[simp] theorem wE_stp {a b : CE} {Q} : wE C (.stp a b) ρ st Q ↔ wE C a ρ st fun x s1 => wE C b ρ s1 fun y s2 => okO (stpApp s2 x y) fun r => Q r s2 := by
  unfold wE; simp only [ev]
  rcases ev C a ρ st with _ | ⟨x, s1⟩ <;> simp
  rcases ev C b ρ s1 with _ | ⟨y, s2⟩ <;> simp
  rcases stpApp s2 x y with _ | r <;> simp
@[simp] theorem wE_mm {mx : Bool} {a b : CE} {Q} : wE C (.mm mx a b) ρ st Q ↔ wE C a ρ st fun x s1 => wE C b ρ s1 fun y s2 => okO (mmApp mx s2 x y) fun r => Q r s2 := by
  unfold wE; simp only [ev]
  rcases ev C a ρ st with _ | ⟨x, s1⟩ <;> simp
  rcases ev C b ρ s1 with _ | ⟨y, s2⟩ <;> simp
  rcases mmApp mx s2 x y with _ | r <;> simp
@[simp] theorem wE_los {tp : Bool} {a : CE} {Q} : wE C (.los tp a) ρ st Q ↔ wE C a ρ st fun rs s1 => okO (losOf tp rs) fun r => Q r s1 := by
  unfold wE; simp only [ev]
  rcases ev C a ρ st with _ | ⟨x, s1⟩ <;> simp
  rcases losOf tp x with _ | r <;> simp
@[simp] theorem wE_call {f : Str} {es : CEs} {Q} : wE C (.call f es) ρ st Q ↔ wA C es ρ st fun ds s1 => ok2 (C f ds s1) fun d s2 => Q (.val d) s2 := by
  unfold wE wA; simp only [ev]
  rcases evA C es ρ st with _ | ⟨x, s1⟩ <;> simp
  rcases C f x s1 with _ | ⟨r, s2⟩ <;> simp
@[simp] theorem wE_bi {b : BI} {es : CEs} {Q} : wE C (.bi b es) ρ st Q ↔ wR C es ρ st fun rs s1 => okO (biApp s1 b rs) fun r => Q r s1 := by
  unfold wE wR; simp only [ev]
  rcases evR C es ρ st with _ | ⟨x, s1⟩ <;> simp
  rcases biApp s1 b x with _ | r <;> simp
@[simp] theorem wE_mt {m : MT} {o : CE} {es : CEs} {Q} : wE C (.mt m o es) ρ st Q ↔ wE C o ρ st fun x s1 => wR C es ρ s1 fun rs s2 => kdOf s1 x = kdOf s2 x ∧ ok2 (mtApp s2 m x rs) Q := by
  unfold wE wR; simp only [ev]
  rcases ev C o ρ st with _ | ⟨x, s1⟩ <;> simp
  rcases evR C es ρ s1 with _ | ⟨rs, s2⟩ <;> simp
  split <;> simp_all
@[simp] theorem wE_isi {a : CE} {t : Ty} {Q} : wE C (.isi a t) ρ st Q ↔ wE C a ρ st fun x s1 => okO (isTy s1 t x) fun b => Q (.val (.bl b)) s1 := by
  unfold wE; simp only [ev]
  rcases ev C a ρ st with _ | ⟨x, s1⟩ <;> simp
  rcases isTy s1 t x with _ | (_ | _) <;> simp
@[simp] theorem wE_comp {t : Tgt} {s : Src} {c : CEs} {e : CE} {own : List Nat} {Q} : wE C (.comp t s c e own) ρ st Q ↔ wV C s ρ st fun v s1 => (v.big = false ∨ szOk v.xs.length = true) ∧ ok2 (compL v.ws (fun d => setT t d (wipeD ρ own)) (fun σ st => evC C c σ st) (fun σ st => ev C e σ st) v.xs s1) fun xs s2 => Q (.tmp xs) s2 := by
  unfold wE wV; simp only [ev]
  rcases evS C s ρ st with _ | ⟨v, s1⟩ <;> simp
  split
  · rename_i h
    simp only [h, true_and]
    cases compL v.ws (fun d => setT t d (wipeD ρ own)) (fun σ st => evC C c σ st) (fun σ st => ev C e σ st) v.xs s1 with
    | none => simp
    | some p => simp [ok2]
  · simp_all
@[simp] theorem wA_nil {Q} : wA C .nil ρ st Q ↔ Q [] st := by simp [wA, evA]
@[simp] theorem wA_cons {e : CE} {es : CEs} {Q} : wA C (.cons e es) ρ st Q ↔ wE C e ρ st fun r s1 => wA C es ρ (mat r s1).2 fun ds s2 => Q ((mat r s1).1 :: ds) s2 := by
  unfold wA wE; simp only [evA]
  rcases ev C e ρ st with _ | ⟨r, s1⟩ <;> simp
  rcases evA C es ρ (mat r s1).2 with _ | ⟨ds, s2⟩ <;> simp
@[simp] theorem wR_nil {Q} : wR C .nil ρ st Q ↔ Q [] st := by simp [wR, evR]
@[simp] theorem wR_cons {e : CE} {es : CEs} {Q} : wR C (.cons e es) ρ st Q ↔ wE C e ρ st fun r s1 => wR C es ρ s1 fun ds s2 => Q (r :: ds) s2 := by
  unfold wR wE; simp only [evR]
  rcases ev C e ρ st with _ | ⟨r, s1⟩ <;> simp
  rcases evR C es ρ s1 with _ | ⟨ds, s2⟩ <;> simp
@[simp] theorem wP_nil {Q} : wP C .nil ρ st Q ↔ Q none st := by simp [wP, evP]
@[simp] theorem wP_one {e : CE} {Q} : wP C (.cons e .nil) ρ st Q ↔ wE C e ρ st fun r s1 => ∃ i, r = .val (.int i) ∧ Q (some i) s1 := by
  unfold wP wE; simp only [evP]
  rcases ev C e ρ st with _ | ⟨r, s1⟩ <;> simp
  split <;> simp_all
@[simp] theorem wV_ex {e : CE} {Q} : wV C (.ex e) ρ st Q ↔ wE C e ρ st fun x s1 => okO (srcOf s1 x) fun v => Q v s1 := by
  unfold wV wE; simp only [evS]
  rcases ev C e ρ st with _ | ⟨r, s1⟩ <;> simp
  rcases srcOf s1 r with _ | v <;> simp
@[simp] theorem wV_rng {es : CEs} {Q} : wV C (.rng es) ρ st Q ↔ wR C es ρ st fun x s1 => okO (rngOf x) fun v => Q v s1 := by
  unfold wV wR; simp only [evS]
  rcases evR C es ρ st with _ | ⟨r, s1⟩ <;> simp
  rcases rngOf r with _ | v <;> simp
@[simp] theorem wV_enm {e : CE} {Q} : wV C (.enm e) ρ st Q ↔ wE C e ρ st fun x s1 => okO (srcSeq s1 x) fun v => Q ⟨enmD 0 v.xs, v.ws, false⟩ s1 := by
  unfold wV wE; simp only [evS]
  rcases ev C e ρ st with _ | ⟨r, s1⟩ <;> simp
  rcases srcSeq s1 r with _ | v <;> simp
@[simp] theorem wV_zp {es : CEs} {Q} : wV C (.zp es) ρ st Q ↔ wR C es ρ st fun x s1 => okO (zpOf s1 x) fun v => Q v s1 := by
  unfold wV wR; simp only [evS]
  rcases evR C es ρ st with _ | ⟨r, s1⟩ <;> simp
  rcases zpOf s1 r with _ | v <;> simp
@[simp] theorem wV_dk {e : CE} {Q} : wV C (.dk e) ρ st Q ↔ wE C e ρ st fun x s1 => okO (dkOf s1 x) fun v => Q v.1 v.2 := by
  unfold wV wE; simp only [evS]
  rcases ev C e ρ st with _ | ⟨r, s1⟩ <;> simp
  rcases dkOf s1 r with _ | ⟨v, s2⟩ <;> simp
/-! ### statements -/
@[simp] theorem wS_asg {t : Tgt} {e : CE} {Q} : wS C n (.asg t e) ρ st Q ↔ wE C e ρ st fun r s1 => ∃ ρ', setT t (mat r s1).1 ρ = some ρ' ∧ Q .nx ρ' (mat r s1).2 := by
  unfold wS wE; simp only [exS]
  rcases ev C e ρ st with _ | ⟨r, s1⟩ <;> simp
  rcases setT t (mat r s1).1 ρ with _ | r <;> simp
@[simp] theorem wS_expr {e : CE} {Q} : wS C n (.expr e) ρ st Q ↔ wE C e ρ st fun _ s1 => Q .nx ρ s1 := by
  unfold wS wE; simp only [exS]
  rcases ev C e ρ st with _ | ⟨r, s1⟩ <;> simp
@[simp] theorem wS_ret {e : CE} {Q} : wS C n (.ret e) ρ st Q ↔ wE C e ρ st fun r s1 => Q (.rt (mat r s1).1) ρ (mat r s1).2 := by
  unfold wS wE; simp only [exS]
  rcases ev C e ρ st with _ | ⟨r, s1⟩ <;> simp
@[simp] theorem wS_retN {Q} : wS C n .retN ρ st Q ↔ Q (.rt .non) ρ st := by simp [wS, exS]
@[simp] theorem wS_pass {Q} : wS C n .pass ρ st Q ↔ Q .nx ρ st := by simp [wS, exS]
@[simp] theorem wS_brk {Q} : wS C n .brk ρ st Q ↔ Q .bk ρ st := by simp [wS, exS]
@[simp] theorem wS_cont {Q} : wS C n .cont ρ st Q ↔ Q .ct ρ st := by simp [wS, exS]
@[simp] theorem wS_bad {Q} : wS C n .bad ρ st Q ↔ False := by simp [wS, exS]
@[simp] theorem wS_ite {c : CE} {a b : CSs} {Q} : wS C n (.ite c a b) ρ st Q ↔ wE C c ρ st fun r s1 => okO (truth s1 r) fun t => if t = true then wB C n a ρ s1 Q else wB C n b ρ s1 Q := by
  unfold wS wE wB; simp only [exS, evT]
  rcases ev C c ρ st with _ | ⟨r, s1⟩ <;> simp
  rcases truth s1 r with _ | (_ | _) <;> simp
@[simp] theorem wS_aug {i : Nat} {o : Op} {e : CE} {Q} : wS C n (.aug i o e) ρ st Q ↔ ∃ d, ρ[i]? = some (some d) ∧ wE C e ρ st fun y s1 => ∃ a b, d = .int a ∧ y = .val (.int b) ∧ ((o = .add ∧ Q .nx (ρ.set i (some (.int (a + b)))) s1) ∨ (o = .sub ∧ Q .nx (ρ.set i (some (.int (a - b)))) s1)) := by
  unfold wS wE; simp only [exS]
  rcases ρ[i]? with _ | (_ | d) <;> simp
  rcases ev C e ρ st with _ | ⟨y, s1⟩ <;> simp
  split
  · rename_i a b
    split <;> simp_all
  · rename_i h
    constructor
    · simp
    · rintro ⟨a, rfl, b, rfl, _⟩
      exact (h _ _ rfl rfl).elim
@[simp] theorem wS_put {o i e : CE} {Q} : wS C n (.put o i e) ρ st Q ↔ wE C e ρ st fun r s1 => wE C o ρ (mat r s1).2 fun x s2 => wE C i ρ s2 fun y s3 => okO (putApp s3 x y (mat r s1).1) fun s4 => Q .nx ρ s4 := by
  unfold wS wE; simp only [exS]
  rcases ev C e ρ st with _ | ⟨r, s1⟩ <;> simp
  rcases ev C o ρ (mat r s1).2 with _ | ⟨x, s2⟩ <;> simp
  rcases ev C i ρ s2 with _ | ⟨y, s3⟩ <;> simp
  rcases putApp s3 x y (mat r s1).1 with _ | s4 <;> simp
@[simp] theorem wS_for {t : Tgt} {s : Src} {b : CSs} {Q} : wS C n (.for t s b) ρ st Q ↔ wV C s ρ st fun v s1 => ok3 (forL v.ws (fun d σ => setT t d σ) (fun σ st => exs C n b σ st) v.xs ρ s1) Q := by
  unfold wS wV; simp only [exS]
  rcases evS C s ρ st with _ | ⟨v, s1⟩ <;> simp
@[simp] theorem wS_while {c : CE} {b : CSs} {Q} : wS C n (.while c b) ρ st Q ↔ ok3 (whileL (fun σ st => evT C c σ st) (fun σ st => exs C n b σ st) n ρ st) Q := by
  unfold wS; simp only [exS]
@[simp] theorem wB_nil {Q} : wB C n .nil ρ st Q ↔ Q .nx ρ st := by simp [wB, exs]
theorem wB_cons {s : CS} {ss : CSs} {Q} : wB C n (.cons s ss) ρ st Q ↔ wS C n s ρ st fun f ρ1 s1 => match f with
    | .nx => wB C n ss ρ1 s1 Q
    | f => Q f ρ1 s1 := by
  unfold wB wS; simp only [exs]
  rcases exS C n s ρ st with _ | ⟨f, ρ1, s1⟩ <;> simp
  cases f <;> simp
end
end Mw

set_option Elab.async false
set_option linter.all false
set_option autoImplicit false
set_option maxRecDepth 100000
/-! PyW2: operators at values, the store behind a call, loops. -/
namespace Mw
open PySem
/-! ### plain values -/
mutual
def pd : D → PyData
  | .non => .none
  | .bl b => .bool b
  | .int i => .int i
  | .str s => .str s
  | .tup xs => .tuple (pdL xs)
  | .rol xs => .list (pdL xs)
  | .ref _ => .none
def pdL : List D → List PyData
  | [] => []
  | x :: xs => pd x :: pdL xs
end
def stOk (s : Str) : Bool := s.cps.all (· < 0x110000)
mutual
/-- plain within a depth -/
def pl : Nat → D → Bool
  | _, .non => true
  | _, .bl _ => true
  | _, .int _ => true
  | _, .str s => stOk s
  | k, .tup xs => match k with
    | 0 => false
    | k + 1 => plL k xs
  | k, .rol xs => match k with
    | 0 => false
    | k + 1 => plL k xs
  | _, .ref _ => false
def plL : Nat → List D → Bool
  | _, [] => true
  | k, x :: xs => pl k x && plL k xs
end
theorem pdL_map : ∀ xs : List D, pdL xs = xs.map pd
  | [] => rfl
  | x :: xs => by simp [pdL, pdL_map xs]
theorem plL_all : ∀ {k : Nat} {xs : List D}, plL k xs = true ↔ ∀ x ∈ xs, pl k x = true
  | k, [] => by simp [plL]
  | k, x :: xs => by simp [plL, plL_all (k := k) (xs := xs)]
mutual
theorem toPy_pd {st : Sto} : ∀ (k : Nat) (d : D), pl k d = true → toPy st k d = some (pd d)
  | 0, .non, h | k + 1, .non, h => by simp [toPy, pd]
  | 0, .bl _, h | k + 1, .bl _, h => by simp [toPy, pd]
  | 0, .int _, h | k + 1, .int _, h => by simp [toPy, pd]
  | 0, .str s, h | k + 1, .str s, h => by
    have : s.cps.all (· < 0x110000) = true := by simpa [pl, stOk] using h
    simp only [toPy, pd, this, if_true]
  | 0, .tup xs, h | 0, .rol xs, h => by simp [pl] at h
  | k + 1, .tup xs, h => by
    simp only [pl] at h
    simp only [toPy, pd, mapO_pd k xs h, Option.map_some]
  | k + 1, .rol xs, h => by
    simp only [pl] at h
    simp only [toPy, pd, mapO_pd k xs h, Option.map_some]
  | 0, .ref _, h | k + 1, .ref _, h => by simp [pl] at h
theorem mapO_pd {st : Sto} : ∀ (k : Nat) (xs : List D), plL k xs = true → mapO (toPy st k) xs = some (pdL xs)
  | k, [], h => rfl
  | k, x :: xs, h => by
    simp only [plL, Bool.and_eq_true] at h
    simp only [mapO, toPy_pd k x h.1, mapO_pd k xs h.2, pdL]
end
mutual
/-- no truth value within -/
def nb : D → Bool
  | .bl _ => false
  | .ref _ => false
  | .tup xs => nbL xs
  | .rol xs => nbL xs
  | _ => true
def nbL : List D → Bool
  | [] => true
  | x :: xs => nb x && nbL xs
end
theorem nbL_all : ∀ {xs : List D}, nbL xs = true ↔ ∀ x ∈ xs, nb x = true
  | [] => by simp [nbL]
  | x :: xs => by simp [nbL, nbL_all (xs := xs)]
theorem dec_eq {α : Type} [DecidableEq α] [BEq α] [LawfulBEq α] (a b : α) : (a == b) = decide (a = b) := by
  by_cases h : a = b
  · subst h; simp
  · rw [decide_eq_false h]; exact beq_eq_false_iff_ne.mpr h
mutual
theorem eqv_pd : ∀ (a b : D), nb a = true → nb b = true → PyData.eqv (pd a) (pd b) = decide (a = b)
  | .non, b, _, h => by
    cases b with
    | bl _ => cases h
    | ref _ => cases h
    | non => rfl
    | _ => simp [pd, PyData.eqv]
  | .bl _, b, h, _ => by cases h
  | .ref _, b, h, _ => by cases h
  | .int i, b, _, h => by
    cases b with
    | bl _ => cases h
    | ref _ => cases h
    | int j => simp only [pd, PyData.eqv, dec_eq, D.int.injEq]
    | _ => simp [pd, PyData.eqv]
  | .str s, b, _, h => by
    cases b with
    | bl _ => cases h
    | ref _ => cases h
    | str j => simp only [pd, PyData.eqv, dec_eq, D.str.injEq]
    | _ => simp [pd, PyData.eqv]
  | .tup xs, b, h1, h => by
    cases b with
    | bl _ => cases h
    | ref _ => cases h
    | tup ys =>
      simp only [nb] at h h1
      simp only [pd, PyData.eqv, eqvAll_pd xs ys h1 h, D.tup.injEq]
    | _ => simp [pd, PyData.eqv]
  | .rol xs, b, h1, h => by
    cases b with
    | bl _ => cases h
    | ref _ => cases h
    | rol ys =>
      simp only [nb] at h h1
      simp only [pd, PyData.eqv, eqvAll_pd xs ys h1 h, D.rol.injEq]
    | _ => simp [pd, PyData.eqv]
theorem eqvAll_pd : ∀ (a b : List D), nbL a = true → nbL b = true → PyData.eqvAll (pdL a) (pdL b) = decide (a = b)
  | [], b, _, h => by cases b <;> simp [pdL, PyData.eqvAll]
  | x :: xs, b, h1, h => by
    cases b with
    | nil => simp [pdL, PyData.eqvAll]
    | cons y ys =>
      simp only [nbL, Bool.and_eq_true] at h h1
      simp only [pdL, PyData.eqvAll, eqv_pd x y h1.1 h.1, eqvAll_pd xs ys h1.2 h.2, List.cons.injEq]
      by_cases e : x = y <;> by_cases e2 : xs = ys <;> simp [e, e2]
end
/-! ### operators -/
section
variable {st : Sto}
theorem pyEq_val {a b : D} (h1 : pl 60 a = true) (h2 : pl 60 b = true) (n1 : nb a = true) (n2 : nb b = true) : pyEq st (.val a) (.val b) = some (decide (a = b)) := by
  simp only [pyEq, pyEqD, orE, rvPy, toPy_pd 60 a h1, toPy_pd 60 b h2, eqv_pd a b n1 n2]
@[simp] theorem pyEq_int {a b : Int} : pyEq st (.val (.int a)) (.val (.int b)) = some (decide (a = b)) := by
  rw [pyEq_val rfl rfl rfl rfl]; simp
@[simp] theorem pyEq_bl {a b : Bool} : pyEq st (.val (.bl a)) (.val (.bl b)) = some (a == b) := by
  simp [pyEq, pyEqD, orE, rvPy, toPy, PyData.eqv]
theorem in_bls {b : Bool} (bs : List Bool) : inApp st (.val (.bl b)) (.tmp (bs.map .bl)) = some (bs.contains b) := by
  have h1 : mapO (toPy st 59) (bs.map D.bl) = some (bs.map PyData.bool) := by
    induction bs with
    | nil => rfl
    | cons x xs ih => simp only [List.map_cons, mapO, ih]; simp [toPy]
  have h2 : toPy st 60 (.bl b) = some (.bool b) := by simp [toPy]
  simp only [inApp, rvPy, h1, h2]
  congr 1
  induction bs with
  | nil => rfl
  | cons x xs ih =>
    have ih' := ih (by
      clear ih h1
      induction xs with
      | nil => rfl
      | cons x xs ih => simp only [List.map_cons, mapO, ih]; simp [toPy])
    simp only [List.map_cons, List.any_cons, ih', List.contains_cons, PyData.eqv]
    cases x <;> cases b <;> rfl
theorem pyEq_str {a b : Str} (h1 : stOk a = true) (h2 : stOk b = true) : pyEq st (.val (.str a)) (.val (.str b)) = some (decide (a = b)) := by
  rw [pyEq_val (by simpa [pl] using h1) (by simpa [pl] using h2) rfl rfl]; simp
theorem toPy_ref {k n : Nat} {xs : List D} (h : st[n]? = some (.lst xs)) : toPy st (k + 1) (.ref n) = (mapO (toPy st k) xs).map .list := by
  simp only [toPy, h]
theorem rvPy_list {x : RV} {xs : List D} (h : listOf st x = some xs) (hp : plL 59 xs = true) : rvPy st x = some (.list (pdL xs)) := by
  unfold listOf at h
  split at h
  · simp only [Option.some.injEq] at h; subst h
    simp only [rvPy, mapO_pd 59 _ hp, Option.map_some]
  · simp only [Option.some.injEq] at h; subst h
    exact toPy_pd 60 (.rol _) (by simpa [pl] using hp)
  · split at h
    · rename_i e
      simp only [Option.some.injEq] at h; subst h
      exact (toPy_ref e).trans (by rw [mapO_pd 59 _ hp]; rfl)
    · cases h
  · cases h
theorem pyEq_list {x y : RV} {xs ys : List D} (h : listOf st x = some xs) (h' : listOf st y = some ys) (hp : plL 59 xs = true) (hp' : plL 59 ys = true) (n1 : nbL xs = true) (n2 : nbL ys = true) : pyEq st x y = some (decide (xs = ys)) := by
  simp only [pyEq, pyEqD, orE, rvPy_list h hp, rvPy_list h' hp', PyData.eqv, eqvAll_pd xs ys n1 n2]
theorem any_pd {d : D} {xs : List D} (n1 : nb d = true) (n2 : nbL xs = true) : ((pdL xs).any fun q => PyData.eqv q (pd d)) = decide (d ∈ xs) := by
  rw [pdL_map, List.any_map]
  have n2' := nbL_all.mp n2
  clear n2
  induction xs with
  | nil => rfl
  | cons x xs ih =>
    rw [List.any_cons, ih fun y hy => n2' y (List.mem_cons_of_mem _ hy)]
    simp only [Function.comp_apply, eqv_pd x d (n2' x (List.mem_cons_self ..)) n1, List.mem_cons]
    by_cases e : x = d
    · simp [e]
    · have : d ≠ x := Ne.symm e
      simp [e, this]
theorem in_tup {d : D} {xs : List D} (h1 : pl 60 d = true) (h2 : plL 59 xs = true) (n1 : nb d = true) (n2 : nbL xs = true) : inApp st (.val d) (.val (.tup xs)) = some (decide (d ∈ xs)) := by
  simp only [inApp, rvPy, toPy_pd 60 d h1, mapO_pd 59 xs h2, any_pd n1 n2]
theorem in_tmp {d : D} {xs : List D} (h1 : pl 60 d = true) (h2 : plL 59 xs = true) (n1 : nb d = true) (n2 : nbL xs = true) : inApp st (.val d) (.tmp xs) = some (decide (d ∈ xs)) := by
  simp only [inApp, rvPy, toPy_pd 60 d h1, mapO_pd 59 xs h2, any_pd n1 n2]
@[simp] theorem bin_add {a b : Int} : binApp st .add (.val (.int a)) (.val (.int b)) = some (.val (.int (a + b))) := rfl
@[simp] theorem bin_sub {a b : Int} : binApp st .sub (.val (.int a)) (.val (.int b)) = some (.val (.int (a - b))) := rfl
@[simp] theorem bin_mul {a b : Int} : binApp st .mul (.val (.int a)) (.val (.int b)) = if mulOk a b = true then some (.val (.int (a * b))) else none := rfl
@[simp] theorem bin_mod {a b : Int} : binApp st .mod (.val (.int a)) (.val (.int b)) = if 0 < b then some (.val (.int (a % b))) else none := by
  show (intOp .mod a b).map _ = _
  unfold intOp
  by_cases h : 0 < b <;> simp [h]
@[simp] theorem bin_fdiv {a b : Int} : binApp st .fdiv (.val (.int a)) (.val (.int b)) = if 0 < b ∧ b < 1073741824 then some (.val (.int (a / b))) else none := by
  show (intOp .fdiv a b).map _ = _
  unfold intOp
  by_cases h : 0 < b ∧ b < 1073741824 <;> simp [h]
@[simp] theorem bin_pow {a b : Int} : binApp st .pow (.val (.int a)) (.val (.int b)) = if powOk a b = true then some (.val (.int (a ^ b.toNat))) else none := by
  show (intOp .pow a b).map _ = _
  unfold intOp
  by_cases h : powOk a b = true <;> simp [h]
@[simp] theorem bin_addS {a b : Str} : binApp st .add (.val (.str a)) (.val (.str b)) = if szOk (a.length + b.length) = true then some (.val (.str (a ++ b))) else none := rfl
@[simp] theorem bin_addT {a b : List D} : binApp st .add (.val (.tup a)) (.val (.tup b)) = if szOk (a.length + b.length) = true then some (.val (.tup (a ++ b))) else none := rfl
@[simp] theorem cmp_lt {a b : Int} : cmpApp st .lt (.val (.int a)) (.val (.int b)) = some (decide (a < b)) := rfl
@[simp] theorem cmp_le {a b : Int} : cmpApp st .le (.val (.int a)) (.val (.int b)) = some (decide (a ≤ b)) := rfl
@[simp] theorem cmp_gt {a b : Int} : cmpApp st .gt (.val (.int a)) (.val (.int b)) = some (decide (b < a)) := rfl
@[simp] theorem cmp_ge {a b : Int} : cmpApp st .ge (.val (.int a)) (.val (.int b)) = some (decide (b ≤ a)) := rfl
@[simp] theorem cmp_eq {x y : RV} : cmpApp st .eq x y = pyEq st x y := rfl
@[simp] theorem cmp_ne {x y : RV} : cmpApp st .ne x y = (pyEq st x y).map (!·) := rfl
@[simp] theorem cmp_in {x y : RV} : cmpApp st .isin x y = inApp st x y := rfl
@[simp] theorem cmp_notin {x y : RV} : cmpApp st .notin x y = (inApp st x y).map (!·) := rfl
@[simp] theorem cmp_isN {x : RV} : cmpApp st .isN x (.val .non) = some (isNon x) := rfl
@[simp] theorem cmp_notN {x : RV} : cmpApp st .notN x (.val .non) = some (!isNon x) := rfl
@[simp] theorem cmp_isB {a b : Bool} : cmpApp st .isN (.val (.bl a)) (.val (.bl b)) = some (decide (a = b)) := rfl
@[simp] theorem cmp_notB {a b : Bool} : cmpApp st .notN (.val (.bl a)) (.val (.bl b)) = some (!decide (a = b)) := rfl
@[simp] theorem truth_bl {b : Bool} : truth st (.val (.bl b)) = some b := rfl
@[simp] theorem truth_int {i : Int} : truth st (.val (.int i)) = some (i != 0) := rfl
@[simp] theorem truth_tmp {xs : List D} : truth st (.tmp xs) = some (!xs.isEmpty) := rfl
@[simp] theorem truth_tup {xs : List D} : truth st (.val (.tup xs)) = some (!xs.isEmpty) := rfl
@[simp] theorem mat_val {d : D} : mat (.val d) st = (d, st) := rfl
@[simp] theorem mat_tmp {xs : List D} : mat (.tmp xs) st = (.ref st.length, st ++ [.lst xs]) := rfl
@[simp] theorem idx_tup {xs : List D} {i : Int} : idxApp st (.val (.tup xs)) (.val (.int i)) = (L2.atI xs i).map .val := rfl
@[simp] theorem idx_tmp {xs : List D} {i : Int} : idxApp st (.tmp xs) (.val (.int i)) = (L2.atI xs i).map .val := rfl
@[simp] theorem idx_rol {xs : List D} {i : Int} : idxApp st (.val (.rol xs)) (.val (.int i)) = (L2.atI xs i).map .val := rfl
theorem idx_ref {xs : List D} {i : Int} {n : Nat} (h : st[n]? = some (.lst xs)) : idxApp st (.val (.ref n)) (.val (.int i)) = (L2.atI xs i).map .val := by
  simp only [idxApp, h]
theorem listOf_ref {xs : List D} {n : Nat} (h : st[n]? = some (.lst xs)) : listOf st (.val (.ref n)) = some xs := by simp only [listOf, h]
theorem len_ref {xs : List D} {n : Nat} (h : st[n]? = some (.lst xs)) : biApp st .len [.val (.ref n)] = some (.val (.int xs.length)) := by simp only [biApp, biLen, h]
@[simp] theorem len_tup {xs : List D} : biApp st .len [.val (.tup xs)] = some (.val (.int xs.length)) := rfl
@[simp] theorem len_tmp {xs : List D} : biApp st .len [.tmp xs] = some (.val (.int xs.length)) := rfl
@[simp] theorem len_rol {xs : List D} : biApp st .len [.val (.rol xs)] = some (.val (.int xs.length)) := rfl
@[simp] theorem int_bl {b : Bool} : biApp st .int [.val (.bl b)] = some (.val (.int (if b then 1 else 0))) := rfl
@[simp] theorem int_int {b : Int} : biApp st .int [.val (.int b)] = some (.val (.int b)) := rfl
@[simp] theorem tup_tmp {xs : List D} : biApp st .tuple [.tmp xs] = some (.val (.tup xs)) := rfl
theorem tup_ref {xs : List D} {n : Nat} (h : st[n]? = some (.lst xs)) : biApp st .tuple [.val (.ref n)] = some (.val (.tup xs)) := by simp only [biApp, biTuple, seqOf, h, Option.map_some]
@[simp] theorem max_int {i j : Int} : biApp st .max [.val (.int i), .val (.int j)] = some (.val (.int (if j > i then j else i))) := rfl
@[simp] theorem min_int {i j : Int} : biApp st .min [.val (.int i), .val (.int j)] = some (.val (.int (if j < i then j else i))) := rfl
@[simp] theorem isTy_int {t : Ty} {i : Int} : isTy st t (.val (.int i)) = some (t == .int) := rfl
@[simp] theorem isTy_bl {t : Ty} {i : Bool} : isTy st t (.val (.bl i)) = some (t == .bool || t == .int) := rfl
@[simp] theorem isTy_str {t : Ty} {i : Str} : isTy st t (.val (.str i)) = some (t == .str) := rfl
@[simp] theorem isTy_tup {t : Ty} {i : List D} : isTy st t (.val (.tup i)) = some (t == .tuple) := rfl
@[simp] theorem isTy_non {t : Ty} : isTy st t (.val .non) = some false := rfl
theorem app_ref {xs : List D} {n : Nat} {r : RV} (h : st[n]? = some (.lst xs)) (hl : xs.length < 16777216) : mtApp st .append (.val (.ref n)) [r] = some (.val .non, (mat r st).2.set n (.lst (xs ++ [(mat r st).1]))) := by
  simp [mtApp, mtAppend, h, hl]
@[simp] theorem src_tup {xs : List D} : srcOf st (.val (.tup xs)) = some ⟨xs, [], false⟩ := rfl
@[simp] theorem src_tmp {xs : List D} : srcOf st (.tmp xs) = some ⟨xs, [], false⟩ := rfl
@[simp] theorem src_rol {xs : List D} : srcOf st (.val (.rol xs)) = some ⟨xs, [], false⟩ := rfl
@[simp] theorem seq_tup {xs : List D} : srcSeq st (.val (.tup xs)) = some ⟨xs, [], false⟩ := rfl
@[simp] theorem seq_tmp {xs : List D} : srcSeq st (.tmp xs) = some ⟨xs, [], false⟩ := rfl
@[simp] theorem seq_rol {xs : List D} : srcSeq st (.val (.rol xs)) = some ⟨xs, [], false⟩ := rfl
theorem src_ref {xs : List D} {n : Nat} (h : st[n]? = some (.lst xs)) : srcOf st (.val (.ref n)) = some ⟨xs, [(n, .lst xs)], false⟩ := by simp only [srcOf, srcSeq, h]
@[simp] theorem sli_tup {xs : List D} {lo hi : Option Int} : sliApp st (.val (.tup xs)) lo hi = some (.val (.tup (cutD xs lo hi))) := rfl
@[simp] theorem sli_tmp {xs : List D} {lo hi : Option Int} : sliApp st (.tmp xs) lo hi = some (.tmp (cutD xs lo hi)) := rfl
@[simp] theorem sli_rol {xs : List D} {lo hi : Option Int} : sliApp st (.val (.rol xs)) lo hi = some (.tmp (cutD xs lo hi)) := rfl
@[simp] theorem chk_nil : chk [] st = true := rfl
end
/-! ### a call's end -/
/-- what was there is there, or names only what was there -/
def Sta (st s2 : Sto) : Prop := s2.length = st.length ∧ ∀ i, i < st.length → s2[i]? = st[i]? ∨ ∃ o, s2[i]? = some o ∧ o.low st.length = true
theorem Sta.refl {st : Sto} : Sta st st := ⟨rfl, fun _ _ => .inl rfl⟩
theorem Sta.set {st s2 : Sto} (h : Sta st s2) {r : Nat} {o : O} (ho : o.low st.length = true) : Sta st (s2.set r o) := by
  refine ⟨by rw [List.length_set]; exact h.1, fun i hi => ?_⟩
  by_cases e : r = i
  · subst e
    exact .inr ⟨o, by rw [List.getElem?_set_self (by rw [h.1]; exact hi)], ho⟩
  · rw [List.getElem?_set_ne e]; exact h.2 i hi
theorem gcOld_ok {st s2 g : Sto} (h : Sta st s2) : gcOld st (s2 ++ g) = true := by
  simp only [gcOld, Bool.and_eq_true, decide_eq_true_eq, List.all_eq_true, List.mem_range, Bool.or_eq_true]
  refine ⟨by rw [List.length_append, h.1]; omega, fun i hi => ?_⟩
  rw [List.getElem?_append_left (by rw [h.1]; exact hi)]
  rcases h.2 i hi with e | ⟨o, e, ho⟩
  · exact .inl e
  · refine .inr ?_
    rw [e]; exact ho
theorem gc_val {st s2 g : Sto} {d : D} (h : Sta st s2) (hd : d.low st.length = true) : gc st d (s2 ++ g) = (d, s2) := by
  unfold gc
  rw [if_pos (gcOld_ok h), if_pos hd, ← h.1, List.take_left']
  rfl
theorem gc_val' {st s2 : Sto} {d : D} (h : Sta st s2) (hd : d.low st.length = true) : gc st d s2 = (d, s2) := by
  have := gc_val (g := []) h hd
  rwa [List.append_nil] at this
@[simp] theorem gc_self {st : Sto} {d : D} (hd : d.low st.length = true) : gc st d st = (d, st) := gc_val' .refl hd
@[simp] theorem low_non {m : Nat} : D.low m .non = true := id rfl
@[simp] theorem low_bl {m : Nat} {b : Bool} : D.low m (.bl b) = true := id rfl
@[simp] theorem low_int {m : Nat} {b : Int} : D.low m (.int b) = true := id rfl
@[simp] theorem low_str {m : Nat} {b : Str} : D.low m (.str b) = true := id rfl
@[simp] theorem low_tup {m : Nat} {b : List D} : D.low m (.tup b) = D.lowL m b := id rfl
@[simp] theorem low_rol {m : Nat} {b : List D} : D.low m (.rol b) = D.lowL m b := id rfl
@[simp] theorem low_ref {m n : Nat} : D.low m (.ref n) = decide (n < m) := id rfl
@[simp] theorem lowL_nil {m : Nat} : D.lowL m [] = true := id rfl
@[simp] theorem lowL_cons {m : Nat} {x : D} {b : List D} : D.lowL m (x :: b) = (D.low m x && D.lowL m b) := id rfl
theorem gc_new {st s2 g : Sto} {j : Nat} {o : O} (h : Sta st s2) (hj : g[j]? = some o) (ho : o.low st.length = true) : gc st (.ref (st.length + j)) (s2 ++ g) = (.ref st.length, s2 ++ [o]) := by
  unfold gc
  rw [if_pos (gcOld_ok h), if_neg (by simp [D.low])]
  have : (s2 ++ g)[st.length + j]? = some o := by
    rw [List.getElem?_append_right (by rw [h.1]; omega), h.1, Nat.add_sub_cancel_left]; exact hj
  simp only [this, ho, if_true]
  rw [← h.1, List.take_left']
  rfl
theorem lowL_all : ∀ {m : Nat} {xs : List D}, D.lowL m xs = true ↔ ∀ x ∈ xs, D.low m x = true
  | m, [] => by simp [D.lowL]
  | m, x :: xs => by simp [D.lowL, lowL_all (m := m) (xs := xs)]
mutual
theorem pl_low {m : Nat} : ∀ (k : Nat) (d : D), pl k d = true → d.low m = true
  | _, .non, _ => rfl
  | _, .bl _, _ => rfl
  | _, .int _, _ => rfl
  | _, .str _, _ => rfl
  | 0, .tup xs, h | 0, .rol xs, h => by simp [pl] at h
  | k + 1, .tup xs, h => by simp only [pl] at h; exact plL_low k xs h
  | k + 1, .rol xs, h => by simp only [pl] at h; exact plL_low k xs h
  | _, .ref _, h => by simp [pl] at h
theorem plL_low {m : Nat} : ∀ (k : Nat) (ds : List D), plL k ds = true → D.lowL m ds = true
  | _, [], _ => rfl
  | k, x :: xs, h => by
    simp only [plL, Bool.and_eq_true] at h
    simp only [D.lowL, pl_low k x h.1, plL_low k xs h.2, Bool.and_self]
end
/-- a call, by its body -/
theorem callF_w {T : Tab} {n k : Nat} {f : Str} {ds : List D} {st : Sto} {Q : D → Sto → Prop} {fd : Fd} (hT : T.lookup f = some fd) (hl : ds.length = fd.np)
    (h : wB (callF T n k) n fd.body (ds.map some ++ List.replicate (fd.ns - fd.np) none) st fun fl _ s' => match fl with
      | .rt d => Q (gc st d s').1 (gc st d s').2
      | .nx => Q (gc st .non s').1 (gc st .non s').2
      | _ => False) : ok2 (callF T n (k + 1) f ds st) Q := by
  simp only [callF, hT]
  rw [if_pos hl]
  unfold wB at h
  rcases e : exs (callF T n k) n fd.body (ds.map some ++ List.replicate (fd.ns - fd.np) none) st with _ | ⟨fl, ρ', s'⟩
  · rw [e] at h; exact h.elim
  · rw [e] at h
    cases fl with
    | nx => exact h
    | rt d => exact h
    | bk => exact h.elim
    | ct => exact h.elim
/-- what a body is to reach -/
def fin (st : Sto) (P : D → Sto → Prop) : Fl → Env → Sto → Prop := fun fl _ s' => match fl with
  | .rt d => P (gc st d s').1 (gc st d s').2
  | .nx => P (gc st .non s').1 (gc st .non s').2
  | _ => False
@[simp] theorem fin_rt {st s' : Sto} {P : D → Sto → Prop} {d : D} {ρ : Env} : fin st P (.rt d) ρ s' ↔ P (gc st d s').1 (gc st d s').2 := Iff.rfl
@[simp] theorem fin_nx {st s' : Sto} {P : D → Sto → Prop} {ρ : Env} : fin st P .nx ρ s' ↔ P (gc st .non s').1 (gc st .non s').2 := Iff.rfl
@[simp] theorem fin_bk {st s' : Sto} {P : D → Sto → Prop} {ρ : Env} : fin st P .bk ρ s' ↔ False := Iff.rfl
@[simp] theorem fin_ct {st s' : Sto} {P : D → Sto → Prop} {ρ : Env} : fin st P .ct ρ s' ↔ False := Iff.rfl
theorem callF_f {T : Tab} {n k : Nat} {f : Str} {ds : List D} {st : Sto} {Q : D → Sto → Prop} {fd : Fd} (hT : T.lookup f = some fd) (hl : ds.length = fd.np)
    (h : wB (callF T n k) n fd.body (ds.map some ++ List.replicate (fd.ns - fd.np) none) st (fin st Q)) : ok2 (callF T n (k + 1) f ds st) Q := callF_w hT hl h
def tailC : Nat → CSs → CSs
  | 0, c => c
  | n + 1, c => match c with
    | .cons _ c => tailC n c
    | .nil => .nil
theorem callF_eq {T : Tab} {n k : Nat} {f : Str} {ds : List D} {st s2 : Sto} {d : D} (h : ok2 (callF T n k f ds st) fun d' s' => d' = d ∧ s' = s2) : callF T n k f ds st = some (d, s2) := by
  rcases e : callF T n k f ds st with _ | ⟨d', s'⟩
  · rw [e] at h; exact h.elim
  · rw [e] at h
    obtain ⟨rfl, rfl⟩ := h
    rfl
@[simp] theorem setT_nm {i : Nat} {d : D} {ρ : Env} : setT (.nm i) d ρ = some (ρ.set i (some d)) := rfl
@[simp] theorem setT_tp {ts : Tgts} {xs : List D} {ρ : Env} : setT (.tp ts) (.tup xs) ρ = setTs ts xs ρ := rfl
@[simp] theorem setTs_nil {ρ : Env} : setTs .nil [] ρ = some ρ := rfl
theorem setTs_cons {t : Tgt} {ts : Tgts} {d : D} {ds : List D} {ρ : Env} : setTs (.cons t ts) (d :: ds) ρ = (match setT t d ρ with | some ρ' => setTs ts ds ρ' | none => none) := rfl
@[simp] theorem setTs_nm {i : Nat} {ts : Tgts} {d : D} {ds : List D} {ρ : Env} : setTs (.cons (.nm i) ts) (d :: ds) ρ = setTs ts ds (ρ.set i (some d)) := rfl
@[simp] theorem setTs_tp {t : Tgts} {ts : Tgts} {d : List D} {ds : List D} {ρ : Env} : setTs (.cons (.tp t) ts) (.tup d :: ds) ρ = (match setTs t d ρ with | some ρ' => setTs ts ds ρ' | none => none) := rfl
theorem atI_n {α : Type} {xs : List α} {j : Nat} {x : α} (h : xs[j]? = some x) : L2.atI xs (j : Int) = some x := L2.atI_nat h
@[simp] theorem atI_0 {α : Type} {x : α} {xs : List α} : L2.atI (x :: xs) 0 = some x := atI_n (j := 0) rfl
@[simp] theorem atI_1 {α : Type} {x y : α} {xs : List α} : L2.atI (x :: y :: xs) 1 = some y := atI_n (j := 1) rfl
@[simp] theorem atI_2 {α : Type} {x y z : α} {xs : List α} : L2.atI (x :: y :: z :: xs) 2 = some z := atI_n (j := 2) rfl
@[simp] theorem atI_3 {α : Type} {x y z w : α} {xs : List α} : L2.atI (x :: y :: z :: w :: xs) 3 = some w := atI_n (j := 3) rfl
@[simp] theorem atI_4 {α : Type} {x y z w v : α} {xs : List α} : L2.atI (x :: y :: z :: w :: v :: xs) 4 = some v := atI_n (j := 4) rfl
/-! ### loops -/
theorem forL_nil {ws t b} {ρ : Env} {st : Sto} {Q : Fl → Env → Sto → Prop} (hc : chk ws st = true) (h : Q .nx ρ st) : ok3 (forL ws t b [] ρ st) Q := by
  simp only [forL, hc, if_true]; exact h
@[simp] theorem exs_w {C : Call} {n : Nat} {c : CSs} {ρ : Env} {st : Sto} {Q : Fl → Env → Sto → Prop} : ok3 (exs C n c ρ st) Q ↔ wB C n c ρ st Q := Iff.rfl
theorem forL_c {ws : List (Nat × O)} {t : D → Env → Option Env} {b : Env → Sto → Option (Fl × Env × Sto)} {x : D} {xs : List D} {ρ : Env} {st : Sto} {Q : Fl → Env → Sto → Prop} :
    ok3 (forL ws t b (x :: xs) ρ st) Q ↔ chk ws st = true ∧ okO (t x ρ) fun ρ1 => ok3 (b ρ1 st) fun f ρ2 s2 => match f with
      | .nx => ok3 (forL ws t b xs ρ2 s2) Q
      | .ct => ok3 (forL ws t b xs ρ2 s2) Q
      | .bk => Q .nx ρ2 s2
      | .rt d => Q (.rt d) ρ2 s2 := by
  simp only [forL]
  by_cases hc : chk ws st = true
  · simp only [hc, if_true, true_and]
    rcases t x ρ with _ | ρ1
    · simp
    · rcases hb : b ρ1 st with _ | ⟨f, ρ2, s2⟩
      · simp [hb]
      · cases f <;> simp [hb]
  · simp [hc]
@[simp] theorem forL_n {ws : List (Nat × O)} {t : D → Env → Option Env} {b : Env → Sto → Option (Fl × Env × Sto)} {ρ : Env} {st : Sto} {Q : Fl → Env → Sto → Prop} : ok3 (forL ws t b [] ρ st) Q ↔ chk ws st = true ∧ Q .nx ρ st := by
  simp only [forL]
  by_cases hc : chk ws st = true <;> simp [hc]
/-- a loop by an invariant over what is behind and what is ahead -/
theorem forL_w {ws : List (Nat × O)} {t : D → Env → Option Env} {b : Env → Sto → Option (Fl × Env × Sto)} {Q : Fl → Env → Sto → Prop} (I : List D → Env → Sto → Prop)
    (hend : ∀ ρ st, I [] ρ st → chk ws st = true ∧ Q .nx ρ st)
    (hstep : ∀ x xs ρ st, I (x :: xs) ρ st → chk ws st = true ∧ ∃ ρ1, t x ρ = some ρ1 ∧ ok3 (b ρ1 st) fun f ρ2 s2 => match f with
      | .nx => I xs ρ2 s2
      | .ct => I xs ρ2 s2
      | .bk => Q .nx ρ2 s2
      | .rt d => Q (.rt d) ρ2 s2) :
    ∀ (xs : List D) (ρ : Env) (st : Sto), I xs ρ st → ok3 (forL ws t b xs ρ st) Q := by
  intro xs
  induction xs with
  | nil => intro ρ st h; exact forL_nil (hend ρ st h).1 (hend ρ st h).2
  | cons x xs ih =>
    intro ρ st h
    obtain ⟨hc, ρ1, ht, hb⟩ := hstep x xs ρ st h
    simp only [forL, hc, if_true, ht]
    rcases e : b ρ1 st with _ | ⟨f, ρ2, s2⟩
    · rw [e] at hb; exact hb.elim
    · rw [e] at hb
      cases f with
      | nx => exact ih ρ2 s2 hb
      | ct => exact ih ρ2 s2 hb
      | bk => exact hb
      | rt d => exact hb
/-- a comprehension by an invariant over what is made and what is ahead -/
theorem compL_w {ws : List (Nat × O)} {t : D → Option Env} {c : Env → Sto → Option (Bool × Sto)} {e : Env → Sto → Option (RV × Sto)} (I : List D → List D → Sto → Prop)
    (hc : ∀ ys xs st, I ys xs st → chk ws st = true)
    (hstep : ∀ ys x xs st, I ys (x :: xs) st → ∃ ρ1, t x = some ρ1 ∧ ok2 (c ρ1 st) fun k s1 => if k = true then ok2 (e ρ1 s1) fun r s2 => I (ys ++ [(mat r s2).1]) xs (mat r s2).2 else I ys xs s1) :
    ∀ (xs ys : List D) (st : Sto), I ys xs st → ∀ {Q : List D → Sto → Prop}, (∀ zs s', I (ys ++ zs) [] s' → Q zs s') → ok2 (compL ws t c e xs st) Q := by
  intro xs
  induction xs with
  | nil =>
    intro ys st h Q q
    simp only [compL, hc ys [] st h, if_true]
    exact q [] st (by simpa using h)
  | cons x xs ih =>
    intro ys st h Q q
    obtain ⟨ρ1, ht, hb⟩ := hstep ys x xs st h
    simp only [compL, hc ys _ st h, if_true, ht]
    rcases ec : c ρ1 st with _ | ⟨k, s1⟩
    · rw [ec] at hb; exact hb.elim
    · rw [ec] at hb
      cases k with
      | false => exact ih ys s1 (by simpa using hb) q
      | true =>
        simp only [ok2_some, if_true] at hb
        rcases ee : e ρ1 s1 with _ | ⟨r, s2⟩
        · rw [ee] at hb; exact hb.elim
        · rw [ee] at hb
          have r1 := ih (ys ++ [(mat r s2).1]) (mat r s2).2 hb (Q := fun zs s' => Q ((mat r s2).1 :: zs) s') fun zs s' hI => q _ _ (by simpa using hI)
          simp only [ee]
          rcases er : compL ws t c e xs (mat r s2).2 with _ | ⟨zs, s'⟩
          · rw [er] at r1; exact r1.elim
          · rw [er] at r1; simp only [er]; exact r1
theorem ev_eq {C : Call} {c : CE} {ρ : Env} {st st' : Sto} {x : RV} (h : wE C c ρ st fun r s => r = x ∧ s = st') : ev C c ρ st = some (x, st') := by
  unfold wE at h
  rcases e : ev C c ρ st with _ | ⟨d', s'⟩
  · rw [e] at h; exact h.elim
  · rw [e] at h
    obtain ⟨rfl, rfl⟩ := h
    rfl
@[simp] theorem evC_nil {C : Call} {ρ : Env} {st : Sto} : evC C .nil ρ st = some (true, st) := by simp [evC]
/-- a comprehension over a mapped list that changes nothing -/
theorem compL_all {α : Type} {ws : List (Nat × O)} {t : D → Option Env} {c : Env → Sto → Option (Bool × Sto)} {e : Env → Sto → Option (RV × Sto)} {st : Sto} (g f : α → D) (hc : chk ws st = true) :
    ∀ (zs : List α), (∀ z ∈ zs, ∃ ρ1, t (g z) = some ρ1 ∧ c ρ1 st = some (true, st) ∧ e ρ1 st = some (.val (f z), st)) → compL ws t c e (zs.map g) st = some (zs.map f, st)
  | [], _ => by simp [compL, hc]
  | x :: xs, h => by
    obtain ⟨ρ1, h1, h2, h3⟩ := h x (List.mem_cons_self ..)
    have ih := compL_all g f hc xs fun y hy => h y (List.mem_cons_of_mem _ hy)
    simp [compL, hc, h1, h2, h3, ih, mat]
theorem compL_ok {α : Type} {ws : List (Nat × O)} {t : D → Option Env} {c : Env → Sto → Option (Bool × Sto)} {e : Env → Sto → Option (RV × Sto)} {st : Sto} {Q : List D → Sto → Prop} (zs : List α) (g f : α → D) (hc : chk ws st = true)
    (h : ∀ z ∈ zs, ∃ ρ1, t (g z) = some ρ1 ∧ c ρ1 st = some (true, st) ∧ e ρ1 st = some (.val (f z), st)) (q : Q (zs.map f) st) : ok2 (compL ws t c e (zs.map g) st) Q := by
  rw [compL_all g f hc zs h]; exact q
theorem blsOf_map : ∀ bs : List Bool, blsOf (bs.map .bl) = some bs
  | [] => rfl
  | b :: bs => by
    have ih := blsOf_map bs
    unfold blsOf at ih ⊢
    simp only [List.map_cons, mapO, ih]
theorem all_bls {st : Sto} (bs : List Bool) : biApp st .all [.tmp (bs.map .bl)] = some (.val (.bl (bs.all id))) := by
  simp [biApp, biAll, listOf, blsOf_map]
theorem any_bls {st : Sto} (bs : List Bool) : biApp st .any [.tmp (bs.map .bl)] = some (.val (.bl (bs.any id))) := by
  simp [biApp, biAny, listOf, blsOf_map]
theorem intsOf_map : ∀ bs : List Int, intsOf (bs.map .int) = some bs
  | [] => rfl
  | b :: bs => by
    have ih := intsOf_map bs
    unfold intsOf at ih ⊢
    simp only [List.map_cons, mapO, ih]
/-- the last cell of the store -/
@[simp] theorem get_last {st : Sto} {o : O} : (st ++ [o])[st.length]? = some o := by
  rw [List.getElem?_append_right (Nat.le_refl _)]; simp
@[simp] theorem set_last {st : Sto} {o o' : O} : (st ++ [o]).set st.length o' = st ++ [o'] := by
  rw [List.set_append_right _ _ (Nat.le_refl _)]; simp
theorem get_old {st g : Sto} {r : Nat} {o : O} (h : st[r]? = some o) : (st ++ g)[r]? = some o := by
  rw [List.getElem?_append_left (List.getElem?_eq_some_iff.mp h).1]; exact h
theorem set_old {st g : Sto} {r : Nat} {o : O} (h : r < st.length) : (st ++ g).set r o = st.set r o ++ g := List.set_append_left _ _ h
theorem gc_app {st g : Sto} {d : D} (hd : d.low st.length = true) : gc st d (st ++ g) = (d, st) := gc_val .refl hd
theorem gc_one {st : Sto} {o : O} (ho : o.low st.length = true) : gc st (.ref st.length) (st ++ [o]) = (.ref st.length, st ++ [o]) := gc_new (j := 0) (g := [o]) .refl rfl ho
theorem enmD_cons {k : Nat} {x : D} {xs : List D} : enmD k (x :: xs) = .tup [.int k, x] :: enmD (k + 1) xs := rfl
/-- a comprehension that changes nothing -/
theorem compL_map {ws : List (Nat × O)} {t : D → Option Env} {c : Env → Sto → Option (Bool × Sto)} {e : Env → Sto → Option (RV × Sto)} {st : Sto} (p : D → Bool) (f : D → D) (hc : chk ws st = true) :
    ∀ (xs : List D), (∀ x ∈ xs, ∃ ρ1, t x = some ρ1 ∧ c ρ1 st = some (p x, st) ∧ (p x = true → e ρ1 st = some (.val (f x), st))) → compL ws t c e xs st = some ((xs.filter p).map f, st)
  | [], _ => by simp [compL, hc]
  | x :: xs, h => by
    obtain ⟨ρ1, h1, h2, h3⟩ := h x (List.mem_cons_self ..)
    have ih := compL_map p f hc xs fun y hy => h y (List.mem_cons_of_mem _ hy)
    cases hp : p x with
    | false => simp [compL, hc, h1, h2, hp, ih]
    | true => simp [compL, hc, h1, h2, hp, h3 hp, ih, mat]
end Mw

set_option Elab.async false
set_option linter.all false
set_option autoImplicit false
set_option maxRecDepth 100000
/-! PyF: what the shared defs do. -/
namespace Mw
open PySem
def cis_whole : CSs := (.cons (.ret (.and (.isi (.var 0) .int) (.not (.isi (.var 0) .bool)))) .nil)
def fis_whole : Fd := ⟨1, 1, cis_whole⟩
def cis_place : CSs := (.cons (.ret (.and (.call "is_whole" (.cons (.var 1) .nil)) (.chain .le .lt (.cst (.int 0)) (.var 1) (.var 0)))) .nil)
def fis_place : Fd := ⟨2, 2, cis_place⟩
def cis_meeting : CSs := (.cons (.ite (.or (.not (.isi (.var 1) .tuple)) (.cmp .ne (.bi .len (.cons (.var 1) .nil)) (.cst (.int 5)))) (.cons (.ret (.cst (.bl false))) .nil) .nil) (.cons (.asg (.tp (.cons (.nm 2) (.cons (.nm 3) (.cons (.nm 4) (.cons (.nm 5) (.cons (.nm 6) .nil)))))) (.var 1)) (.cons (.ite (.or (.not (.isi (.var 2) .str)) (.cmp .notin (.var 2) (.cst (.tup [(.str "to"), (.str "both")])))) (.cons (.ret (.cst (.bl false))) .nil) .nil) (.cons (.ite (.or (.not (.call "is_place" (.cons (.var 0) (.cons (.var 3) .nil)))) (.or (.not (.call "is_place" (.cons (.var 0) (.cons (.var 4) .nil)))) (.cmp .eq (.var 3) (.var 4)))) (.cons (.ret (.cst (.bl false))) .nil) .nil) (.cons (.ret (.and (.call "is_whole" (.cons (.var 5) .nil)) (.and (.cmp .ge (.var 5) (.cst (.int 0))) (.and (.call "is_whole" (.cons (.var 6) .nil)) (.cmp .ge (.var 6) (.cst (.int 1))))))) .nil)))))
def fis_meeting : Fd := ⟨2, 7, cis_meeting⟩
def cis_net : CSs := (.cons (.ite (.or (.not (.isi (.var 0) .tuple)) (.cmp .ne (.bi .len (.cons (.var 0) .nil)) (.cst (.int 2)))) (.cons (.ret (.cst (.bl false))) .nil) .nil) (.cons (.asg (.tp (.cons (.nm 1) (.cons (.nm 2) .nil))) (.var 0)) (.cons (.ite (.or (.not (.call "is_whole" (.cons (.var 1) .nil))) (.or (.cmp .lt (.var 1) (.cst (.int 1))) (.not (.isi (.var 2) .tuple)))) (.cons (.ret (.cst (.bl false))) .nil) .nil) (.cons (.ret (.bi .all (.cons (.comp (.nm 3) (.ex (.var 2)) .nil (.call "is_meeting" (.cons (.var 1) (.cons (.var 3) .nil))) [3]) .nil))) .nil))))
def fis_net : Fd := ⟨1, 4, cis_net⟩
def csteps_of : CSs := (.cons (.asg (.nm 1) (.lst .nil)) (.cons (.for (.tp (.cons (.nm 2) (.cons (.nm 3) .nil))) (.enm (.idx (.var 0) (.cst (.int 1)))) (.cons (.asg (.tp (.cons (.nm 4) (.cons (.nm 5) (.cons (.nm 6) (.cons (.nm 7) (.cons (.nm 8) .nil)))))) (.var 3)) (.cons (.expr (.mt .append (.var 1) (.cons (.tup (.cons (.var 2) (.cons (.var 5) (.cons (.var 6) (.cons (.var 7) (.cons (.bin .add (.var 7) (.var 8)) .nil)))))) .nil))) (.cons (.ite (.cmp .eq (.var 4) (.cst (.str "both"))) (.cons (.expr (.mt .append (.var 1) (.cons (.tup (.cons (.var 2) (.cons (.var 6) (.cons (.var 5) (.cons (.var 7) (.cons (.bin .add (.var 7) (.var 8)) .nil)))))) .nil))) .nil) .nil) .nil)))) (.cons (.ret (.bi .tuple (.cons (.var 1) .nil))) .nil)))
def fsteps_of : Fd := ⟨1, 9, csteps_of⟩
abbrev Has (T : Tab) (f : Str) (fd : Fd) : Prop := T.lookup f = some fd
section
variable {T : Tab} {n k : Nat} {st : Sto}
theorem is_whole_int (hT : Has T "is_whole" fis_whole) {i : Int} : callF T n (k + 1) "is_whole" [.int i] st = some (.bl true, st) := by
  refine callF_eq (callF_w hT rfl ?_)
  simp [fis_whole, cis_whole, wB_cons]
theorem is_place_int (h1 : Has T "is_whole" fis_whole) (hT : Has T "is_place" fis_place) {m i : Int} : callF T n (k + 2) "is_place" [.int m, .int i] st = some (.bl (decide (0 ≤ i ∧ i < m)), st) := by
  refine callF_eq (callF_w hT rfl ?_)
  simp [fis_place, cis_place, wB_cons, is_whole_int h1]
  by_cases h : 0 ≤ i <;> simp [h]
/-! ### meetings and nets -/
structure Mt where
  bo : Bool
  a : Int
  b : Int
  t : Int
  l : Int
def wdD (b : Bool) : D := .str (if b then "both" else "to")
def mtD (m : Mt) : D := .tup [wdD m.bo, .int m.a, .int m.b, .int m.t, .int m.l]
def netD (n : Int) (ms : List Mt) : D := .tup [.int n, .tup (ms.map mtD)]
def Mt.ok (n : Int) (m : Mt) : Prop := 0 ≤ m.a ∧ m.a < n ∧ 0 ≤ m.b ∧ m.b < n ∧ m.a ≠ m.b ∧ 0 ≤ m.t ∧ 1 ≤ m.l
theorem wd_in {b : Bool} : inApp st (.val (wdD b)) (.val (.tup [.str "to", .str "both"])) = some true := by
  unfold wdD
  rw [in_tup (by cases b <;> decide +kernel) (by decide +kernel) rfl rfl]
  cases b <;> simp
theorem is_meeting_ok (h1 : Has T "is_whole" fis_whole) (h2 : Has T "is_place" fis_place) (hT : Has T "is_meeting" fis_meeting) {m : Int} {x : Mt} (h : x.ok m) : callF T n (k + 3) "is_meeting" [.int m, mtD x] st = some (.bl true, st) := by
  obtain ⟨q1, q2, q3, q4, q5, q6, q7⟩ := h
  refine callF_eq (callF_w hT rfl ?_)
  have hw : inApp st (.val (.str (if x.bo then "both" else "to"))) (.val (.tup [.str "to", .str "both"])) = some true := wd_in
  simp [fis_meeting, cis_meeting, wB_cons, is_whole_int h1, is_place_int h1 h2, mtD, wdD, hw, *]
theorem is_net_ok (h1 : Has T "is_whole" fis_whole) (h2 : Has T "is_place" fis_place) (h3 : Has T "is_meeting" fis_meeting) (hT : Has T "is_net" fis_net) {m : Int} {ms : List Mt} (hm : 1 ≤ m) (h : ∀ x ∈ ms, x.ok m) : callF T n (k + 4) "is_net" [netD m ms] st = some (.bl true, st) := by
  refine callF_eq (callF_w hT rfl ?_)
  have ha := all_bls (st := st) (ms.map fun _ => true)
  have hm' : ¬ m < 1 := by omega
  simp only [List.map_map, Function.comp_def] at ha
  simp [fis_net, cis_net, wB_cons, is_whole_int h1, netD, hm']
  refine compL_ok ms mtD (fun _ => .bl true) rfl (fun x hx => ⟨_, rfl, rfl, ev_eq ?_⟩) ?_
  · simp [wipeD, is_meeting_ok h1 h2 h3 (h x hx)]
  · simp [ha]
/-! ### steps -/
structure Sp where
  k : Nat
  a : Int
  b : Int
  t : Int
  u : Int
def spD (s : Sp) : D := .tup [.int s.k, .int s.a, .int s.b, .int s.t, .int s.u]
def stepsF : Nat → List Mt → List Sp
  | _, [] => []
  | k, m :: ms => ⟨k, m.a, m.b, m.t, m.t + m.l⟩ :: ((if m.bo then [⟨k, m.b, m.a, m.t, m.t + m.l⟩] else []) ++ stepsF (k + 1) ms)
theorem steps_len : ∀ (k : Nat) (ms : List Mt), (stepsF k ms).length ≤ 2 * ms.length
  | _, [] => by simp [stepsF]
  | k, m :: ms => by
    have := steps_len (k + 1) ms
    simp only [stepsF, List.length_cons, List.length_append]
    split <;> simp <;> omega
theorem wd_both {b : Bool} : pyEq st (.val (wdD b)) (.val (.str "both")) = some b := by
  unfold wdD
  rw [pyEq_str (by cases b <;> decide +kernel) (by decide +kernel)]
  cases b <;> decide
theorem lowL_sp {m : Nat} (l : List Sp) : D.lowL m (l.map spD) = true := by
  rw [lowL_all]
  intro x hx
  obtain ⟨s, _, rfl⟩ := List.mem_map.mp hx
  simp [spD]
def stepsI (st : Sto) (net : D) (ms : List Mt) (xs : List D) (ρ : Env) (s : Sto) : Prop :=
  ∃ k' ms' done r2 r3 r4 r5 r6 r7 r8, xs = enmD k' (List.map mtD ms') ∧ s = st ++ [.lst (List.map spD done)] ∧ done ++ stepsF k' ms' = stepsF 0 ms ∧ ρ = [some net, some (.ref st.length), r2, r3, r4, r5, r6, r7, r8]
theorem steps_ok (hT : Has T "steps_of" fsteps_of) {m : Int} {ms : List Mt} (hl : ms.length ≤ 1000000) : callF T n (k + 1) "steps_of" [netD m ms] st = some (.tup ((stepsF 0 ms).map spD), st) := by
  refine callF_eq (callF_w hT rfl ?_)
  simp [fsteps_of, csteps_of, wB_cons, netD]
  have hlen := steps_len 0 ms
  refine forL_w (stepsI st (.tup [.int m, .tup (ms.map mtD)]) ms) ?_ ?_ _ _ _ ⟨0, ms, [], none, none, none, none, none, none, none, rfl, rfl, rfl, rfl⟩
  · rintro ρ s ⟨k', ms', done, r2, r3, r4, r5, r6, r7, r8, e, rfl, hd, rfl⟩
    cases ms' with
    | cons _ _ => simp [enmD] at e
    | nil =>
      simp [stepsF] at hd
      refine ⟨rfl, ?_⟩
      simp [tup_ref get_last, hd, gc_app, lowL_sp]
  · rintro x xs ρ s ⟨k', ms', done, r2, r3, r4, r5, r6, r7, r8, e, rfl, hd, rfl⟩
    cases ms' with
    | nil => simp [enmD] at e
    | cons y ms' =>
      simp only [List.map_cons, enmD_cons, List.cons.injEq] at e
      obtain ⟨rfl, rfl⟩ := e
      refine ⟨rfl, _, rfl, ?_⟩
      have hle : done.length + (stepsF k' (y :: ms')).length = (stepsF 0 ms).length := by rw [← List.length_append, hd]
      simp only [stepsF, List.length_cons, List.length_append] at hle
      have hd' : done.length < 16777216 := by omega
      have hd2 : done.length + 1 < 16777216 := by omega
      show wB _ _ _ _ _ _
      simp [wB_cons, mtD, app_ref get_last, hd', hd2, wd_both]
      cases hb : y.bo
      · simp
        exact ⟨k' + 1, ms', done ++ [⟨k', y.a, y.b, y.t, y.t + y.l⟩], _, _, _, _, _, _, _, rfl, by simp [spD], by rw [← hd]; simp [stepsF, hb], rfl⟩
      · simp
        exact ⟨k' + 1, ms', done ++ [⟨k', y.a, y.b, y.t, y.t + y.l⟩, ⟨k', y.b, y.a, y.t, y.t + y.l⟩], _, _, _, _, _, _, _, rfl, by simp [spD], by rw [← hd]; simp [stepsF, hb], rfl⟩
end
end Mw

set_option Elab.async false
set_option linter.all false
set_option autoImplicit false
/-! PyM1: earliest comings, plain. -/
namespace Mw
/-- places and moments that ways come to -/
inductive Rch (S : List Sp) (p0 m0 : Int) : Int → Int → Prop
  | here : Rch S p0 m0 p0 m0
  | go {s : Sp} {m : Int} : Rch S p0 m0 s.a m → s ∈ S → m ≤ s.t → Rch S p0 m0 s.b s.u
abbrev Tbf := Int → Option Int
def Snd (S : List Sp) (p0 m0 : Int) (f : Tbf) : Prop := ∀ p m, f p = some m → Rch S p0 m0 p m
def Cls (S : List Sp) (f : Tbf) : Prop := ∀ s ∈ S, ∀ m, f s.a = some m → m ≤ s.t → ∃ m', f s.b = some m' ∧ m' ≤ s.u
structure Right (S : List Sp) (p0 m0 : Int) (f : Tbf) : Prop where
  snd : Snd S p0 m0 f
  low : ∀ p m, Rch S p0 m0 p m → ∃ m', f p = some m' ∧ m' ≤ m
section
variable {S S' : List Sp} {p0 m0 : Int} {f g : Tbf}
theorem Rch.mono (h : ∀ s ∈ S, s ∈ S') {p m : Int} (r : Rch S p0 m0 p m) : Rch S' p0 m0 p m := by
  induction r with
  | here => exact .here
  | go _ hs hm ih => exact .go ih (h _ hs) hm
theorem Right.of (h : Snd S p0 m0 f) (h0 : ∃ m, f p0 = some m ∧ m ≤ m0) (c : Cls S f) : Right S p0 m0 f := by
  refine ⟨h, fun p m r => ?_⟩
  induction r with
  | here => exact h0
  | go _ hs hm ih =>
    obtain ⟨m', e, hl⟩ := ih
    exact c _ hs m' e (Int.le_trans hl hm)
theorem Right.uniq (h : Right S p0 m0 f) (q : Right S p0 m0 g) : f = g := by
  funext p
  cases e : f p with
  | some m =>
    obtain ⟨m', e', hl⟩ := q.low p m (h.snd p m e)
    obtain ⟨m2, e2, hl2⟩ := h.low p m' (q.snd p m' e')
    rw [e] at e2
    cases e2
    rw [e', show m' = m by omega]
  | none =>
    cases e' : g p with
    | none => rfl
    | some m =>
      obtain ⟨_, e2, _⟩ := h.low p m (q.snd p m e')
      rw [e] at e2; cases e2
theorem Right.mem (h : Right S p0 m0 f) (e : ∀ s, s ∈ S ↔ s ∈ S') : Right S' p0 m0 f :=
  ⟨fun p m q => (h.snd p m q).mono fun s hs => (e s).mp hs, fun p m r => h.low p m (r.mono fun s hs => (e s).mpr hs)⟩
/-! ### lowering -/
def lowers (f : Tbf) (s : Sp) : Bool := match f s.a with
  | none => false
  | some m => decide (m ≤ s.t) && (match f s.b with
    | none => true
    | some m' => decide (s.u < m'))
def lowT (f : Tbf) (s : Sp) : Tbf := fun p => if p = s.b then some s.u else f p
def lowS (f : Tbf) (s : Sp) : Tbf := if lowers f s then lowT f s else f
theorem lowers_iff {s : Sp} : lowers f s = true ↔ ∃ m, f s.a = some m ∧ m ≤ s.t ∧ ∀ m', f s.b = some m' → s.u < m' := by
  unfold lowers
  cases f s.a with
  | none => simp
  | some m =>
    cases f s.b with
    | none => simp
    | some m' => simp
theorem snd_low {s : Sp} (h : Snd S p0 m0 f) (hs : s ∈ S) (hl : lowers f s = true) : Snd S p0 m0 (lowT f s) := by
  obtain ⟨m, e, hm, _⟩ := lowers_iff.mp hl
  intro p m' q
  unfold lowT at q
  split at q
  · rename_i hp
    subst hp
    cases q
    exact .go (h _ _ e) hs hm
  · exact h p m' q
theorem start_low {s : Sp} (h0 : ∃ m, f p0 = some m ∧ m ≤ m0) (hl : lowers f s = true) : ∃ m, lowT f s p0 = some m ∧ m ≤ m0 := by
  obtain ⟨m, e, hm⟩ := h0
  unfold lowT
  split
  · rename_i hp
    subst hp
    obtain ⟨_, _, _, h3⟩ := lowers_iff.mp hl
    exact ⟨_, rfl, by have := h3 _ e; omega⟩
  · exact ⟨m, e, hm⟩
theorem not_lowers {s : Sp} (h : lowers f s = false) {m : Int} (e : f s.a = some m) (hm : m ≤ s.t) : ∃ m', f s.b = some m' ∧ m' ≤ s.u := by
  unfold lowers at h
  rw [e] at h
  cases e2 : f s.b with
  | none => rw [e2] at h; simp [hm] at h
  | some m' =>
    rw [e2] at h
    simp only [hm, decide_true, Bool.true_and, decide_eq_false_iff_not] at h
    exact ⟨m', rfl, by omega⟩
theorem cls_of (h : ∀ s ∈ S, lowers f s = false) : Cls S f := fun s hs m e hm => not_lowers (h s hs) e hm
/-- going once over steps that rise by their begins -/
theorem pass_right : ∀ (R D : List Sp) (f : Tbf), Snd S p0 m0 f → (∃ m, f p0 = some m ∧ m ≤ m0) → Cls D f → (∀ s ∈ D, ∀ s' ∈ R, s.t ≤ s'.t) → R.Pairwise (fun s s' => s.t ≤ s'.t) → (∀ s ∈ R, s ∈ S ∧ s.t < s.u) → (∀ s, s ∈ S → s ∈ D ∨ s ∈ R) →
    Right S p0 m0 (R.foldl lowS f)
  | [], D, f, h1, h2, h3, _, _, _, h6 => .of h1 h2 fun s hs => h3 s ((h6 s hs).resolve_right (by simp))
  | s :: R, D, f, h1, h2, h3, h4, h5, h7, h6 => by
    obtain ⟨hs, htu⟩ := h7 s List.mem_cons_self
    obtain ⟨p1, p2⟩ := List.pairwise_cons.mp h5
    have mem : ∀ x, x ∈ S → x ∈ s :: D ∨ x ∈ R := fun x hx => by
      rcases h6 x hx with h | h
      · exact .inl (List.mem_cons_of_mem _ h)
      · rcases List.mem_cons.mp h with rfl | h
        · exact .inl List.mem_cons_self
        · exact .inr h
    have ord : ∀ x ∈ s :: D, ∀ y ∈ R, x.t ≤ y.t := fun x hx y hy => by
      rcases List.mem_cons.mp hx with rfl | hx
      · exact p1 y hy
      · exact h4 x hx y (List.mem_cons_of_mem _ hy)
    simp only [List.foldl_cons]
    unfold lowS
    split
    · rename_i hl
      refine pass_right R (s :: D) _ (snd_low h1 hs hl) (start_low h2 hl) (fun x hx m e hm => ?_) ord p2 (fun y hy => h7 y (List.mem_cons_of_mem _ hy)) mem
      obtain ⟨m0', e0, hm0, hb⟩ := lowers_iff.mp hl
      unfold lowT at e ⊢
      have hxt : x.t ≤ s.t := by
        rcases List.mem_cons.mp hx with rfl | hx
        · exact Int.le_refl _
        · exact h4 x hx s List.mem_cons_self
      split at e
      · cases e; omega
      · split
        · rename_i hxb
          refine ⟨_, rfl, ?_⟩
          rcases List.mem_cons.mp hx with rfl | hx
          · exact Int.le_refl _
          · obtain ⟨m', e', hl'⟩ := h3 x hx m e hm
            have := hb m' (by rw [← hxb]; exact e')
            omega
        · rename_i hxb
          rcases List.mem_cons.mp hx with rfl | hx
          · exact absurd rfl hxb
          · exact h3 x hx m e hm
    · rename_i hl
      refine pass_right R (s :: D) f h1 h2 (fun x hx => ?_) ord p2 (fun y hy => h7 y (List.mem_cons_of_mem _ hy)) mem
      rcases List.mem_cons.mp hx with rfl | hx
      · exact fun m e hm => not_lowers (by simpa using hl) e hm
      · exact h3 x hx
/-- how much can be lowered still -/
def opn (o : Option Int) (u : Int) : Bool := match o with
  | none => true
  | some m => decide (u < m)
theorem filter_le {α : Type} {p q : α → Bool} (h : ∀ x, p x = true → q x = true) : ∀ l : List α, (l.filter p).length ≤ (l.filter q).length
  | [] => Nat.le_refl _
  | x :: xs => by
    have ih := filter_le h xs
    rw [List.filter_cons, List.filter_cons]
    by_cases hp : p x = true
    · rw [if_pos hp, if_pos (h x hp)]; simpa using ih
    · rw [if_neg hp]
      by_cases hq : q x = true
      · rw [if_pos hq]; exact Nat.le_succ_of_le ih
      · rw [if_neg hq]; exact ih
theorem filter_lt {α : Type} {p q : α → Bool} (h : ∀ x, p x = true → q x = true) {s : α} (h0 : p s = false) (h1 : q s = true) : ∀ l : List α, s ∈ l → (l.filter p).length < (l.filter q).length
  | [], hs => nomatch hs
  | x :: xs, hs => by
    rw [List.filter_cons, List.filter_cons]
    rcases List.mem_cons.mp hs with rfl | hs
    · rw [if_neg (by simp [h0]), if_pos h1]
      exact Nat.lt_succ_of_le (filter_le h xs)
    · have ih := filter_lt h h0 h1 xs hs
      by_cases hp : p x = true
      · rw [if_pos hp, if_pos (h x hp)]; simpa using ih
      · rw [if_neg hp]
        by_cases hq : q x = true
        · rw [if_pos hq]; exact Nat.lt_succ_of_lt ih
        · rw [if_neg hq]; exact ih
def room (S : List Sp) (f : Tbf) : Nat := (S.filter fun s => opn (f s.b) s.u).length
theorem room_le : room S f ≤ S.length := List.length_filter_le _ _
theorem room_low {s : Sp} (hs : s ∈ S) (hl : lowers f s = true) : room S (lowT f s) < room S f := by
  obtain ⟨m, e, hm, hb⟩ := lowers_iff.mp hl
  refine filter_lt (s := s) (fun x hx => ?_) (by simp [lowT, opn]) ?_ _ hs
  · unfold lowT at hx
    split at hx
    · rename_i h
      rw [h]
      cases e2 : f s.b with
      | none => rfl
      | some m' =>
        have h1 := hb m' e2
        simp only [opn, decide_eq_true_eq] at hx ⊢
        omega
    · exact hx
  · cases e2 : f s.b with
    | none => rfl
    | some m' => simpa [opn] using hb m' e2
/-! ### tables -/
def tf (l : List (Option Int)) : Tbf := fun p => if 0 ≤ p then (l[p.toNat]?).join else none
theorem tf_inj {l l' : List (Option Int)} (hl : l.length = l'.length) (h : tf l = tf l') : l = l' := by
  refine List.ext_getElem? fun i => ?_
  have := congrFun h (i : Int)
  simp only [tf, Int.natCast_nonneg, if_true, Int.toNat_natCast] at this
  by_cases hi : i < l.length
  · have hi' : i < l'.length := by omega
    rw [List.getElem?_eq_getElem hi, List.getElem?_eq_getElem hi'] at this ⊢
    simpa using this
  · rw [List.getElem?_eq_none (by omega), List.getElem?_eq_none (by omega)]
theorem tf_set {l : List (Option Int)} {s : Sp} (h0 : 0 ≤ s.b) (h1 : s.b.toNat < l.length) : tf (l.set s.b.toNat (some s.u)) = lowT (tf l) s := by
  funext p
  unfold tf lowT
  by_cases hp : p = s.b
  · subst hp
    simp [h0, List.getElem?_set_self h1]
  · rw [if_neg hp]
    by_cases h : 0 ≤ p
    · simp only [h, if_true]
      rw [List.getElem?_set_ne (by omega)]
    · simp only [h, if_false]
theorem tf_start {n : Nat} {p0 m0 : Int} (h0 : 0 ≤ p0) (h1 : p0.toNat < n) : tf ((List.replicate n none).set p0.toNat (some m0)) = fun p => if p = p0 then some m0 else none := by
  funext p
  unfold tf
  by_cases hp : p = p0
  · subst hp
    rw [if_pos h0, List.getElem?_set_self (by simpa using h1)]; simp
  · rw [if_neg hp]
    by_cases h : 0 ≤ p
    · rw [if_pos h, List.getElem?_set_ne (by omega), List.getElem?_replicate]
      split <;> rfl
    · rw [if_neg h]
theorem snd_start : Snd S p0 m0 (fun p => if p = p0 then some m0 else none) := by
  intro p m q
  dsimp only at q
  split at q
  · rename_i h; subst h; cases q; exact .here
  · cases q
end
end Mw

set_option Elab.async false
set_option linter.all false
set_option autoImplicit false
set_option maxRecDepth 100000
/-! PyF2: draws. -/
namespace Mw
open PySem
def c_law_deck : CSs := (.cons (.ret (.lst (.cons (.bin .mul (.var 0) (.bi .int (.cons (.cmp .ge (.var 0) (.bin .pow (.cst (.int 10)) (.cst (.int 18)))) .nil))) (.cons (.bin .mod (.var 0) (.cst (.int 2147483629))) (.cons (.cst (.int 0)) .nil))))) .nil)
def f_law_deck : Fd := ⟨1, 1, c_law_deck⟩
def c_law_draw : CSs := (.cons (.ite (.cmp .gt (.idx (.var 0) (.cst (.int 0))) (.cst (.int 0))) (.cons (.asg (.nm 2) (.bin .mod (.idx (.var 0) (.cst (.int 0))) (.var 1))) (.cons (.put (.var 0) (.cst (.int 0)) (.bin .fdiv (.idx (.var 0) (.cst (.int 0))) (.var 1))) (.cons (.ret (.var 2)) .nil))) .nil) (.cons (.put (.var 0) (.cst (.int 2)) (.bin .add (.idx (.var 0) (.cst (.int 2))) (.cst (.int 1)))) (.cons (.asg (.nm 3) (.bin .mod (.bin .mul (.bin .add (.bin .add (.idx (.var 0) (.cst (.int 1))) (.bin .mul (.bin .mul (.cst (.int 7919)) (.idx (.var 0) (.cst (.int 2)))) (.idx (.var 0) (.cst (.int 2))))) (.cst (.int 13))) (.cst (.int 48271))) (.cst (.int 2147483647)))) (.cons (.asg (.nm 3) (.bin .mod (.bin .mul (.var 3) (.bin .add (.var 3) (.cst (.int 69621)))) (.cst (.int 2147483587)))) (.cons (.ret (.bin .mod (.bin .fdiv (.bin .mod (.bin .mul (.var 3) (.cst (.int 39373))) (.cst (.int 2147483563))) (.cst (.int 64))) (.var 1))) .nil)))))
def f_law_draw : Fd := ⟨2, 4, c_law_draw⟩
def c_law_far : CSs := (.cons (.asg (.nm 1) (.call "_law_draw" (.cons (.var 0) (.cons (.cst (.int 4)) .nil)))) (.cons (.asg (.nm 2) (.bin .add (.bin .add (.bin .mul (.call "_law_draw" (.cons (.var 0) (.cons (.cst (.int 10)) .nil))) (.bin .pow (.cst (.int 10)) (.cst (.int 12)))) (.bin .mul (.call "_law_draw" (.cons (.var 0) (.cons (.bin .pow (.cst (.int 10)) (.cst (.int 6))) .nil))) (.bin .pow (.cst (.int 10)) (.cst (.int 6))))) (.call "_law_draw" (.cons (.var 0) (.cons (.bin .pow (.cst (.int 10)) (.cst (.int 6))) .nil))))) (.cons (.ret (.idx (.lst (.cons (.var 2) (.cons (.var 2) (.cons (.bin .pow (.cst (.int 10)) (.cst (.int 13))) (.cons (.bin .fdiv (.var 2) (.bin .pow (.cst (.int 10)) (.cst (.int 6)))) .nil))))) (.var 1))) .nil)))
def f_law_far : Fd := ⟨1, 3, c_law_far⟩
/-! ### decks -/
def deckO (a b c : Int) : O := .lst [.int a, .int b, .int c]
structure Dk (B : Nat) (st : Sto) (r : Nat) : Prop where
  ex : ∃ a b c, st[r]? = some (deckO a b c) ∧ 0 ≤ b ∧ b < 2 ^ 40 ∧ 0 ≤ c ∧ c ≤ B
/-- a deck drawn from, all else as it was -/
def Upd (r : Nat) (st st' : Sto) : Prop := st' = st ∨ ∃ a b c, st' = st.set r (deckO a b c)
section
variable {st st' s2 g : Sto} {r B : Nat}
theorem Upd.refl : Upd r st st := .inl rfl
theorem Upd.trans (h : Upd r st st') (h2 : Upd r st' s2) : Upd r st s2 := by
  rcases h with rfl | ⟨a, b, c, rfl⟩
  · exact h2
  · rcases h2 with rfl | ⟨a', b', c', rfl⟩
    · exact .inr ⟨a, b, c, rfl⟩
    · exact .inr ⟨a', b', c', List.set_set ..⟩
theorem Upd.len (h : Upd r st st') : st'.length = st.length := by
  rcases h with rfl | ⟨a, b, c, rfl⟩ <;> simp
theorem Upd.get (h : Upd r st st') {j : Nat} (hj : j ≠ r) : st'[j]? = st[j]? := by
  rcases h with rfl | ⟨a, b, c, rfl⟩
  · rfl
  · rw [List.getElem?_set_ne (Ne.symm hj)]
theorem deck_low {a b c : Int} {m : Nat} : (deckO a b c).low m = true := by simp [deckO, O.low]
theorem Upd.sta (h : Upd r st st') : Sta st st' := by
  rcases h with rfl | ⟨a, b, c, rfl⟩
  · exact .refl
  · exact Sta.refl.set deck_low
/-- the deck in an older part -/
theorem Upd.app (h : Upd r (st ++ g) s2) (hr : r < st.length) : ∃ st', s2 = st' ++ g ∧ Upd r st st' := by
  rcases h with rfl | ⟨a, b, c, rfl⟩
  · exact ⟨st, rfl, .refl⟩
  · exact ⟨st.set r (deckO a b c), set_old hr, .inr ⟨a, b, c, rfl⟩⟩
theorem Dk.lt (h : Dk B st r) : r < st.length := by
  obtain ⟨a, b, c, e, _⟩ := h.ex
  exact (List.getElem?_eq_some_iff.mp e).1
theorem Dk.mono {B' : Nat} (h : Dk B st r) (hb : B ≤ B') : Dk B' st r := by
  obtain ⟨a, b, c, e, h1, h2, h3, h4⟩ := h.ex
  exact ⟨a, b, c, e, h1, h2, h3, by omega⟩
theorem Dk.app (h : Dk B st r) : Dk B (st ++ g) r := by
  obtain ⟨a, b, c, e, h1⟩ := h.ex
  exact ⟨a, b, c, get_old e, h1⟩
theorem Dk.unapp (h : Dk B (st ++ g) r) (hr : r < st.length) : Dk B st r := by
  obtain ⟨a, b, c, e, h1⟩ := h.ex
  rw [List.getElem?_append_left hr] at e
  exact ⟨a, b, c, e, h1⟩
@[simp] theorem gc_deck {d : D} {a b c : Int} (hd : d.low st.length = true) : gc st d (st.set r (.lst [.int a, .int b, .int c])) = (d, st.set r (deckO a b c)) := gc_val' (Sta.refl.set (deck_low (a := a) (b := b) (c := c))) hd
theorem gcU (h : Upd r st s2) {d : D} (hd : d.low st.length = true) : gc st d s2 = (d, s2) := gc_val' h.sta hd
theorem put_ref {xs : List D} {i : Int} {v : D} {n : Nat} (h : st[n]? = some (.lst xs)) : putApp st (.val (.ref n)) (.val (.int i)) v = (L2.ixN xs.length i).map fun j => st.set n (.lst (xs.set j v)) := by
  simp only [putApp, h]
theorem mulOk_l {i j : Int} (h : -(2 ^ 64) < i) (h2 : i < 2 ^ 64) : mulOk i j = true := decide_eq_true (.inl ⟨h, h2⟩)
theorem mulOk_r {i j : Int} (h : -(2 ^ 64) < j) (h2 : j < 2 ^ 64) : mulOk i j = true := decide_eq_true (.inr ⟨h, h2⟩)
end
section
variable {T : Tab} {n k : Nat} {st : Sto} {r B : Nat}
theorem draw_ok (hT : Has T "_law_draw" f_law_draw) (h : Dk B st r) (hB : B ≤ 10 ^ 12) {m : Int} (h1 : 0 < m) (h2 : m < 1073741824) :
    ∃ x st', callF T n (k + 1) "_law_draw" [.ref r, .int m] st = some (.int x, st') ∧ 0 ≤ x ∧ x < m ∧ Dk (B + 1) st' r ∧ Upd r st st' := by
  obtain ⟨a, b, c, e, b1, b2, c1, c2⟩ := h.ex
  have hlt := h.lt
  unfold deckO at e
  by_cases ha : 0 < a
  · refine ⟨a % m, st.set r (deckO (a / m) b c), callF_eq (callF_w hT rfl ?_), Int.emod_nonneg _ (by omega), Int.emod_lt_of_pos _ h1, ⟨_, _, _, List.getElem?_set_self hlt, b1, b2, c1, by omega⟩, .inr ⟨_, _, _, rfl⟩⟩
    simp [f_law_draw, c_law_draw, wB_cons, idx_ref e, ha, h1, h2, put_ref e, L2.ixN]
  · have hp : -(2 ^ 64) < c + 1 ∧ c + 1 < 2 ^ 64 := by omega
    have m1 : mulOk 7919 (c + 1) = true := mulOk_l (by decide) (by decide)
    have m2 : mulOk (7919 * (c + 1)) (c + 1) = true := mulOk_r hp.1 hp.2
    have m3 : ∀ x : Int, mulOk x 48271 = true := fun x => mulOk_r (by decide) (by decide)
    have m4 : ∀ x y : Int, mulOk (x % 2147483647) y = true := fun x y => mulOk_l (by omega) (by omega)
    have m5 : ∀ x : Int, mulOk x 39373 = true := fun x => mulOk_r (by decide) (by decide)
    have e2 : ∀ o : O, (st.set r o)[r]? = some o := fun o => List.getElem?_set_self hlt
    refine ⟨(b + 7919 * (c + 1) * (c + 1) + 13) * 48271 % 2147483647 * ((b + 7919 * (c + 1) * (c + 1) + 13) * 48271 % 2147483647 + 69621) % 2147483587 * 39373 % 2147483563 / 64 % m, st.set r (deckO a b (c + 1)), callF_eq (callF_w hT rfl ?_), Int.emod_nonneg _ (by omega), Int.emod_lt_of_pos _ h1, ⟨_, _, _, e2 _, b1, b2, by omega, by omega⟩, .inr ⟨_, _, _, rfl⟩⟩
    simp [f_law_draw, c_law_draw, wB_cons, idx_ref e, ha, h1, h2, put_ref e, L2.ixN, idx_ref (e2 _), m1, m2, m3, m4, m5]
theorem draw_w (hT : Has T "_law_draw" f_law_draw) (h : Dk B st r) (hB : B ≤ 10 ^ 12) {m : Int} (h1 : 0 < m) (h2 : m < 1073741824) {Q : D → Sto → Prop}
    (q : ∀ x st', 0 ≤ x → x < m → Dk (B + 1) st' r → Upd r st st' → Q (.int x) st') : ok2 (callF T n (k + 1) "_law_draw" [.ref r, .int m] st) Q := by
  obtain ⟨x, st', e, a1, a2, a3, a4⟩ := draw_ok (k := k) (n := n) hT h hB h1 h2
  rw [e]
  exact q x st' a1 a2 a3 a4
theorem deck_ok (hT : Has T "_law_deck" f_law_deck) {x : Int} : ∃ a b, callF T n (k + 1) "_law_deck" [.int x] st = some (.ref st.length, st ++ [deckO a b 0]) ∧ 0 ≤ b ∧ b < 2 ^ 40 := by
  refine ⟨x * (if 10 ^ 18 ≤ x then 1 else 0), x % 2147483629, callF_eq (callF_w hT rfl ?_), by omega, by omega⟩
  have m1 : mulOk x (if 1000000000000000000 ≤ x then 1 else 0) = true := mulOk_r (by split <;> decide) (by split <;> decide)
  have p1 : powOk 10 18 = true := by decide
  have g1 : ∀ a b, gc st (.ref st.length) (st ++ [.lst [.int a, .int b, .int 0]]) = (.ref st.length, st ++ [deckO a b 0]) := fun a b => gc_one (deck_low (a := a) (b := b) (c := 0))
  have m0 : mulOk x 0 = true := mulOk_r (by decide) (by decide)
  have m2 : mulOk x 1 = true := mulOk_r (by decide) (by decide)
  by_cases hx : (1000000000000000000 : Int) ≤ x
  · simp [f_law_deck, c_law_deck, wB_cons, p1, m2, hx, g1]
  · simp [f_law_deck, c_law_deck, wB_cons, p1, m0, hx, g1]
theorem far_ok (hT : Has T "_law_draw" f_law_draw) (hF : Has T "_law_far" f_law_far) (h : Dk B st r) (hB : B ≤ 10 ^ 11) :
    ∃ x st', callF T n (k + 2) "_law_far" [.ref r] st = some (.int x, st') ∧ 0 ≤ x ∧ x ≤ 10 ^ 13 ∧ Dk (B + 4) st' r ∧ Upd r st st' := by
  have key : ok2 (callF T n (k + 2) "_law_far" [.ref r] st) fun d s => ∃ x, d = .int x ∧ 0 ≤ x ∧ x ≤ 10 ^ 13 ∧ Dk (B + 4) s r ∧ Upd r st s := by
    refine callF_w hF rfl ?_
    have p1 : powOk 10 12 = true := by decide
    have p2 : powOk 10 6 = true := by decide
    have p3 : powOk 10 13 = true := by decide
    have m1 : ∀ x : Int, mulOk x 1000000 = true := fun x => mulOk_r (by decide) (by decide)
    have m2 : ∀ x : Int, mulOk x 1000000000000 = true := fun x => mulOk_r (by decide) (by decide)
    simp [f_law_far, c_law_far, wB_cons]
    refine draw_w hT h (by omega) (by decide) (by decide) fun x1 s1 a1 b1 d1 u1 => ?_
    simp
    refine draw_w hT d1 (by omega) (by decide) (by decide) fun x2 s2 a2 b2 d2 u2 => ?_
    simp [p1, p2, m2]
    refine draw_w hT d2 (by omega) (by decide) (by decide) fun x3 s3 a3 b3 d3 u3 => ?_
    simp [p2, m1]
    refine draw_w hT d3 (by omega) (by decide) (by decide) fun x4 s4 a4 b4 d4 u4 => ?_
    simp [p2, p3]
    have u := ((u1.trans u2).trans u3).trans u4
    have gu := fun v : Int => gcU u (d := .int v) rfl
    obtain rfl | rfl | rfl | rfl : x1 = 0 ∨ x1 = 1 ∨ x1 = 2 ∨ x1 = 3 := by omega
    all_goals
      simp [gu]
      first | exact ⟨by omega, by omega, d4.mono (by omega), u⟩ | exact ⟨d4.mono (by omega), u⟩ | exact ⟨by omega, d4.mono (by omega), u⟩
  obtain ⟨d, s, e, x, rfl, q⟩ := ok2_ex.mp key
  exact ⟨x, s, e, q⟩
end
def c_law_begin : CSs := (.cons (.ite (.and (.cmp .eq (.var 1) (.cst (.int 1))) (.cmp .ne (.var 2) (.lst .nil))) (.cons (.asg (.nm 3) (.idx (.var 2) (.call "_law_draw" (.cons (.var 0) (.cons (.bi .len (.cons (.var 2) .nil)) .nil))))) (.cons (.ret (.bi .max (.cons (.cst (.int 0)) (.cons (.bi .min (.cons (.bin .pow (.cst (.int 10)) (.cst (.int 13))) (.cons (.bin .sub (.bin .add (.bin .add (.idx (.var 3) (.cst (.int 3))) (.idx (.var 3) (.cst (.int 4)))) (.call "_law_draw" (.cons (.var 0) (.cons (.cst (.int 3)) .nil)))) (.cst (.int 1))) .nil))) .nil)))) .nil)) .nil) (.cons (.ite (.cmp .eq (.var 1) (.cst (.int 2))) (.cons (.ret (.idx (.lst (.cons (.cst (.int 7)) (.cons (.cst (.int 8)) .nil))) (.bi .int (.cons (.cmp .eq (.call "_law_draw" (.cons (.var 0) (.cons (.cst (.int 6)) .nil))) (.cst (.int 0))) .nil)))) .nil) .nil) (.cons (.ite (.cmp .eq (.var 1) (.cst (.int 3))) (.cons (.ret (.call "_law_far" (.cons (.var 0) .nil))) .nil) .nil) (.cons (.ret (.call "_law_draw" (.cons (.var 0) (.cons (.cst (.int 31)) .nil)))) .nil))))
def f_law_begin : Fd := ⟨3, 4, c_law_begin⟩
def c_law_meeting : CSs := (.cons (.asg (.nm 4) (.call "_law_draw" (.cons (.var 0) (.cons (.cst (.int 12)) .nil)))) (.cons (.asg (.nm 5) (.cmp .eq (.call "_law_draw" (.cons (.var 0) (.cons (.cst (.int 4)) .nil))) (.cst (.int 1)))) (.cons (.asg (.nm 6) (.idx (.lst (.cons (.cst (.str "to")) (.cons (.cst (.str "both")) .nil))) (.call "_law_draw" (.cons (.var 0) (.cons (.cst (.int 2)) .nil))))) (.cons (.asg (.nm 7) (.call "_law_draw" (.cons (.var 0) (.cons (.var 1) .nil)))) (.cons (.asg (.nm 8) (.bin .mod (.bin .add (.bin .add (.var 7) (.cst (.int 1))) (.call "_law_draw" (.cons (.var 0) (.cons (.bin .sub (.var 1) (.cst (.int 1))) .nil)))) (.var 1))) (.cons (.ite (.var 5) (.cons (.asg (.nm 7) (.bin .mod (.bi .len (.cons (.var 2) .nil)) (.var 1))) (.cons (.asg (.nm 8) (.bin .mod (.bin .add (.var 7) (.cst (.int 1))) (.var 1))) .nil)) .nil) (.cons (.asg (.nm 9) (.call "_law_begin" (.cons (.var 0) (.cons (.var 3) (.cons (.var 2) .nil))))) (.cons (.asg (.nm 10) (.bin .add (.cst (.int 1)) (.call "_law_draw" (.cons (.var 0) (.cons (.idx (.lst (.cons (.cst (.int 4)) (.cons (.cst (.int 12)) .nil))) (.call "_law_draw" (.cons (.var 0) (.cons (.cst (.int 2)) .nil)))) .nil))))) (.cons (.ite (.and (.cmp .eq (.var 3) (.cst (.int 3))) (.cmp .eq (.call "_law_draw" (.cons (.var 0) (.cons (.cst (.int 3)) .nil))) (.cst (.int 0)))) (.cons (.asg (.nm 10) (.bi .max (.cons (.cst (.int 1)) (.cons (.call "_law_far" (.cons (.var 0) .nil)) .nil)))) .nil) .nil) (.cons (.ite (.and (.cmp .eq (.var 4) (.cst (.int 5))) (.cmp .ne (.var 2) (.lst .nil))) (.cons (.ret (.idx (.var 2) (.call "_law_draw" (.cons (.var 0) (.cons (.bi .len (.cons (.var 2) .nil)) .nil))))) .nil) .nil) (.cons (.ret (.tup (.cons (.var 6) (.cons (.var 7) (.cons (.var 8) (.cons (.var 9) (.cons (.var 10) .nil))))))) .nil)))))))))))
def f_law_meeting : Fd := ⟨4, 11, c_law_meeting⟩
def c_law_many : CSs := (.cons (.ret (.idx (.lst (.cons (.bin .add (.cst (.int 1)) (.call "_law_draw" (.cons (.var 0) (.cons (.cst (.int 6)) .nil)))) (.cons (.cst (.int 10)) .nil))) (.bi .int (.cons (.cmp .eq (.call "_law_draw" (.cons (.var 0) (.cons (.cst (.int 8)) .nil))) (.cst (.int 5))) .nil)))) .nil)
def f_law_many : Fd := ⟨1, 1, c_law_many⟩
def c_law_net : CSs := (.cons (.asg (.nm 1) (.call "_law_draw" (.cons (.var 0) (.cons (.cst (.int 6)) .nil)))) (.cons (.asg (.nm 2) (.cmp .eq (.call "_law_draw" (.cons (.var 0) (.cons (.cst (.int 8)) .nil))) (.cst (.int 5)))) (.cons (.asg (.nm 3) (.call "_law_many" (.cons (.var 0) .nil))) (.cons (.asg (.nm 4) (.lst .nil)) (.cons (.for (.nm 5) (.rng (.cons (.bin .mul (.idx (.lst (.cons (.call "_law_draw" (.cons (.var 0) (.cons (.cst (.int 13)) .nil))) (.cons (.cst (.int 40)) .nil))) (.bi .int (.cons (.var 2) .nil))) (.bi .int (.cons (.cmp .gt (.var 3) (.cst (.int 1))) .nil))) .nil)) (.cons (.expr (.mt .append (.var 4) (.cons (.call "_law_meeting" (.cons (.var 0) (.cons (.var 3) (.cons (.var 4) (.cons (.var 1) .nil))))) .nil))) .nil)) (.cons (.ret (.tup (.cons (.var 3) (.cons (.bi .tuple (.cons (.var 4) .nil)) .nil)))) .nil))))))
def f_law_net : Fd := ⟨1, 6, c_law_net⟩

section
variable {T : Tab} {n k : Nat} {st : Sto} {r B : Nat}
theorem far_w (hT : Has T "_law_draw" f_law_draw) (hF : Has T "_law_far" f_law_far) (h : Dk B st r) (hB : B ≤ 10 ^ 11) {Q : D → Sto → Prop}
    (q : ∀ x st', 0 ≤ x → x ≤ 10 ^ 13 → Dk (B + 4) st' r → Upd r st st' → Q (.int x) st') : ok2 (callF T n (k + 2) "_law_far" [.ref r] st) Q := by
  obtain ⟨x, st', e, a1, a2, a3, a4⟩ := far_ok (k := k) (n := n) hT hF h hB
  rw [e]
  exact q x st' a1 a2 a3 a4
theorem plL_mt {l : List Mt} : plL 59 (l.map mtD) = true := by
  rw [plL_all]
  intro x hx
  obtain ⟨m, _, rfl⟩ := List.mem_map.mp hx
  cases hb : m.bo <;> simp [mtD, wdD, pl, plL, hb] <;> decide +kernel
theorem nbL_mt {l : List Mt} : nbL (l.map mtD) = true := by
  rw [nbL_all]
  intro x hx
  obtain ⟨m, _, rfl⟩ := List.mem_map.mp hx
  simp [mtD, wdD, nb, nbL]
theorem ne_nil {ms : List Mt} {q : Nat} (h : st[q]? = some (.lst (ms.map mtD))) : pyEq st (.val (.ref q)) (.tmp []) = some (decide (ms = [])) := by
  rw [pyEq_list (listOf_ref h) rfl plL_mt rfl nbL_mt rfl]
  simp
theorem begin_ok (hT : Has T "_law_draw" f_law_draw) (hF : Has T "_law_far" f_law_far) (hG : Has T "_law_begin" f_law_begin) (h : Dk B st r) (hB : B ≤ 10 ^ 10) {q : Nat} {ms : List Mt} (hq : st[q]? = some (.lst (ms.map mtD))) (hl : ms.length < 1000000) (hqr : q ≠ r) {w : Int} :
    ok2 (callF T n (k + 3) "_law_begin" [.ref r, .int w, .ref q] st) fun d s => ∃ x, d = .int x ∧ 0 ≤ x ∧ x ≤ 10 ^ 13 ∧ Dk (B + 9) s r ∧ Upd r st s := by
  refine callF_w hG rfl ?_
  have p3 : powOk 10 13 = true := by decide
  have fin : ∀ (x : Int) (s : Sto) (j : Nat), 0 ≤ x → x ≤ 10000000000000 → Dk (B + j) s r → j ≤ 9 → Upd r st s → ∃ y, (gc st (.int x) s).1 = D.int y ∧ 0 ≤ y ∧ y ≤ 10000000000000 ∧ Dk (B + 9) (gc st (.int x) s).2 r ∧ Upd r st (gc st (.int x) s).2 :=
    fun x s j h1 h2 h3 h4 h5 => by rw [gcU h5 rfl]; exact ⟨x, rfl, h1, h2, h3.mono (by omega), h5⟩
  have rest : w ≠ 1 ∨ ms = [] → wB (callF T n (k + 2)) n (.cons (.ite (.cmp .eq (.var 1) (.cst (.int 2))) (.cons (.ret (.idx (.lst (.cons (.cst (.int 7)) (.cons (.cst (.int 8)) .nil))) (.bi .int (.cons (.cmp .eq (.call "_law_draw" (.cons (.var 0) (.cons (.cst (.int 6)) .nil))) (.cst (.int 0))) .nil)))) .nil) .nil) (.cons (.ite (.cmp .eq (.var 1) (.cst (.int 3))) (.cons (.ret (.call "_law_far" (.cons (.var 0) .nil))) .nil) .nil) (.cons (.ret (.call "_law_draw" (.cons (.var 0) (.cons (.cst (.int 31)) .nil)))) .nil))) [some (.ref r), some (.int w), some (.ref q), none] st fun fl _ s' => match fl with
      | .rt d => ∃ x, (gc st d s').1 = D.int x ∧ 0 ≤ x ∧ x ≤ 10000000000000 ∧ Dk (B + 9) (gc st d s').2 r ∧ Upd r st (gc st d s').2
      | .nx => ∃ x, (gc st .non s').1 = D.int x ∧ 0 ≤ x ∧ x ≤ 10000000000000 ∧ Dk (B + 9) (gc st .non s').2 r ∧ Upd r st (gc st .non s').2
      | _ => False := fun _ => by
    by_cases w2 : w = 2
    · simp [wB_cons, w2]
      refine draw_w hT h (by omega) (by decide) (by decide) fun x1 s1 a1 b1 d1 u1 => ?_
      by_cases hx : x1 = 0
      · simp [hx]; exact fin 8 s1 1 (by decide) (by decide) d1 (by decide) u1
      · simp [hx]; exact fin 7 s1 1 (by decide) (by decide) d1 (by decide) u1
    · by_cases w3 : w = 3
      · simp [wB_cons, w3]
        exact far_w hT hF h (by omega) fun x1 s1 a1 b1 d1 u1 => fin x1 s1 4 a1 b1 d1 (by decide) u1
      · simp [wB_cons, w2, w3]
        exact draw_w hT h (by omega) (by decide) (by decide) fun x1 s1 a1 b1 d1 u1 => fin x1 s1 1 a1 (by omega) d1 (by decide) u1
  by_cases w1 : w = 1
  · by_cases hm : ms = []
    · simp [f_law_begin, c_law_begin, w1, ne_nil hq, hm]
      rw [wB_cons]
      simp [ne_nil hq, hm]
      have := rest (.inr hm)
      rw [w1] at this
      exact this
    · have hpos : 0 < ms.length := List.length_pos_iff.mpr hm
      simp [f_law_begin, c_law_begin, wB_cons, w1, ne_nil hq, hm, len_ref hq]
      refine draw_w hT h (by omega) (by omega) (by omega) fun x1 s1 a1 b1 d1 u1 => ?_
      obtain ⟨j, rfl⟩ := Int.eq_ofNat_of_zero_le a1
      have hj : j < ms.length := by omega
      have hat : L2.atI (ms.map mtD) (j : Int) = some (mtD ms[j]) := atI_n (by simp [hj])
      simp [idx_ref ((u1.get hqr).trans hq), hat, p3, mtD]
      refine draw_w hT d1 (by omega) (by decide) (by decide) fun x2 s2 a2 b2 d2 u2 => ?_
      simp
      refine fin _ s2 2 ?_ ?_ d2 (by decide) (u1.trans u2)
      · split <;> omega
      · repeat' split
        all_goals omega
  · simp [f_law_begin, c_law_begin]
    rw [wB_cons]
    simp [w1]
    exact rest (.inl w1)
theorem begin_w (hT : Has T "_law_draw" f_law_draw) (hF : Has T "_law_far" f_law_far) (hG : Has T "_law_begin" f_law_begin) (h : Dk B st r) (hB : B ≤ 10 ^ 10) {q : Nat} {ms : List Mt} (hq : st[q]? = some (.lst (ms.map mtD))) (hl : ms.length < 1000000) (hqr : q ≠ r) {w : Int} {Q : D → Sto → Prop}
    (c : ∀ x st', 0 ≤ x → x ≤ 10 ^ 13 → Dk (B + 9) st' r → Upd r st st' → Q (.int x) st') : ok2 (callF T n (k + 3) "_law_begin" [.ref r, .int w, .ref q] st) Q := by
  obtain ⟨d, s, e, x, rfl, a1, a2, a3, a4⟩ := ok2_ex.mp (begin_ok (k := k) (n := n) (w := w) hT hF hG h hB hq hl hqr)
  rw [e]
  exact c x s a1 a2 a3 a4
def Mt.sm (m : Mt) : Prop := m.t ≤ 10 ^ 13 ∧ m.l ≤ 10 ^ 13
theorem meeting_ok (hT : Has T "_law_draw" f_law_draw) (hF : Has T "_law_far" f_law_far) (hG : Has T "_law_begin" f_law_begin) (hM : Has T "_law_meeting" f_law_meeting) (h : Dk B st r) (hB : B ≤ 10 ^ 9) {q : Nat} {ms : List Mt} (hq : st[q]? = some (.lst (ms.map mtD))) (hl : ms.length < 1000000) (hqr : q ≠ r) {w m : Int} (hm1 : 2 ≤ m) (hm2 : m < 1000000) (hms : ∀ x ∈ ms, x.ok m ∧ x.sm) :
    ok2 (callF T n (k + 4) "_law_meeting" [.ref r, .int m, .ref q, .int w] st) fun d s => ∃ x : Mt, d = mtD x ∧ x.ok m ∧ x.sm ∧ Dk (B + 40) s r ∧ Upd r st s := by
  refine callF_f hM rfl ?_
  have p3 : powOk 10 13 = true := by decide
  -- the last two statements
  have last : ∀ (ag : Int) (x : Mt) (s : Sto) (j : Nat) (o1 : Option D), x.ok m → x.sm → Dk (B + j) s r → j ≤ 35 → Upd r st s →
      wB (callF T n (k + 3)) n (tailC 9 c_law_meeting) [some (.ref r), some (.int m), some (.ref q), some (.int w), some (.int ag), o1, some (wdD x.bo), some (.int x.a), some (.int x.b), some (.int x.t), some (.int x.l)] s (fin st fun d s => ∃ x : Mt, d = mtD x ∧ x.ok m ∧ x.sm ∧ Dk (B + 40) s r ∧ Upd r st s) := by
    intro ag x s j o1 hx hs hd hj hu
    have hq' : s[q]? = some (.lst (ms.map mtD)) := (hu.get hqr).trans hq
    have fin1 : ∀ (x : Mt) (s : Sto) (j : Nat), x.ok m → x.sm → Dk (B + j) s r → j ≤ 40 → Upd r st s → ∃ y : Mt, (gc st (mtD x) s).1 = mtD y ∧ y.ok m ∧ y.sm ∧ Dk (B + 40) (gc st (mtD x) s).2 r ∧ Upd r st (gc st (mtD x) s).2 :=
      fun x s j h1 h2 h3 h4 h5 => by rw [gcU h5 (by simp [mtD, wdD])]; exact ⟨x, rfl, h1, h2, h3.mono (by omega), h5⟩
    show wB _ _ (.cons _ (.cons _ .nil)) _ _ _
    by_cases ha : ag = 5 ∧ ms ≠ []
    · obtain ⟨rfl, ha⟩ := ha
      have hpos : 0 < ms.length := List.length_pos_iff.mpr ha
      simp [wB_cons, ne_nil hq', ha, len_ref hq']
      refine draw_w hT hd (by omega) (by omega) (by omega) fun x1 s1 a1 b1 d1 u1 => ?_
      obtain ⟨i, rfl⟩ := Int.eq_ofNat_of_zero_le a1
      have hi : i < ms.length := by omega
      have hat : L2.atI (ms.map mtD) (i : Int) = some (mtD ms[i]) := atI_n (by simp [hi])
      simp [idx_ref ((u1.get hqr).trans hq'), hat]
      exact fin1 ms[i] s1 (j + 1) (hms _ (List.getElem_mem hi)).1 (hms _ (List.getElem_mem hi)).2 d1 (by omega) (hu.trans u1)
    · have : ag ≠ 5 ∨ ms = [] := by
        by_cases h5 : ag = 5
        · by_cases hm0 : ms = []
          · exact .inr hm0
          · exact (ha ⟨h5, hm0⟩).elim
        · exact .inl h5
      by_cases h5 : ag = 5
      · have h0 := this.resolve_left (not_not_intro h5)
        simp [wB_cons, ne_nil hq', h0, h5]
        exact fin1 x s j hx hs hd (by omega) hu
      · simp [wB_cons, h5]
        exact fin1 x s j hx hs hd (by omega) hu
  have mid : ∀ (ag : Int) (o1 : Option D) (bo : Bool) (a b : Int) (s : Sto) (j : Nat), 0 ≤ a → a < m → 0 ≤ b → b < m → a ≠ b → Dk (B + j) s r → j ≤ 8 → Upd r st s →
      wB (callF T n (k + 3)) n (tailC 6 c_law_meeting) [some (.ref r), some (.int m), some (.ref q), some (.int w), some (.int ag), o1, some (wdD bo), some (.int a), some (.int b), none, none] s (fin st fun d s => ∃ x : Mt, d = mtD x ∧ x.ok m ∧ x.sm ∧ Dk (B + 40) s r ∧ Upd r st s) := by
    intro ag o1 bo a b s j a1 a2 b1 b2 hab hd hj hu
    have hq' : s[q]? = some (.lst (ms.map mtD)) := (hu.get hqr).trans hq
    show wB _ _ (.cons _ (.cons _ (.cons _ (tailC 9 c_law_meeting)))) _ _ _
    rw [wB_cons]
    try simp
    refine begin_w hT hF hG hd (by omega) hq' hl hqr fun x6 s6 a6 b6 d6 u6 => ?_
    rw [wB_cons]
    try simp
    refine draw_w hT d6 (by omega) (by omega) (by omega) fun x7 s7 a7 b7 d7 u7 => ?_
    have h4 : ∃ v : Int, L2.atI [D.int 4, D.int 12] x7 = some (.int v) ∧ 0 < v ∧ v ≤ 12 := by
      obtain rfl | rfl : x7 = 0 ∨ x7 = 1 := by omega
      · exact ⟨4, by simp, by decide, by decide⟩
      · exact ⟨12, by simp, by decide, by decide⟩
    obtain ⟨v, hv, hv1, hv2⟩ := h4
    simp [hv]
    refine draw_w hT d7 (by omega) (by omega) (by omega) fun x8 s8 a8 b8 d8 u8 => ?_
    try simp
    rw [wB_cons]
    have u0 := ((hu.trans u6).trans u7).trans u8
    by_cases hw : w = 3
    · simp [hw]
      refine draw_w hT d8 (by omega) (by omega) (by omega) fun x9 s9 a9 b9 d9 u9 => ?_
      by_cases h9 : x9 = 0
      · simp [h9]
        rw [wB_cons]
        try simp
        refine far_w hT hF d9 (by omega) fun x10 s10 a10 b10 d10 u10 => ?_
        try simp
        have := last ag ⟨bo, a, b, x6, if 1 < x10 then x10 else 1⟩ s10 (j + 9 + 1 + 1 + 1 + 4) o1 ⟨a1, a2, b1, b2, hab, a6, by dsimp only; split <;> omega⟩ ⟨by dsimp only; omega, by dsimp only; split <;> omega⟩ d10 (by omega) ((u0.trans u9).trans u10)
        rw [hw] at this
        exact this
      · simp [h9]
        have := last ag ⟨bo, a, b, x6, 1 + x8⟩ s9 (j + 9 + 1 + 1 + 1) o1 ⟨a1, a2, b1, b2, hab, a6, by dsimp only; omega⟩ ⟨by dsimp only; omega, by dsimp only; omega⟩ d9 (by omega) (u0.trans u9)
        rw [hw] at this
        exact this
    · simp [hw]
      exact last ag ⟨bo, a, b, x6, 1 + x8⟩ s8 (j + 9 + 1 + 1) o1 ⟨a1, a2, b1, b2, hab, a6, by dsimp only; omega⟩ ⟨by dsimp only; omega, by dsimp only; omega⟩ d8 (by omega) u0
  show wB _ _ (.cons _ (.cons _ (.cons _ (.cons _ (.cons _ (.cons _ (tailC 6 c_law_meeting))))))) _ _ _
  rw [wB_cons]
  simp [f_law_meeting]
  refine draw_w hT h (by omega) (by omega) (by omega) fun x1 s1 a1 b1 d1 u1 => ?_
  rw [wB_cons]
  try simp
  refine draw_w hT d1 (by omega) (by omega) (by omega) fun x2 s2 a2 b2 d2 u2 => ?_
  have hch : ∀ s, pyEq s (.val (.int x2)) (.val (.int 1)) = some (decide (x2 = 1)) := fun s => pyEq_int
  simp only [hch, Option.some.injEq, exists_eq_left']
  generalize decide (x2 = 1) = ch
  try simp
  rw [wB_cons]
  try simp
  refine draw_w hT d2 (by omega) (by omega) (by omega) fun x3 s3 a3 b3 d3 u3 => ?_
  have hwd : ∃ bo, L2.atI [D.str "to", D.str "both"] x3 = some (wdD bo) := by
    obtain rfl | rfl : x3 = 0 ∨ x3 = 1 := by omega
    · exact ⟨false, by simp [wdD]⟩
    · exact ⟨true, by simp [wdD]⟩
  obtain ⟨bo, hbo⟩ := hwd
  simp [hbo]
  rw [wB_cons]
  try simp
  refine draw_w hT d3 (by omega) (by omega) (by omega) fun x4 s4 a4 b4 d4 u4 => ?_
  try simp
  rw [wB_cons]
  try simp
  refine draw_w hT d4 (by omega) (by omega) (by omega) fun x5 s5 a5 b5 d5 u5 => ?_
  have hm0 : 0 < m := by omega
  simp [hm0]
  have u := (((u1.trans u2).trans u3).trans u4).trans u5
  have hq5 : s5[q]? = some (.lst (ms.map mtD)) := (u.get hqr).trans hq
  rw [wB_cons]
  cases ch with
  | false =>
    try simp
    refine mid x1 _ bo x4 ((x4 + 1 + x5) % m) s5 5 a4 b4 (Int.emod_nonneg _ (by omega)) (Int.emod_lt_of_pos _ hm0) ?_ d5 (by omega) u
    by_cases hlt : x4 + 1 + x5 < m
    · rw [Int.emod_eq_of_lt (by omega) hlt]; omega
    · have : (x4 + 1 + x5) % m = x4 + 1 + x5 - m := by
        rw [← Int.sub_emod_right, Int.emod_eq_of_lt (by omega) (by omega)]
      omega
  | true =>
    simp [wB_cons, len_ref hq5, hm0]
    refine mid x1 _ bo ((ms.length : Int) % m) (((ms.length : Int) + 1) % m) s5 5 (Int.emod_nonneg _ (by omega)) (Int.emod_lt_of_pos _ hm0) (Int.emod_nonneg _ (by omega)) (Int.emod_lt_of_pos _ hm0) ?_ d5 (by omega) u
    rw [← Int.emod_add_emod]
    have c1 := Int.emod_nonneg (ms.length : Int) (show m ≠ 0 by omega)
    have c2 := Int.emod_lt_of_pos (ms.length : Int) hm0
    generalize (ms.length : Int) % m = z at c1 c2 ⊢
    by_cases hlt : z + 1 < m
    · rw [Int.emod_eq_of_lt (by omega) hlt]; omega
    · have : (z + 1) % m = 0 := by
        have : z + 1 = m := by omega
        rw [this, Int.emod_self]
      omega
end
end Mw

set_option Elab.async false
set_option linter.all false
set_option autoImplicit false
set_option maxRecDepth 100000
/-! PyF3: nets drawn. -/
namespace Mw
open PySem
section
variable {T : Tab} {n k : Nat} {st : Sto} {r B : Nat}
theorem many_ok (hT : Has T "_law_draw" f_law_draw) (hM : Has T "_law_many" f_law_many) (h : Dk B st r) (hB : B ≤ 10 ^ 9) {Q : D → Sto → Prop}
    (c : ∀ x st', 1 ≤ x → x ≤ 10 → Dk (B + 2) st' r → Upd r st st' → Q (.int x) st') : ok2 (callF T n (k + 2) "_law_many" [.ref r] st) Q := by
  refine callF_f hM rfl ?_
  simp [f_law_many, c_law_many, wB_cons]
  refine draw_w hT h (by omega) (by omega) (by omega) fun x1 s1 a1 b1 d1 u1 => ?_
  try simp
  refine draw_w hT d1 (by omega) (by omega) (by omega) fun x2 s2 a2 b2 d2 u2 => ?_
  have gu := fun v : Int => gcU (u1.trans u2) (d := .int v) rfl
  by_cases h5 : x2 = 5
  · simp [h5, gu]; exact c 10 s2 (by decide) (by decide) d2 (u1.trans u2)
  · simp [h5, gu]; exact c (1 + x1) s2 (by omega) (by omega) d2 (u1.trans u2)
theorem rng_one {j : Int} (h : 0 ≤ j) (h2 : j < 1000000) : rngOf [.val (.int j)] = some ⟨rangeD 0 j.toNat, [], true⟩ := by
  have : i62 j = true := i62_iff.mpr ⟨by omega, by omega⟩
  simp [rngOf, this]
@[simp] theorem rangeD_len {lo : Int} {n : Nat} : (rangeD lo n).length = n := by simp [rangeD]
def netI (st : Sto) (r B : Nat) (m w cnt : Int) (o2 : Option D) (xs : List D) (ρ : Env) (s : Sto) : Prop :=
  ∃ (ms : List Mt) (s' : Sto) (o5 : Option D), s = s' ++ [.lst (ms.map mtD)] ∧ Upd r st s' ∧ Dk (B + 10 + 40 * ms.length) s' r ∧ (ms.length + xs.length : Int) = cnt ∧ (∀ x ∈ ms, x.ok m ∧ x.sm) ∧ ρ = [some (.ref r), some (.int w), o2, some (.int m), some (.ref st.length), o5]
theorem net_ok (hT : Has T "_law_draw" f_law_draw) (hF : Has T "_law_far" f_law_far) (hG : Has T "_law_begin" f_law_begin) (hM : Has T "_law_meeting" f_law_meeting) (hMa : Has T "_law_many" f_law_many) (hN : Has T "_law_net" f_law_net) (h : Dk B st r) (hB : B ≤ 10 ^ 8) {Q : D → Sto → Prop}
    (c : ∀ (m : Int) (ms : List Mt) (st' : Sto), 1 ≤ m → m ≤ 10 → ms.length ≤ 40 → (∀ x ∈ ms, x.ok m ∧ x.sm) → Dk (B + 2000) st' r → Upd r st st' → Q (netD m ms) st') : ok2 (callF T n (k + 5) "_law_net" [.ref r] st) Q := by
  have hlt := h.lt
  refine callF_f hN rfl ?_
  simp [f_law_net, c_law_net, wB_cons]
  refine draw_w hT h (by omega) (by omega) (by omega) fun x1 s1 a1 b1 d1 u1 => ?_
  try simp
  refine draw_w hT d1 (by omega) (by omega) (by omega) fun x2 s2 a2 b2 d2 u2 => ?_
  simp only [pyEq_int, okO_some]
  generalize decide (x2 = 5) = gr
  try simp
  refine many_ok hT hMa d2 (by omega) fun m s3 a3 b3 d3 u3 => ?_
  have u := (u1.trans u2).trans u3
  try simp
  refine draw_w hT (d3.app) (by omega) (by omega) (by omega) fun x4 s4 a4 b4 d4 u4 => ?_
  obtain ⟨s5, rfl, u5⟩ := u4.app (by rw [u.len]; exact hlt)
  have d5 := d4.unapp (by rw [u5.len, u.len]; exact hlt)
  have hcnt : ∃ v : Int, L2.atI [D.int x4, D.int 40] (if gr = true then 1 else 0) = some (.int v) ∧ 0 ≤ v ∧ v ≤ 40 := by
    cases gr
    · exact ⟨x4, by simp, a4, by omega⟩
    · exact ⟨40, by simp, by decide, by decide⟩
  obtain ⟨v, hv, hv1, hv2⟩ := hcnt
  have m1 : mulOk v (if 1 < m then 1 else 0) = true := mulOk_l (by omega) (by omega)
  simp [hv, m1]
  have hcn : 0 ≤ (v * if 1 < m then 1 else 0) ∧ (v * if 1 < m then 1 else 0) ≤ 40 ∧ (0 < (v * if 1 < m then 1 else 0) → 2 ≤ m) := by
    by_cases hm : 1 < m
    · simp only [hm, if_true, Int.mul_one]; omega
    · simp only [hm, if_false, Int.mul_zero]; omega
  generalize (v * if 1 < m then 1 else 0) = cnt at hcn
  obtain ⟨hc1, hc2, hc3⟩ := hcn
  rw [rng_one hc1 (by omega)]
  simp
  have us := u.trans u5
  have el : s3.length = st.length := u.len
  rw [el]
  refine forL_w (netI st r B m x1 cnt (some (.bl gr))) ?_ ?_ _ _ _ ⟨[], s5, none, rfl, us, d5.mono (by simp), ?_, by simp, rfl⟩
  · rintro ρ s ⟨ms, s', o5, rfl, hu, hd, hl, hok, rfl⟩
    simp at hl
    have hg : (s' ++ [O.lst (ms.map mtD)])[st.length]? = some (.lst (ms.map mtD)) := by rw [← hu.len]; exact get_last
    refine ⟨rfl, ?_⟩
    simp [tup_ref hg]
    have hgc : gc st (netD m ms) (s' ++ [O.lst (ms.map mtD)]) = (netD m ms, s') := by
      refine gc_val hu.sta ?_
      simp [netD]
      rw [lowL_all]
      intro x hx
      obtain ⟨y, _, rfl⟩ := List.mem_map.mp hx
      simp [mtD, wdD]
    unfold netD at hgc
    rw [hgc]
    exact c m ms s' a3 b3 (by omega) hok (hd.mono (by omega)) hu
  · rintro x xs ρ s ⟨ms, s', o5, rfl, hu, hd, hl, hok, rfl⟩
    simp at hl
    have hg : (s' ++ [O.lst (ms.map mtD)])[st.length]? = some (.lst (ms.map mtD)) := by rw [← hu.len]; exact get_last
    refine ⟨rfl, _, rfl, ?_⟩
    show wB _ _ _ _ _ _
    simp [wB_cons]
    have hr' : r < s'.length := by rw [hu.len]; exact hlt
    obtain ⟨d, s6, e6, y, rfl, y1, y2, y3, y4⟩ := ok2_ex.mp (meeting_ok (k := k) (n := n) (w := x1) hT hF hG hM (hd.app (g := [O.lst (ms.map mtD)])) (by omega) hg (by omega) (by omega) (hc3 (by omega)) (by omega) hok)
    rw [e6]
    obtain ⟨s7, rfl, u7⟩ := y4.app hr'
    have hg7 : (s7 ++ [O.lst (ms.map mtD)])[st.length]? = some (.lst (ms.map mtD)) := by rw [← hu.len, ← u7.len]; exact get_last
    have hk7 : kdOf (s' ++ [O.lst (ms.map mtD)]) (.val (.ref st.length)) = kdOf (s7 ++ [O.lst (ms.map mtD)]) (.val (.ref st.length)) := by simp only [kdOf, hg, hg7]
    have hs7 : (s7 ++ [O.lst (ms.map mtD)]).set st.length (.lst (ms.map mtD ++ [mtD y])) = s7 ++ [O.lst ((ms ++ [y]).map mtD)] := by
      rw [← hu.len, ← u7.len, set_last]; simp
    simp [hk7, app_ref hg7 (show (ms.map mtD).length < 16777216 by simp; omega), hs7]
    refine ⟨ms ++ [y], s7, _, by simp, hu.trans u7, (y3.unapp (by rw [u7.len]; exact hr')).mono (by simp; omega), by simp; omega, fun z hz => ?_, rfl⟩
    rcases List.mem_append.mp hz with hz | hz
    · exact hok z hz
    · rw [List.mem_singleton.mp hz]; exact ⟨y1, y2⟩
  · simp; omega
end
end Mw

set_option Elab.async false
set_option linter.all false
set_option autoImplicit false
set_option maxRecDepth 100000
/-! PyF4: sameness; the law's own steps. -/
namespace Mw
open PySem
def c_law_same : CSs := (.cons (.ite (.isi (.var 1) .tuple) (.cons (.ite (.or (.not (.isi (.var 0) .tuple)) (.cmp .ne (.bi .len (.cons (.var 0) .nil)) (.bi .len (.cons (.var 1) .nil)))) (.cons (.ret (.cst (.bl false))) .nil) .nil) (.cons (.ret (.cmp .notin (.cst (.bl false)) (.comp (.tp (.cons (.nm 2) (.cons (.nm 3) .nil))) (.zp (.cons (.var 0) (.cons (.var 1) .nil))) .nil (.call "_law_same" (.cons (.var 2) (.cons (.var 3) .nil))) [2, 3]))) .nil)) .nil) (.cons (.ite (.or (.cmp .isN (.var 1) (.cst .non)) (.cmp .isN (.var 0) (.cst .non))) (.cons (.ret (.and (.cmp .isN (.var 1) (.cst .non)) (.cmp .isN (.var 0) (.cst .non)))) .nil) .nil) (.cons (.ite (.isi (.var 1) .str) (.cons (.ret (.and (.isi (.var 0) .str) (.cmp .eq (.var 0) (.var 1)))) .nil) .nil) (.cons (.ret (.and (.isi (.var 0) .int) (.and (.cmp .eq (.isi (.var 0) .bool) (.isi (.var 1) .bool)) (.cmp .eq (.var 0) (.var 1))))) .nil))))
def f_law_same : Fd := ⟨2, 4, c_law_same⟩
def c_law_steps : CSs := (.cons (.asg (.nm 1) (.lst .nil)) (.cons (.for (.tp (.cons (.nm 2) (.cons (.tp (.cons (.nm 3) (.cons (.nm 4) (.cons (.nm 5) (.cons (.nm 6) (.cons (.nm 7) .nil)))))) .nil))) (.enm (.idx (.var 0) (.cst (.int 1)))) (.cons (.for (.tp (.cons (.nm 8) (.cons (.nm 9) .nil))) (.ex (.sli (.lst (.cons (.tup (.cons (.var 4) (.cons (.var 5) .nil))) (.cons (.tup (.cons (.var 5) (.cons (.var 4) .nil))) .nil))) .nil (.cons (.bin .add (.cst (.int 1)) (.bi .int (.cons (.cmp .eq (.var 3) (.cst (.str "both"))) .nil))) .nil))) (.cons (.expr (.mt .append (.var 1) (.cons (.tup (.cons (.var 2) (.cons (.var 8) (.cons (.var 9) (.cons (.var 6) (.cons (.bin .add (.var 6) (.var 7)) .nil)))))) .nil))) .nil)) .nil)) (.cons (.ret (.var 1)) .nil)))
def f_law_steps : Fd := ⟨1, 10, c_law_steps⟩
mutual
/-- what sameness is asked of: tuples to a depth -/
def sv : Nat → D → Bool
  | _, .int _ => true
  | _, .non => true
  | _, .str s => stOk s
  | k, .tup xs => match k with
    | 0 => false
    | k + 1 => svL k xs
  | _, _ => false
def svL : Nat → List D → Bool
  | _, [] => true
  | k, x :: xs => sv k x && svL k xs
end
theorem svL_all : ∀ {k : Nat} {xs : List D}, svL k xs = true ↔ ∀ x ∈ xs, sv k x = true
  | k, [] => by simp [svL]
  | k, x :: xs => by simp [svL, svL_all (k := k) (xs := xs)]
section
variable {T : Tab} {n k : Nat} {st : Sto} {r B : Nat}
theorem zip_self (xs : List D) : List.zipWith (fun x y => D.tup [x, y]) xs xs = xs.map fun x => D.tup [x, x] := by
  induction xs with
  | nil => rfl
  | cons x xs ih => simp [ih]
theorem same_ok (hT : Has T "_law_same" f_law_same) : ∀ (j : Nat) (d : D), sv j d = true → ∀ (k : Nat) (st : Sto), callF T n (k + j + 1) "_law_same" [d, d] st = some (.bl true, st) := by
  intro j
  induction j with
  | zero =>
    intro d h k st
    refine callF_eq (callF_f hT rfl ?_)
    cases d with
    | int i => simp [f_law_same, c_law_same, wB_cons, isNon]
    | non => simp [f_law_same, c_law_same, wB_cons, isNon]
    | str s => simp [f_law_same, c_law_same, wB_cons, isNon, pyEq_str (show stOk s = true by simpa [sv] using h) (show stOk s = true by simpa [sv] using h)]
    | _ => simp [sv] at h
  | succ j ih =>
    intro d h k st
    refine callF_eq (callF_f hT rfl ?_)
    cases d with
    | int i => simp [f_law_same, c_law_same, wB_cons, isNon]
    | non => simp [f_law_same, c_law_same, wB_cons, isNon]
    | str s => simp [f_law_same, c_law_same, wB_cons, isNon, pyEq_str (show stOk s = true by simpa [sv] using h) (show stOk s = true by simpa [sv] using h)]
    | tup xs =>
      have hx : svL j xs = true := by simpa [sv] using h
      simp [f_law_same, c_law_same, wB_cons, zpOf, zip_self]
      refine compL_ok xs _ (fun _ => .bl true) rfl (fun x hx' => ⟨_, rfl, rfl, ev_eq ?_⟩) ?_
      · have : callF T n (k + (j + 1)) "_law_same" [x, x] st = some (.bl true, st) := ih x (svL_all.mp hx x hx') k st
        simp [wipeD, this]
      · have := in_bls (st := st) (b := false) (xs.map fun _ => true)
        simp only [List.map_map, Function.comp_def] at this
        simp [this]
    | _ => simp [sv] at h
theorem sv_steps (ms : List Sp) : sv 2 (.tup (ms.map spD)) = true := by
  simp only [sv]
  rw [svL_all]
  intro x hx
  obtain ⟨y, _, rfl⟩ := List.mem_map.mp hx
  simp [spD, sv, svL]
def lstepsI (st : Sto) (net : D) (ms : List Mt) (xs : List D) (ρ : Env) (s : Sto) : Prop :=
  ∃ k' ms' done r2 r3 r4 r5 r6 r7 r8 r9, xs = enmD k' (List.map mtD ms') ∧ s = st ++ [.lst (List.map spD done)] ∧ done ++ stepsF k' ms' = stepsF 0 ms ∧ ρ = [some net, some (.ref st.length), r2, r3, r4, r5, r6, r7, r8, r9]
theorem cut1 {x y : D} : cutD [x, y] none (some 1) = [x] := by rfl
theorem cut2 {x y : D} : cutD [x, y] none (some 2) = [x, y] := by rfl
theorem lsteps_ok (hT : Has T "_law_steps" f_law_steps) {m : Int} {ms : List Mt} (hl : ms.length ≤ 1000000) : callF T n (k + 1) "_law_steps" [netD m ms] st = some (.ref st.length, st ++ [.lst ((stepsF 0 ms).map spD)]) := by
  refine callF_eq (callF_f hT rfl ?_)
  simp [f_law_steps, c_law_steps, wB_cons, netD]
  have hlen := steps_len 0 ms
  refine forL_w (lstepsI st (.tup [.int m, .tup (ms.map mtD)]) ms) ?_ ?_ _ _ _ ⟨0, ms, [], none, none, none, none, none, none, none, none, rfl, rfl, rfl, rfl⟩
  · rintro ρ s ⟨k', ms', done, r2, r3, r4, r5, r6, r7, r8, r9, e, rfl, hd, rfl⟩
    cases ms' with
    | cons _ _ => simp [enmD] at e
    | nil =>
      simp [stepsF] at hd
      refine ⟨rfl, ?_⟩
      have hg := gc_one (st := st) (o := .lst ((stepsF 0 ms).map spD)) (by simp [O.low, lowL_sp])
      simp [hd, hg]
  · rintro x xs ρ s ⟨k', ms', done, r2, r3, r4, r5, r6, r7, r8, r9, e, rfl, hd, rfl⟩
    cases ms' with
    | nil => simp [enmD] at e
    | cons y ms' =>
      simp only [List.map_cons, enmD_cons, List.cons.injEq] at e
      obtain ⟨rfl, rfl⟩ := e
      refine ⟨rfl, _, rfl, ?_⟩
      have hle : done.length + (stepsF k' (y :: ms')).length = (stepsF 0 ms).length := by rw [← List.length_append, hd]
      simp only [stepsF, List.length_cons, List.length_append] at hle
      have hd' : done.length < 16777216 := by omega
      have hd2 : done.length + 1 < 16777216 := by omega
      cases hb : y.bo
      · have hw : ∀ s, pyEq s (.val (wdD false)) (.val (.str "both")) = some false := fun s => wd_both
        simp [wB_cons, mtD, app_ref get_last, hd', hd2, hb, hw, cut1, forL_c]
        exact ⟨k' + 1, ms', done ++ [⟨k', y.a, y.b, y.t, y.t + y.l⟩], _, _, _, _, _, _, _, _, rfl, by simp [spD], by rw [← hd]; simp [stepsF, hb], rfl⟩
      · have hw : ∀ s, pyEq s (.val (wdD true)) (.val (.str "both")) = some true := fun s => wd_both
        simp [wB_cons, mtD, app_ref get_last, hd', hd2, hb, hw, cut2, forL_c]
        exact ⟨k' + 1, ms', done ++ [⟨k', y.a, y.b, y.t, y.t + y.l⟩, ⟨k', y.b, y.a, y.t, y.t + y.l⟩], _, _, _, _, _, _, _, _, rfl, by simp [spD], by rw [← hd]; simp [stepsF, hb], rfl⟩
end
end Mw

set_option Elab.async false
set_option linter.all false
set_option autoImplicit false
set_option maxRecDepth 100000
/-! PyF5: texts of nets, read. -/
namespace Mw
open PySem
def cis_number_word : CSs := (.cons (.ite (.or (.cmp .eq (.var 0) (.cst (.str ""))) (.not (.bi .all (.cons (.comp (.nm 1) (.ex (.var 0)) .nil (.cmp .isin (.var 1) (.cst (.str "0123456789"))) [1]) .nil)))) (.cons (.ret (.cst (.bl false))) .nil) .nil) (.cons (.ret (.or (.cmp .ne (.idx (.var 0) (.cst (.int 0))) (.cst (.str "0"))) (.cmp .eq (.var 0) (.cst (.str "0"))))) .nil))
def fis_number_word : Fd := ⟨1, 2, cis_number_word⟩
def cread_number : CSs := (.cons (.ite (.not (.call "is_number_word" (.cons (.var 0) .nil))) (.cons .bad .nil) .nil) (.cons (.ret (.bi .int (.cons (.var 0) .nil))) .nil))
def fread_number : Fd := ⟨1, 1, cread_number⟩
def cread_meeting : CSs := (.cons (.asg (.nm 1) (.mt .split (.var 0) (.cons (.cst (.str " ")) .nil))) (.cons (.ret (.bin .add (.tup (.cons (.idx (.var 1) (.cst (.int 0))) .nil)) (.bi .tuple (.cons (.comp (.nm 2) (.ex (.sli (.var 1) (.cons (.cst (.int 1)) .nil) .nil)) .nil (.call "read_number" (.cons (.var 2) .nil)) [2]) .nil)))) .nil))
def fread_meeting : Fd := ⟨1, 3, cread_meeting⟩
def cread_net : CSs := (.cons (.ite (.not (.isi (.var 0) .str)) (.cons .bad .nil) .nil) (.cons (.asg (.nm 1) (.mt .split (.var 0) (.cons (.cst (.str "\n")) .nil))) (.cons (.asg (.nm 2) (.mt .split (.idx (.var 1) (.cst (.int 0))) (.cons (.cst (.str " ")) .nil))) (.cons (.ite (.or (.cmp .ne (.bi .len (.cons (.var 2) .nil)) (.cst (.int 2))) (.cmp .ne (.idx (.var 2) (.cst (.int 0))) (.cst (.str "places")))) (.cons .bad .nil) .nil) (.cons (.asg (.nm 3) (.tup (.cons (.call "read_number" (.cons (.idx (.var 2) (.cst (.int 1))) .nil)) (.cons (.bi .tuple (.cons (.comp (.nm 4) (.ex (.sli (.var 1) (.cons (.cst (.int 1)) .nil) .nil)) .nil (.call "read_meeting" (.cons (.var 4) .nil)) [4]) .nil)) .nil)))) (.cons (.ite (.not (.call "is_net" (.cons (.var 3) .nil))) (.cons .bad .nil) .nil) (.cons (.ret (.var 3)) .nil)))))))
def fread_net : Fd := ⟨1, 5, cread_net⟩
/-! ### figures -/
def numS (n : Nat) : Str := Str.ofString (toString (n : Int))
theorem numS_tl (n : Nat) : TL.tl (numS n) = TL.numL n := TL.tl_num n
theorem numL_ok (n : Nat) : ∀ c ∈ TL.numL n, 48 ≤ c ∧ c ≤ 57 := TL.numL_digits n
theorem head_ne0 : ∀ {n : Nat}, 0 < n → ∀ {c : Nat} {r : List Nat}, TL.numL n = c :: r → c ≠ 48 := by
  intro n
  induction n using Nat.strongRecOn with
  | _ n ih =>
    intro hn c r h
    by_cases hl : n < 10
    · rw [TL.numL_lt hl] at h
      cases h; omega
    · rw [TL.numL_step (by omega)] at h
      cases hq : TL.numL (n / 10) with
      | nil => exact absurd hq (TL.numL_ne _)
      | cons d s =>
        rw [hq] at h
        cases h
        exact ih (n / 10) (by omega) (by omega) hq
theorem sign_in {st : Sto} {c : Nat} (h : 48 ≤ c ∧ c ≤ 57) : inApp st (.val (.str ⟨#[c]⟩)) (.val (.str "0123456789")) = some true := by
  obtain rfl | rfl | rfl | rfl | rfl | rfl | rfl | rfl | rfl | rfl : c = 48 ∨ c = 49 ∨ c = 50 ∨ c = 51 ∨ c = 52 ∨ c = 53 ∨ c = 54 ∨ c = 55 ∨ c = 56 ∨ c = 57 := by omega
  all_goals
    simp only [inApp]
    decide +kernel
theorem stOk_of {w : Str} (h : ∀ c ∈ TL.tl w, c < 1114112) : stOk w = true := by
  unfold stOk
  rw [← Array.all_toList, List.all_eq_true]
  intro c hc
  exact decide_eq_true (h c hc)
section
variable {T : Tab} {n k : Nat} {st : Sto}
theorem isnum_ok (hT : Has T "is_number_word" fis_number_word) {w : Str} {c0 : Nat} {r : List Nat} (hw : TL.tl w = c0 :: r) (hd : ∀ c ∈ TL.tl w, 48 ≤ c ∧ c ≤ 57) (h0 : c0 ≠ 48 ∨ w = "0") (hl : w.length ≤ 1000) : callF T n (k + 1) "is_number_word" [.str w] st = some (.bl true, st) := by
  refine callF_eq (callF_f hT rfl ?_)
  have hok : stOk w = true := stOk_of fun c hc => by have := hd c hc; omega
  have hne : w ≠ "" := fun e => by rw [e] at hw; cases hw
  have e1 : ∀ s, pyEq s (.val (.str w)) (.val (.str "")) = some false := fun s => by rw [pyEq_str hok (by decide +kernel)]; simp [hne]
  have hcs : w.cps.toList = c0 :: r := hw
  have hz : szOk w.length = true := decide_eq_true (by omega)
  have e2 : ∀ s, pyEq s (.val (.str ⟨#[c0]⟩)) (.val (.str "0")) = some (decide (c0 = 48)) := fun s => by
    have hc0 := hd c0 (by rw [hw]; exact List.mem_cons_self ..)
    rw [pyEq_str (stOk_of fun c hc => by rw [show TL.tl ⟨#[c0]⟩ = [c0] from rfl] at hc; rw [List.mem_singleton.mp hc]; omega) (by decide +kernel)]
    congr 1
    refine decide_eq_decide.mpr ⟨fun e => ?_, fun e => by rw [e]; rfl⟩
    have := congrArg TL.tl e
    have h2 : TL.tl ⟨#[c0]⟩ = [48] := this
    have h3 : [c0] = [48] := h2
    cases h3; rfl
  have e3 : ∀ s, pyEq s (.val (.str w)) (.val (.str "0")) = some (decide (w = "0")) := fun s => pyEq_str hok (by decide +kernel)
  simp [fis_number_word, cis_number_word, wB_cons, e1, srcOf, hz]
  refine ⟨hz, compL_ok w.cps.toList _ (fun _ => .bl true) rfl (fun c hc => ⟨_, rfl, rfl, ev_eq ?_⟩) ?_⟩
  · simp [wipeD, sign_in (hd c hc)]
  · have ha := all_bls (st := st) (w.cps.toList.map fun _ => true)
    simp only [List.map_map, Function.comp_def, hcs, List.map_cons] at ha
    simp [ha, idxApp, hz, hcs, e2, e3]
    rcases h0 with h0 | h0
    · simp [h0]
    · by_cases h1 : c0 = 48
      · simp [h1, h0]
      · simp [h1]
theorem readnum_ok (hT : Has T "is_number_word" fis_number_word) (hR : Has T "read_number" fread_number) {v : Nat} (hv : v < 10 ^ 300) : callF T n (k + 2) "read_number" [.str (numS v)] st = some (.int v, st) := by
  have hlen : (TL.numL v).length ≤ 300 := TL.numL_len (by decide) hv
  have hl : (numS v).length ≤ 300 := by rw [TL.len_tl, numS_tl]; exact hlen
  have hi : intText? (numS v) = some (v : Int) := TL.int_num (by omega)
  have hb : biApp st .int [.val (.str (numS v))] = some (.val (.int v)) := by
    simp only [biApp, biInt]
    rw [if_pos (decide_eq_true (by omega)), hi]; rfl
  obtain ⟨c0, r, hc⟩ : ∃ c0 r, TL.numL v = c0 :: r := by
    cases h : TL.numL v with
    | nil => exact absurd h (TL.numL_ne v)
    | cons c r => exact ⟨c, r, rfl⟩
  have h0 : c0 ≠ 48 ∨ numS v = "0" := by
    by_cases hz : v = 0
    · subst hz; exact .inr (by decide +kernel)
    · exact .inl (head_ne0 (by omega) hc)
  refine callF_eq (callF_f hR rfl ?_)
  have h1 := isnum_ok (k := k) (n := n) (st := st) hT (w := numS v) (by rw [numS_tl]; exact hc) (by rw [numS_tl]; exact numL_ok v) h0 (by omega)
  simp [fread_number, cread_number, wB_cons, h1, hb]
theorem cutD_from {xs : List D} {k : Nat} : cutD xs (some (k : Int)) none = xs.drop k := by
  unfold cutD
  rw [HT.sIx_nat, HT.sIx_none]
  by_cases h : k ≤ xs.length
  · rw [Nat.min_eq_left h, List.take_of_length_le (by rw [List.length_drop]; omega)]
  · rw [Nat.min_eq_right (by omega), List.drop_eq_nil_of_le (Nat.le_refl _), List.drop_eq_nil_of_le (by omega)]; simp
theorem cutD_to {xs : List D} {k : Nat} : cutD xs none (some (k : Int)) = xs.take k := by
  unfold cutD
  rw [HT.sIx_nat, HT.sIx_none, List.drop_zero, Nat.sub_zero]
  by_cases h : k ≤ xs.length
  · rw [Nat.min_eq_left h]
  · rw [Nat.min_eq_right (by omega), List.take_of_length_le (Nat.le_refl _), List.take_of_length_le (by omega)]
theorem sli_ref {xs : List D} {q : Nat} {lo hi : Option Int} (h : st[q]? = some (.lst xs)) : sliApp st (.val (.ref q)) lo hi = some (.tmp (cutD xs lo hi)) := by
  simp [sliApp, listOf, h]
theorem joinL_mem {S : List Nat} {c : Nat} : ∀ {ps : List (List Nat)}, c ∈ TL.joinL S ps → c ∈ S ∨ ∃ p ∈ ps, c ∈ p
  | [], h => by simp [TL.joinL] at h
  | [p], h => .inr ⟨p, List.mem_cons_self .., h⟩
  | p :: q :: r, h => by
    have h : c ∈ p ++ (S ++ TL.joinL S (q :: r)) := h
    rcases List.mem_append.mp h with h | h
    · exact .inr ⟨p, List.mem_cons_self .., h⟩
    · rcases List.mem_append.mp h with h | h
      · exact .inl h
      · rcases joinL_mem h with h | ⟨x, hx, h⟩
        · exact .inl h
        · exact .inr ⟨x, List.mem_cons_of_mem _ hx, h⟩
theorem joinL_len {S : List Nat} {B : Nat} : ∀ {ps : List (List Nat)}, (∀ p ∈ ps, p.length ≤ B) → (TL.joinL S ps).length ≤ ps.length * (B + S.length)
  | [], _ => by simp [TL.joinL]
  | [p], h => by
    have := h p (List.mem_cons_self ..)
    show p.length ≤ 1 * (B + S.length)
    omega
  | p :: q :: r, h => by
    have h1 := h p (List.mem_cons_self ..)
    have ih := joinL_len (S := S) (B := B) (ps := q :: r) fun x hx => h x (List.mem_cons_of_mem _ hx)
    show (p ++ (S ++ TL.joinL S (q :: r))).length ≤ _
    rw [List.length_append, List.length_append, List.length_cons (a := p), Nat.succ_mul]
    omega
theorem join_tl (y : Str) (ps : List Str) : TL.tl (Txt.join y ps) = TL.joinL (TL.tl y) (ps.map TL.tl) := by rw [TL.join_eq, TL.tl_join]
theorem mt_split {s b : Str} (h1 : (b.length == 0) = false) (h2 : s.length + 2 ≤ 16777216) : mtApp st .split (.val (.str s)) [.val (.str b)] = some (.tmp ((Txt.split s b).map .str), st) := by
  simp only [mtApp, mtSplit]
  rw [if_pos ⟨h1, decide_eq_true h2⟩]
def wdS (b : Bool) : Str := if b then "both" else "to"
def lineP (m : Mt) : List Str := [wdS m.bo, numS m.a.toNat, numS m.b.toNat, numS m.t.toNat, numS m.l.toNat]
def lineS (m : Mt) : Str := Txt.join " " (lineP m)
/-- numbers that are written and read -/
def Mt.tx (m : Mt) : Prop := (0 ≤ m.a ∧ m.a.toNat < 10 ^ 300) ∧ (0 ≤ m.b ∧ m.b.toNat < 10 ^ 300) ∧ (0 ≤ m.t ∧ m.t.toNat < 10 ^ 300) ∧ (0 ≤ m.l ∧ m.l.toNat < 10 ^ 300)
theorem wdS_free {b : Bool} {c : Nat} (h : c < 97) : c ∉ TL.tl (wdS b) := by
  intro hc
  have : ∀ b : Bool, (TL.tl (wdS b)).all (fun c => decide (97 ≤ c)) = true := by decide +kernel
  have := List.all_eq_true.mp (this b) c hc
  simp at this; omega
theorem lineP_free {m : Mt} {c : Nat} (h : c < 48) : ∀ p ∈ lineP m, c ∉ TL.tl p := by
  intro p hp
  simp only [lineP, List.mem_cons, List.not_mem_nil, or_false] at hp
  rcases hp with rfl | rfl | rfl | rfl | rfl
  · exact wdS_free (by omega)
  all_goals
    rw [numS_tl]; exact TL.numL_free (.inl h)
theorem lineP_len {m : Mt} (h : m.tx) : ∀ p ∈ lineP m, (TL.tl p).length ≤ 300 := by
  intro p hp
  simp only [lineP, List.mem_cons, List.not_mem_nil, or_false] at hp
  obtain ⟨h1, h2, h3, h4⟩ := h
  rcases hp with rfl | rfl | rfl | rfl | rfl
  · cases m.bo <;> decide +kernel
  · rw [numS_tl]; exact TL.numL_len (by decide) h1.2
  · rw [numS_tl]; exact TL.numL_len (by decide) h2.2
  · rw [numS_tl]; exact TL.numL_len (by decide) h3.2
  · rw [numS_tl]; exact TL.numL_len (by decide) h4.2
theorem lineS_len {m : Mt} (h : m.tx) : (lineS m).length ≤ 1505 := by
  rw [TL.len_tl, lineS, join_tl]
  refine Nat.le_trans (joinL_len (B := 300) fun p hp => ?_) ?_
  · obtain ⟨q, hq, rfl⟩ := List.mem_map.mp hp
    exact lineP_len h q hq
  · rw [List.length_map, show (TL.tl (Str.ofString " ")).length = 1 from by decide +kernel]
    simp [lineP]
theorem line_split {m : Mt} : Txt.split (lineS m) " " = lineP m := TL.split_join (s := 32) (S := []) (by decide +kernel) (by decide +kernel) (by simp [lineP]) (lineP_free (by decide))
theorem read_meeting_ok (hI : Has T "is_number_word" fis_number_word) (hR : Has T "read_number" fread_number) (hT : Has T "read_meeting" fread_meeting) {m : Mt} (h : m.tx) : callF T n (k + 3) "read_meeting" [.str (lineS m)] st = some (mtD m, st) := by
  refine callF_eq (callF_f hT rfl ?_)
  have hl := lineS_len h
  have hs : ∀ s : Sto, mtApp s .split (.val (.str (lineS m))) [.val (.str " ")] = some (.tmp ((lineP m).map .str), s) := fun s => by rw [mt_split (by decide +kernel) (by omega), line_split]
  obtain ⟨h1, h2, h3, h4⟩ := h
  have hc : ∀ a b c d e : D, cutD [a, b, c, d, e] (some 1) none = [b, c, d, e] := fun a b c d e => cutD_from (k := 1)
  simp [fread_meeting, cread_meeting, wB_cons, hs, idx_ref get_last, sli_ref get_last, lineP, hc]
  refine compL_ok [m.a.toNat, m.b.toNat, m.t.toNat, m.l.toNat] (fun v => .str (numS v)) (fun v => .int v) rfl (fun v hv => ⟨_, rfl, rfl, ev_eq ?_⟩) ?_
  · have hv' : v < 10 ^ 300 := by
      simp only [List.mem_cons, List.not_mem_nil, or_false] at hv
      rcases hv with rfl | rfl | rfl | rfl
      · exact h1.2
      · exact h2.2
      · exact h3.2
      · exact h4.2
    simp [wipeD, readnum_ok hI hR hv']
  · have hg := gc_app (st := st) (g := [.lst [.str (wdS m.bo), .str (numS m.a.toNat), .str (numS m.b.toNat), .str (numS m.t.toNat), .str (numS m.l.toNat)]]) (d := .tup [.str (wdS m.bo), .int m.a, .int m.b, .int m.t, .int m.l]) (by simp)
    simp only [List.map_cons, List.map_nil, Int.toNat_of_nonneg h1.1, Int.toNat_of_nonneg h2.1, Int.toNat_of_nonneg h3.1, Int.toNat_of_nonneg h4.1]
    refine ⟨by simp [szOk], ?_⟩
    rw [hg]
    exact ⟨rfl, rfl⟩
def headP (m : Nat) : List Str := ["places", numS m]
def netP (m : Nat) (ms : List Mt) : List Str := Txt.join " " (headP m) :: ms.map lineS
def netS (m : Nat) (ms : List Mt) : Str := Txt.join "\n" (netP m ms)
theorem headP_free {m c : Nat} (h : c < 48) : ∀ p ∈ headP m, c ∉ TL.tl p := by
  intro p hp
  simp only [headP, List.mem_cons, List.not_mem_nil, or_false] at hp
  rcases hp with rfl | rfl
  · intro hc
    have : (TL.tl (Str.ofString "places")).all (fun c => decide (97 ≤ c)) = true := by decide +kernel
    have := List.all_eq_true.mp this c hc
    simp at this; omega
  · rw [numS_tl]; exact TL.numL_free (.inl h)
theorem netP_free {m : Nat} {ms : List Mt} : ∀ p ∈ netP m ms, 10 ∉ TL.tl p := by
  have hsp : TL.tl (Str.ofString " ") = [32] := by decide +kernel
  intro p hp hc
  rcases List.mem_cons.mp hp with rfl | hp
  · rw [join_tl, hsp] at hc
    rcases joinL_mem hc with h | ⟨q, hq, h⟩
    · simp at h
    · obtain ⟨z, hz, rfl⟩ := List.mem_map.mp hq
      exact headP_free (by decide) z hz h
  · obtain ⟨x, _, rfl⟩ := List.mem_map.mp hp
    rw [lineS, join_tl, hsp] at hc
    rcases joinL_mem hc with h | ⟨q, hq, h⟩
    · simp at h
    · obtain ⟨z, hz, rfl⟩ := List.mem_map.mp hq
      exact lineP_free (by decide) z hz h
theorem head_len {m : Nat} (h : m < 10 ^ 300) : (Txt.join " " (headP m)).length ≤ 1505 := by
  rw [TL.len_tl, join_tl]
  refine Nat.le_trans (joinL_len (B := 300) fun p hp => ?_) ?_
  · obtain ⟨q, hq, rfl⟩ := List.mem_map.mp hp
    simp only [headP, List.mem_cons, List.not_mem_nil, or_false] at hq
    rcases hq with rfl | rfl
    · decide +kernel
    · rw [numS_tl]; exact TL.numL_len (by decide) h
  · rw [List.length_map, show (TL.tl (Str.ofString " ")).length = 1 from by decide +kernel]
    simp [headP]
theorem netS_len {m : Nat} {ms : List Mt} (h : m < 10 ^ 300) (hm : ∀ x ∈ ms, x.tx) : (netS m ms).length ≤ (ms.length + 1) * 1506 := by
  rw [TL.len_tl, netS, join_tl]
  refine Nat.le_trans (joinL_len (B := 1505) fun p hp => ?_) ?_
  · obtain ⟨q, hq, rfl⟩ := List.mem_map.mp hp
    rw [← TL.len_tl]
    rcases List.mem_cons.mp hq with rfl | hq
    · exact head_len h
    · obtain ⟨x, hx, rfl⟩ := List.mem_map.mp hq
      exact lineS_len (hm x hx)
  · rw [List.length_map, show (TL.tl (Str.ofString "\n")).length = 1 from by decide +kernel]
    simp [netP]
theorem net_split {m : Nat} {ms : List Mt} : Txt.split (netS m ms) "\n" = netP m ms := TL.split_join (s := 10) (S := []) (by decide +kernel) (by decide +kernel) (by simp [netP]) netP_free
theorem head_split {m : Nat} : Txt.split (Txt.join " " (headP m)) " " = headP m := TL.split_join (s := 32) (S := []) (by decide +kernel) (by decide +kernel) (by simp [headP]) (headP_free (by decide))
theorem read_net_ok (hI : Has T "is_number_word" fis_number_word) (hR : Has T "read_number" fread_number) (hM : Has T "read_meeting" fread_meeting) (h1 : Has T "is_whole" fis_whole) (h2 : Has T "is_place" fis_place) (h3 : Has T "is_meeting" fis_meeting) (h4 : Has T "is_net" fis_net) (hT : Has T "read_net" fread_net)
    {m : Nat} {ms : List Mt} (hm : 1 ≤ m) (hm2 : m < 10 ^ 300) (hl : ms.length ≤ 10000) (htx : ∀ x ∈ ms, x.tx) (hok : ∀ x ∈ ms, x.ok m) : callF T n (k + 5) "read_net" [.str (netS m ms)] st = some (netD m ms, st) := by
  refine callF_eq (callF_f hT rfl ?_)
  have hlen := netS_len hm2 htx
  have hhl := head_len hm2
  have hs : ∀ s : Sto, mtApp s .split (.val (.str (netS m ms))) [.val (.str "\n")] = some (.tmp ((netP m ms).map .str), s) := fun s => by rw [mt_split (by decide +kernel) (by omega), net_split]
  have hs2 : ∀ s : Sto, mtApp s .split (.val (.str (Txt.join " " (headP m)))) [.val (.str " ")] = some (.tmp ((headP m).map .str), s) := fun s => by rw [mt_split (by decide +kernel) (by omega), head_split]
  have hp : ∀ s : Sto, pyEq s (.val (.str "places")) (.val (.str "places")) = some true := fun s => by rw [pyEq_str (by decide +kernel) (by decide +kernel)]; simp
  have hn := fun s => is_net_ok (k := k) (n := n) (st := s) (m := (m : Int)) (ms := ms) h1 h2 h3 h4 (by omega) hok
  have g0 : ∀ a b : O, (st ++ [a, b])[st.length]? = some a := fun a b => by rw [List.getElem?_append_right (Nat.le_refl _)]; simp
  have g1 : ∀ a b : O, (st ++ [a, b])[st.length + 1]? = some b := fun a b => by rw [List.getElem?_append_right (by omega)]; simp
  simp only [headP] at hs2
  have hc : ∀ (a : D) (l : List D), cutD (a :: l) (some 1) none = l := fun a l => cutD_from (k := 1)
  have hr := fun s => readnum_ok (k := k + 2) (n := n) (st := s) hI hR hm2
  simp [fread_net, cread_net, wB_cons, hs, idx_ref get_last, netP, hs2, idx_ref (g0 _ _), idx_ref (g1 _ _), sli_ref (g0 _ _), len_ref (g1 _ _), headP, hp, hr, hc]
  refine compL_ok ms _ mtD rfl (fun x hx => ⟨_, rfl, rfl, ev_eq ?_⟩) ?_
  · have := fun s => read_meeting_ok (k := k + 1) (n := n) (st := s) hI hR hM (htx x hx)
    simp [wipeD, this]
  · simp only [netD] at hn ⊢
    simp [hn]
    rw [gc_app]
    · exact ⟨rfl, rfl⟩
    · simp
      rw [lowL_all]
      intro x hx
      obtain ⟨y, _, rfl⟩ := List.mem_map.mp hx
      simp [mtD, wdD]
end
end Mw

set_option Elab.async false
set_option linter.all false
set_option autoImplicit false
set_option maxRecDepth 100000
/-! PyF6: small things for the laws themselves. -/
namespace Mw
open PySem
section
variable {st : Sto}
@[simp] theorem bin_addL {a b : List D} : binApp st .add (.tmp a) (.tmp b) = if szOk (a.length + b.length) = true then some (.tmp (a ++ b)) else none := rfl
theorem cutD_m1 {xs : List D} : cutD xs none (some (-1)) = xs.dropLast := by
  unfold cutD
  rw [HT.sIx_none, List.drop_zero, Nat.sub_zero, List.dropLast_eq_take]
  congr 1
  simp [HT.sIx]
  omega
theorem gc_fst_bl {s : Sto} {b : Bool} : (gc st (.bl b) s).1 = .bl b := by
  unfold gc
  split
  · simp
  · rfl
theorem join_app {s : Sto} {y : Str} {ys : List Str} (h : (ys.map (·.length)).sum + ys.length * y.length ≤ 16777216) : mtApp s .join (.val (.str y)) [.tmp (ys.map .str)] = some (.val (.str (Txt.join y ys)), s) := by
  have h1 : strsOf (ys.map D.str) = some ys := by
    clear h
    induction ys with
    | nil => rfl
    | cons x xs ih =>
      unfold strsOf at ih ⊢
      simp only [List.map_cons, mapO, ih]
  simp only [mtApp, mtJoin, seqOf, h1]
  rw [if_pos (decide_eq_true h)]
theorem sum_le {B : Nat} : ∀ {l : List Str}, (∀ x ∈ l, x.length ≤ B) → (l.map (·.length)).sum ≤ l.length * B
  | [], _ => by simp
  | x :: xs, h => by
    have h1 := h x (List.mem_cons_self ..)
    have ih := sum_le fun y hy => h y (List.mem_cons_of_mem x hy)
    simp only [List.map_cons, List.sum_cons, List.length_cons, Nat.succ_mul]
    omega
end
end Mw

set_option Elab.async false
set_option linter.all false
set_option autoImplicit false
set_option maxRecDepth 100000
/-! PyF7: nets written. -/
namespace Mw
open PySem
def cshow_net : CSs := (.cons (.asg (.tp (.cons (.nm 1) (.cons (.nm 2) .nil))) (.var 0)) (.cons (.asg (.nm 3) (.lst (.cons (.bin .add (.cst (.str "places ")) (.bi .str (.cons (.var 1) .nil))) .nil))) (.cons (.for (.nm 4) (.ex (.var 2)) (.cons (.expr (.mt .append (.var 3) (.cons (.mt .join (.cst (.str " ")) (.cons (.comp (.nm 5) (.ex (.var 4)) .nil (.bi .str (.cons (.var 5) .nil)) [5]) .nil)) .nil))) .nil)) (.cons (.ret (.mt .join (.cst (.str "\n")) (.cons (.var 3) .nil))) .nil))))
def fshow_net : Fd := ⟨1, 6, cshow_net⟩
def c_law_text : CSs := (.cons (.asg (.nm 1) (.bin .add (.cst (.str "places ")) (.bi .str (.cons (.idx (.var 0) (.cst (.int 0))) .nil)))) (.cons (.for (.nm 2) (.ex (.idx (.var 0) (.cst (.int 1)))) (.cons (.asg (.nm 1) (.bin .add (.bin .add (.var 1) (.cst (.str "\n"))) (.mt .join (.cst (.str " ")) (.cons (.comp (.nm 3) (.ex (.var 2)) .nil (.bi .str (.cons (.var 3) .nil)) [3]) .nil)))) .nil)) (.cons (.ret (.var 1)) .nil)))
def f_law_text : Fd := ⟨1, 4, c_law_text⟩
theorem pow300 : 10 ^ 300 ≤ 2 ^ 1200 := by
  have h := Nat.pow_le_pow_left (show 10 ≤ 2 ^ 4 by decide) 300
  rw [← Nat.pow_mul] at h
  exact h
section
variable {T : Tab} {n k : Nat} {st : Sto}
theorem str_nat {v : Nat} (h : v < 10 ^ 300) : biApp st .str [.val (.int (v : Int))] = some (.val (.str (numS v))) := by
  have hl : v.log2 < 1920 := by
    by_cases h0 : v = 0
    · subst h0; decide
    · exact Nat.lt_of_lt_of_le ((Nat.log2_lt h0).mpr (Nat.lt_of_lt_of_le h pow300)) (by decide)
  simp only [biApp, biStr, strInt]
  rw [if_pos (by simpa using hl)]
  rfl
theorem str_z {z : Int} (h : 0 ≤ z ∧ z.toNat < 10 ^ 300) : biApp st .str [.val (.int z)] = some (.val (.str (numS z.toNat))) := by
  have := str_nat (st := st) h.2
  rwa [Int.toNat_of_nonneg h.1] at this
theorem head_txt (m : Nat) : Str.ofString "places " ++ numS m = Txt.join " " (headP m) := by
  refine TL.ext_tl ?_
  rw [TL.tl_append, join_tl]
  have h1 : TL.tl (Str.ofString "places ") = TL.tl (Str.ofString "places") ++ [32] := by decide +kernel
  have h2 : TL.tl (Str.ofString " ") = [32] := by decide +kernel
  rw [h1, h2]
  simp [headP, TL.joinL]
theorem join_snoc (y : Str) (p : Str) : ∀ {ps : List Str}, ps ≠ [] → Txt.join y (ps ++ [p]) = Txt.join y ps ++ y ++ p := by
  have key : ∀ (S p : List Nat) (ps : List (List Nat)), ps ≠ [] → TL.joinL S (ps ++ [p]) = TL.joinL S ps ++ (S ++ p) := by
    intro S p ps
    induction ps with
    | nil => intro h; exact absurd rfl h
    | cons q qs ih =>
      intro _
      cases qs with
      | nil => rfl
      | cons r rs =>
        show q ++ (S ++ TL.joinL S ((r :: rs) ++ [p])) = (q ++ (S ++ TL.joinL S (r :: rs))) ++ (S ++ p)
        rw [ih (by simp)]
        simp
  intro ps h
  refine TL.ext_tl ?_
  rw [join_tl, List.map_append, TL.tl_append, TL.tl_append, join_tl]
  show TL.joinL _ (ps.map TL.tl ++ [TL.tl p]) = _
  rw [key _ _ _ (by simpa using h), List.append_assoc]
/-- the parts of a meeting, written -/
def partsM (m : Mt) : List (D × Str) := [(wdD m.bo, wdS m.bo), (.int m.a, numS m.a.toNat), (.int m.b, numS m.b.toNat), (.int m.t, numS m.t.toNat), (.int m.l, numS m.l.toNat)]
theorem parts_str {m : Mt} (h : m.tx) : ∀ z ∈ partsM m, biApp st .str [.val z.1] = some (.val (.str z.2)) := by
  intro z hz
  simp only [partsM, List.mem_cons, List.not_mem_nil, or_false] at hz
  obtain ⟨h1, h2, h3, h4⟩ := h
  rcases hz with rfl | rfl | rfl | rfl | rfl
  · rfl
  · exact str_z h1
  · exact str_z h2
  · exact str_z h3
  · exact str_z h4
theorem line_join {m : Mt} (h : m.tx) : mtApp st .join (.val (.str " ")) [.tmp ((partsM m).map fun z => .str z.2)] = some (.val (.str (lineS m)), st) := by
  have e : ((partsM m).map fun z => D.str z.2) = (lineP m).map .str := rfl
  have hl : ∀ x ∈ lineP m, x.length ≤ 300 := fun x hx => by rw [TL.len_tl]; exact lineP_len h x hx
  have hs := sum_le hl
  have h5 : (lineP m).length = 5 := rfl
  have h1 : (Str.ofString " ").length = 1 := by decide +kernel
  rw [e, join_app (by rw [h1]; omega)]
  rfl
def showI (st : Sto) (m : Nat) (ms : List Mt) (xs : List D) (ρ : Env) (s : Sto) : Prop :=
  ∃ done rest r4 r5, xs = List.map mtD rest ∧ ms = done ++ rest ∧ s = st ++ [.lst (((Txt.join " " (headP m)) :: done.map lineS).map .str)] ∧ ρ = [some (netD m ms), some (.int m), some (.tup (ms.map mtD)), some (.ref st.length), r4, r5]
theorem show_net_ok (hT : Has T "show_net" fshow_net) {m : Nat} {ms : List Mt} (hm : m < 10 ^ 300) (hl : ms.length ≤ 5000) (htx : ∀ x ∈ ms, x.tx) : callF T n (k + 1) "show_net" [netD m ms] st = some (.str (netS m ms), st) := by
  refine callF_eq (callF_f hT rfl ?_)
  have hs1 : ∀ s : Sto, biApp s .str [.val (.int (m : Int))] = some (.val (.str (numS m))) := fun s => str_nat hm
  have hz : szOk ((Str.ofString "places ").length + (numS m).length) = true := by
    have h1 : (Str.ofString "places ").length = 7 := by decide +kernel
    have h2 : (numS m).length ≤ 300 := by rw [TL.len_tl, numS_tl]; exact TL.numL_len (by decide) hm
    exact decide_eq_true (by omega)
  simp [fshow_net, cshow_net, wB_cons, netD, hs1, hz, head_txt]
  refine forL_w (showI st m ms) ?_ ?_ _ _ _ ⟨[], ms, none, none, rfl, rfl, rfl, rfl⟩
  · rintro ρ s ⟨done, rest, r4, r5, e, rfl, rfl, rfl⟩
    cases rest with
    | cons _ _ => simp at e
    | nil =>
      refine ⟨rfl, ?_⟩
      have hnb : ∀ x ∈ netP m done, x.length ≤ 1505 := by
        intro x hx
        rcases List.mem_cons.mp hx with rfl | hx
        · exact head_len hm
        · obtain ⟨y, hy, rfl⟩ := List.mem_map.mp hx
          exact lineS_len (htx y (by simp [hy]))
      have hsum := sum_le hnb
      have hone : (Str.ofString "\n").length = 1 := by decide +kernel
      have hnl : (netP m done).length = done.length + 1 := by simp [netP]
      simp at hl
      have hmul : (netP m done).length * 1505 ≤ 5001 * 1505 := Nat.mul_le_mul_right _ (by omega)
      have hsq : ∀ (xs : List D) (s : Sto), seqOf (s ++ [.lst xs]) (.val (.ref s.length)) = some xs := fun xs s => by simp only [seqOf, get_last]
      have hj : mtApp (st ++ [.lst ((netP m done).map .str)]) .join (.val (.str "\n")) [.val (.ref st.length)] = some (.val (.str (netS m done)), st ++ [.lst ((netP m done).map .str)]) := by
        have h0 := join_app (s := st ++ [.lst ((netP m done).map .str)]) (y := Str.ofString "\n") (ys := netP m done) (by rw [hone]; omega)
        simp only [mtApp, mtJoin, hsq] at h0 ⊢
        exact h0
      simp only [netP, List.map_cons, List.map_map] at hj
      simp [hj]
      rw [gc_app rfl]
      exact ⟨rfl, rfl⟩
  · rintro x xs ρ s ⟨done, rest, r4, r5, e, rfl, rfl, rfl⟩
    cases rest with
    | nil => simp at e
    | cons y rest =>
      simp only [List.map_cons, List.cons.injEq] at e
      obtain ⟨rfl, rfl⟩ := e
      refine ⟨rfl, _, rfl, ?_⟩
      have hy := htx y (by simp)
      simp at hl
      have hd : ((((Txt.join " " (headP m)) :: done.map lineS).map D.str)).length < 16777216 := by simp; omega
      have hsrc : ∀ s : Sto, srcOf s (.val (mtD y)) = some ⟨(partsM y).map Prod.fst, [], false⟩ := fun _ => rfl
      simp [wB_cons, hsrc]
      refine compL_ok (partsM y) _ (fun z => .str z.2) rfl (fun z hz => ⟨_, rfl, rfl, ev_eq ?_⟩) ?_
      · have hz' := fun s => parts_str (st := s) hy z hz
        simp [wipeD, hz']
      · have hj := fun s => line_join (st := s) hy
        have hap := app_ref (st := st ++ [.lst (((Txt.join " " (headP m)) :: done.map lineS).map D.str)]) (r := .val (.str (lineS y))) get_last hd
        simp only [List.map_cons, List.map_map, mat_val] at hap
        simp [hj, hap]
        exact ⟨done ++ [y], rest, some (mtD y), r5, rfl, by simp, by simp, by simp⟩
def ltextI (m : Nat) (ms : List Mt) (st : Sto) (xs : List D) (ρ : Env) (s : Sto) : Prop :=
  ∃ done rest r2 r3, xs = List.map mtD rest ∧ ms = done ++ rest ∧ s = st ∧ ρ = [some (netD m ms), some (.str (netS m done)), r2, r3]
theorem ltext_ok (hT : Has T "_law_text" f_law_text) {m : Nat} {ms : List Mt} (hm : m < 10 ^ 300) (hl : ms.length ≤ 5000) (htx : ∀ x ∈ ms, x.tx) : callF T n (k + 1) "_law_text" [netD m ms] st = some (.str (netS m ms), st) := by
  refine callF_eq (callF_f hT rfl ?_)
  have hs1 : ∀ s : Sto, biApp s .str [.val (.int (m : Int))] = some (.val (.str (numS m))) := fun s => str_nat hm
  have hz : szOk ((Str.ofString "places ").length + (numS m).length) = true := by
    have h1 : (Str.ofString "places ").length = 7 := by decide +kernel
    have h2 : (numS m).length ≤ 300 := by rw [TL.len_tl, numS_tl]; exact TL.numL_len (by decide) hm
    exact decide_eq_true (by omega)
  have hone : (Str.ofString "\n").length = 1 := by decide +kernel
  have h0 : netS m [] = Txt.join " " (headP m) := rfl
  simp [f_law_text, c_law_text, wB_cons, netD, hs1, hz, head_txt]
  refine forL_w (ltextI m ms st) ?_ ?_ _ _ _ ⟨[], ms, none, none, rfl, rfl, rfl, rfl⟩
  · rintro ρ s ⟨done, rest, r2, r3, e, rfl, rfl, rfl⟩
    cases rest with
    | cons _ _ => simp at e
    | nil => exact ⟨rfl, by simp⟩
  · rintro x xs ρ s ⟨done, rest, r2, r3, e, rfl, rfl, rfl⟩
    cases rest with
    | nil => simp at e
    | cons y rest =>
      simp only [List.map_cons, List.cons.injEq] at e
      obtain ⟨rfl, rfl⟩ := e
      refine ⟨rfl, _, rfl, ?_⟩
      have hy := htx y (by simp)
      simp at hl
      have hsrc : ∀ s : Sto, srcOf s (.val (mtD y)) = some ⟨(partsM y).map Prod.fst, [], false⟩ := fun _ => rfl
      have hln := netS_len hm (ms := done) fun x hx => htx x (by simp [hx])
      have hll := lineS_len hy
      have hmul : (done.length + 1) * 1506 ≤ 5001 * 1506 := Nat.mul_le_mul_right _ (by omega)
      have z1 : szOk ((netS m done).length + (Str.ofString "\n").length) = true := decide_eq_true (by omega)
      have z2 : szOk ((netS m done ++ Str.ofString "\n").length + (lineS y).length) = true := decide_eq_true (by
        have : (netS m done ++ Str.ofString "\n").length = (netS m done).length + 1 := by rw [TL.len_tl, TL.tl_append, List.length_append, ← TL.len_tl, ← TL.len_tl, hone]
        omega)
      have hsn : netS m done ++ Str.ofString "\n" ++ lineS y = netS m (done ++ [y]) := by
        rw [netS, ← join_snoc _ _ (by simp [netP])]
        simp [netS, netP]
      simp [wB_cons, hsrc, z1]
      refine compL_ok (partsM y) _ (fun z => .str z.2) rfl (fun z hz => ⟨_, rfl, rfl, ev_eq ?_⟩) ?_
      · have hz' := fun s => parts_str (st := s) hy z hz
        simp [wipeD, hz']
      · have hj := fun s => line_join (st := s) hy
        simp [hj, z2, hsn]
        exact ⟨done ++ [y], rest, some (mtD y), r3, rfl, by simp, rfl, by simp⟩
end
end Mw

set_option Elab.async false
set_option linter.all false
set_option autoImplicit false
set_option maxRecDepth 100000
/-! PyF8: texts are texts; sameness of nets. -/
namespace Mw
open PySem
theorem wdS_lt {b : Bool} : ∀ c ∈ TL.tl (wdS b), c < 1114112 := by
  intro c hc
  have : ∀ b : Bool, (TL.tl (wdS b)).all (fun c => decide (c < 1114112)) = true := by decide +kernel
  simpa using List.all_eq_true.mp (this b) c hc
theorem numS_lt {n : Nat} : ∀ c ∈ TL.tl (numS n), c < 1114112 := by
  intro c hc
  rw [numS_tl] at hc
  have := numL_ok n c hc
  omega
theorem lineP_lt {m : Mt} : ∀ p ∈ lineP m, ∀ c ∈ TL.tl p, c < 1114112 := by
  intro p hp
  simp only [lineP, List.mem_cons, List.not_mem_nil, or_false] at hp
  rcases hp with rfl | rfl | rfl | rfl | rfl
  · exact wdS_lt
  all_goals exact numS_lt
theorem join_lt {y : Str} {ps : List Str} (hy : ∀ c ∈ TL.tl y, c < 1114112) (h : ∀ p ∈ ps, ∀ c ∈ TL.tl p, c < 1114112) : ∀ c ∈ TL.tl (Txt.join y ps), c < 1114112 := by
  intro c hc
  rw [join_tl] at hc
  rcases joinL_mem hc with q | ⟨p, hp, q⟩
  · exact hy c q
  · obtain ⟨z, hz, rfl⟩ := List.mem_map.mp hp
    exact h z hz c q
theorem sp_lt : ∀ c ∈ TL.tl (Str.ofString " "), c < 1114112 := by
  intro c hc
  rw [show TL.tl (Str.ofString " ") = [32] from by decide +kernel] at hc
  rw [List.mem_singleton.mp hc]; decide
theorem nl_lt : ∀ c ∈ TL.tl (Str.ofString "\n"), c < 1114112 := by
  intro c hc
  rw [show TL.tl (Str.ofString "\n") = [10] from by decide +kernel] at hc
  rw [List.mem_singleton.mp hc]; decide
theorem netS_ok (m : Nat) (ms : List Mt) : stOk (netS m ms) = true := by
  refine stOk_of (join_lt nl_lt fun p hp => ?_)
  rcases List.mem_cons.mp hp with rfl | hp
  · refine join_lt sp_lt fun q hq => ?_
    simp only [headP, List.mem_cons, List.not_mem_nil, or_false] at hq
    rcases hq with rfl | rfl
    · intro c hc
      have : (TL.tl (Str.ofString "places")).all (fun c => decide (c < 1114112)) = true := by decide +kernel
      simpa using List.all_eq_true.mp this c hc
    · exact numS_lt
  · obtain ⟨x, _, rfl⟩ := List.mem_map.mp hp
    exact join_lt sp_lt lineP_lt
theorem netS_eq {st : Sto} (m : Nat) (ms : List Mt) : pyEq st (.val (.str (netS m ms))) (.val (.str (netS m ms))) = some true := by
  rw [pyEq_str (netS_ok m ms) (netS_ok m ms)]; simp
theorem lowL_app {j : Nat} : ∀ {a b : List D}, D.lowL j (a ++ b) = (D.lowL j a && D.lowL j b)
  | [], b => by simp
  | x :: xs, b => by simp [lowL_app (a := xs), Bool.and_assoc]
theorem lowL_mt {j : Nat} {ms : List Mt} : D.lowL j (ms.map mtD) = true := by
  rw [lowL_all]
  intro x hx
  obtain ⟨y, _, rfl⟩ := List.mem_map.mp hx
  simp [mtD, wdD]
theorem sv_mt (m : Mt) : sv 1 (mtD m) = true := by
  have : ∀ b : Bool, stOk (if b then "both" else "to") = true := by decide +kernel
  simp [mtD, wdD, sv, svL, this]
theorem sv_net (m : Int) (ms : List Mt) : sv 3 (netD m ms) = true := by
  have h : svL 1 (ms.map mtD) = true := by
    rw [svL_all]
    intro x hx
    obtain ⟨y, _, rfl⟩ := List.mem_map.mp hx
    exact sv_mt y
  simp [netD, sv, svL, h]
def c_law_greater : CSs := (.cons (.asg (.tp (.cons (.nm 2) (.cons (.nm 3) .nil))) (.var 1)) (.cons (.asg (.nm 4) (.bin .add (.bin .mul (.call "_law_far" (.cons (.var 0) .nil)) (.bin .pow (.cst (.int 10)) (.cst (.int 26)))) (.call "_law_far" (.cons (.var 0) .nil)))) (.cons (.asg (.nm 5) (.tup (.cons (.tup (.cons (.cst (.str "to")) (.cons (.var 2) (.cons (.bin .add (.var 2) (.cst (.int 1))) (.cons (.var 4) (.cons (.cst (.int 1)) .nil)))))) (.cons (.tup (.cons (.cst (.str "both")) (.cons (.bin .add (.var 2) (.cst (.int 1))) (.cons (.cst (.int 0)) (.cons (.cst (.int 0)) (.cons (.bin .add (.bin .pow (.cst (.int 10)) (.cst (.int 39))) (.bin .fdiv (.var 4) (.cst (.int 10)))) .nil)))))) .nil)))) (.cons (.ret (.tup (.cons (.bin .add (.var 2) (.cst (.int 2))) (.cons (.bin .add (.bin .add (.sli (.var 5) .nil (.cons (.cst (.int 1)) .nil)) (.var 3)) (.var 5)) .nil)))) .nil))))
def f_law_greater : Fd := ⟨2, 6, c_law_greater⟩
section
variable {T : Tab} {n k : Nat} {st : Sto} {r B : Nat}
def gr1 (m F : Int) : Mt := ⟨false, m, m + 1, F, 1⟩
def gr2 (m F : Int) : Mt := ⟨true, m + 1, 0, 0, 10 ^ 39 + F / 10⟩
theorem greater_ok (hT : Has T "_law_draw" f_law_draw) (hF : Has T "_law_far" f_law_far) (hG : Has T "_law_greater" f_law_greater) (h : Dk B st r) (hB : B ≤ 10 ^ 10) {m : Int} {ms : List Mt} (hl : ms.length ≤ 1000) :
    ok2 (callF T n (k + 3) "_law_greater" [.ref r, netD m ms] st) fun d s => ∃ F : Int, 0 ≤ F ∧ F ≤ 10 ^ 39 + 10 ^ 13 ∧ d = netD (m + 2) (gr1 m F :: (ms ++ [gr1 m F, gr2 m F])) ∧ Dk (B + 8) s r ∧ Upd r st s := by
  refine callF_f hG rfl ?_
  have p1 : powOk 10 26 = true := by decide
  have p2 : powOk 10 39 = true := by decide
  have m1 : ∀ x : Int, 0 ≤ x → x ≤ 10 ^ 13 → mulOk x 100000000000000000000000000 = true := fun x h1 h2 => mulOk_l (by omega) (by omega)
  have c1 : ∀ x y : D, cutD [x, y] none (some 1) = [x] := fun x y => cut1
  simp [f_law_greater, c_law_greater, wB_cons, netD]
  refine far_w hT hF h (by omega) fun x1 s1 a1 b1 d1 u1 => ?_
  simp [p1, m1 x1 a1 b1]
  refine far_w hT hF d1 (by omega) fun x2 s2 a2 b2 d2 u2 => ?_
  simp [p2, c1]
  have u := u1.trans u2
  have z1 : szOk (1 + ms.length) = true := decide_eq_true (by omega)
  have z2 : szOk (1 + ms.length + 2) = true := decide_eq_true (by omega)
  have hlow : ∀ F : Int, D.low st.length (D.tup [D.int (m + 2), D.tup (mtD (gr1 m F) :: (List.map mtD ms ++ [mtD (gr1 m F), mtD (gr2 m F)]))]) = true := fun F => by
    simp [lowL_app, lowL_mt, mtD, wdD]
  refine ⟨z1, z2, x1 * 100000000000000000000000000 + x2, by omega, by omega, ?_⟩
  have hg := gcU u (hlow (x1 * 100000000000000000000000000 + x2))
  simp [mtD, wdD, gr1, gr2] at hg ⊢
  rw [hg]
  exact ⟨rfl, d2.mono (by omega), u⟩
end
end Mw

set_option Elab.async false
set_option linter.all false
set_option autoImplicit false
set_option maxRecDepth 100000
/-! PyW3: sorted rows of whole numbers; shown data. -/
namespace Mw
open PySem
section
variable {st : Sto}
theorem alike_ints : ∀ xs ys : List Int, PySem.W.alikeAll (xs.map PyData.int) (ys.map PyData.int) = true
  | [], _ => by simp [PySem.W.alikeAll]
  | _ :: _, [] => by simp [PySem.W.alikeAll]
  | x :: xs, y :: ys => by simp [PySem.W.alikeAll, PySem.W.alike, alike_ints xs ys]
theorem pl_ints : ∀ (k : Nat) (xs : List Int), plL k (xs.map D.int) = true
  | _, [] => rfl
  | k, x :: xs => by
    have := pl_ints k xs
    cases k <;> simp_all [plL, pl]
theorem pd_ints (xs : List Int) : pd (.tup (xs.map D.int)) = .tuple (xs.map PyData.int) := by
  have : pdL (xs.map D.int) = xs.map PyData.int := by rw [pdL_map, List.map_map]; rfl
  simp [pd, this]
theorem toPy_tupI (k : Nat) (xs : List Int) : toPy st (k + 1) (.tup (xs.map D.int)) = some (.tuple (xs.map PyData.int)) := by
  rw [toPy_pd _ _ (by simpa [pl] using pl_ints k xs), pd_ints]
theorem mapO_of {α γ : Type} {f : α → Option γ} {g : α → γ} : ∀ {l : List α}, (∀ a ∈ l, f a = some (g a)) → mapO f l = some (l.map g)
  | [], _ => rfl
  | x :: xs, h => by
    simp only [mapO, h x List.mem_cons_self, mapO_of fun a ha => h a (List.mem_cons_of_mem _ ha), List.map_cons]
/-- sorted of rows of whole numbers -/
theorem sort_ints {α : Type} {enc : α → D} (key : α → List Int) (he : ∀ a, enc a = .tup ((key a).map D.int)) (hn : ∀ a, key a ≠ []) {l : List α} (hl : l.length ≤ 16777216) :
    sortD st (l.map enc) = some ((l.mergeSort fun a b => decide (key a ≤ key b)).map enc) := by
  have e1 : ∀ a, toPy st 58 (enc a) = some (.tuple ((key a).map PyData.int)) := fun a => by rw [he]; exact toPy_tupI 57 _
  have e2 : ∀ a, pyD st (enc a) = .tuple ((key a).map PyData.int) := fun a => by simp [pyD, e1]
  have e3 : mapO (toPy st 58) (l.map enc) = some ((l.map enc).map (pyD st)) := mapO_of fun d hd => by
    obtain ⟨a, _, rfl⟩ := List.mem_map.mp hd
    rw [e1, e2]
  unfold sortD
  rw [e3]
  have c1 : alikeD ((l.map enc).map (pyD st)) = true := by
    simp only [alikeD, List.all_eq_true, List.mem_map, List.map_map]
    rintro _ ⟨a, _, rfl⟩ _ ⟨b, _, rfl⟩
    simp [e2, PySem.W.alike, alike_ints]
  have c2 : (((l.map enc).map (pyD st)).all tupC) = true := by
    simp only [List.all_eq_true, List.mem_map, List.map_map]
    rintro _ ⟨a, _, rfl⟩
    have := hn a
    cases h : key a with
    | nil => exact absurd h this
    | cons x xs => simp [e2, h, tupC]
  have c3 : szOk (l.map enc).length = true := by simpa [szOk] using hl
  simp only [c1, c2, c3, Bool.true_or, Bool.and_self, if_true]
  congr 1
  refine (List.map_mergeSort fun a _ b _ => ?_).symm
  show decide (key a ≤ key b) = !PySem.W.dataLt (pyD st (enc b)) (pyD st (enc a))
  rw [e2, e2, PySem.W.dataLt_tuple]
  have := PySem.W.dataLt_ints (key b) (key a)
  unfold PySem.W.rowLt at this
  rw [this]
  by_cases h : key b < key a
  · simp [h, List.not_le.mpr h]
  · simp [h, List.not_lt.mp h]
theorem le_tr {a b c : List Int} (h1 : a ≤ b) (h2 : b ≤ c) : a ≤ c := List.le_trans h1 h2
theorem sort_pairs {α : Type} (key : α → List Int) (l : List α) : (l.mergeSort fun a b => decide (key a ≤ key b)).Pairwise fun a b => key a ≤ key b := by
  have := List.pairwise_mergeSort (le := fun a b => decide (key a ≤ key b)) (fun a b c h1 h2 => by
    simp only [decide_eq_true_eq] at *
    exact le_tr h1 h2) (fun a b => by
    simp only [Bool.or_eq_true, decide_eq_true_eq]
    exact List.le_total _ _) l
  simpa using this
theorem sorted_tmp {zs ys : List D} (h : sortD st zs = some ys) : biApp st .sorted [.tmp zs] = some (.tmp ys) := by
  simp [biApp, biSorted, biSortL, orE, listOf, h]
theorem sorted_ref {zs ys : List D} {n : Nat} (hn : st[n]? = some (.lst zs)) (h : sortD st zs = some ys) : biApp st .sorted [.val (.ref n)] = some (.tmp ys) := by
  simp [biApp, biSorted, biSortL, orE, listOf, h, hn]
/-! ### shown -/
theorem repr_val {d : D} (h : pl 60 d = true) (h2 : (pd d).showable = true) (h3 : (pd d).shown.length ≤ 16777216) : biApp st .repr [.val d] = some (.val (.str (pd d).shown)) := by
  simp [biApp, biRepr, rvPy, toPy_pd 60 d h, h2, h3]
end
end Mw

set_option Elab.async false
set_option linter.all false
set_option autoImplicit false
set_option maxRecDepth 100000
/-! PyW4: plain values are shown. -/
namespace Mw
open PySem
mutual
def shOk : D → Bool
  | .non | .bl _ => true
  | .int i => decide (i.natAbs < 10 ^ 300)
  | .str s => decide (s = Str.ofString "to") || decide (s = Str.ofString "both")
  | .tup xs => shOkL xs
  | .rol _ | .ref _ => false
def shOkL : List D → Bool
  | [] => true
  | x :: xs => shOk x && shOkL xs
end
mutual
def wt : D → Nat
  | .tup xs => 3 + wtL xs
  | _ => 1200
def wtL : List D → Nat
  | [] => 0
  | x :: xs => wt x + 2 + wtL xs
end
def asc (s : Str) : Prop := ∀ c ∈ TL.tl s, c < 1114112
theorem asc_app {a b : Str} (h : asc a) (g : asc b) : asc (a ++ b) := fun c hc => by
  rw [TL.tl_append] at hc
  rcases List.mem_append.mp hc with q | q
  · exact h c q
  · exact g c q
theorem asc_lit {s : Str} (h : (TL.tl s).all (fun c => decide (c < 1114112)) = true) : asc s := fun c hc => by
  simpa using List.all_eq_true.mp h c hc
theorem asc_join {y : Str} (hy : asc y) : ∀ {ps : List Str}, (∀ p ∈ ps, asc p) → asc (Str.join y ps)
  | [], _ => asc_lit (s := Str.empty) (by decide +kernel)
  | [x], h => h x (by simp)
  | x :: z :: r, h => asc_app (asc_app (h x (by simp)) hy) (asc_join hy fun p hp => h p (by simp [hp]))
theorem len_join {y : Str} (hy : y.length ≤ 2) : ∀ {ps : List Str}, (Str.join y ps).length ≤ (ps.map fun p => p.length + 2).sum
  | [] => by show (Str.empty).length ≤ 0; decide
  | [x] => by show x.length ≤ _; simp
  | x :: z :: r => by
    have := len_join hy (ps := z :: r)
    show (x ++ y ++ Str.join y (z :: r)).length ≤ _
    rw [strLen_append, strLen_append]
    simp only [List.map_cons, List.sum_cons] at this ⊢
    omega
theorem pow300' : (10 : Nat) ^ 300 < 2 ^ 1000 := by decide +kernel
theorem int_shown {i : Int} (h : i.natAbs < 10 ^ 300) : i.natAbs.log2 < 1920 ∧ (Str.ofString (toString i)).length ≤ 1001 ∧ asc (Str.ofString (toString i)) := by
  have hp := pow300'
  have key : ∀ n : Nat, n < 10 ^ 300 → (Str.ofString (toString (n : Int))).length ≤ 1000 ∧ asc (Str.ofString (toString (n : Int))) := fun n hn => by
    refine ⟨?_, fun c hc => ?_⟩
    · have e : (toString (n : Int) : String) = Nat.repr n := rfl
      rw [e, ofString_length]
      exact nat_repr_length_le (by decide) (Nat.lt_trans hn hp)
    · have := numL_ok n c (by rw [← numS_tl]; exact hc)
      omega
  refine ⟨?_, ?_⟩
  · by_cases h0 : i.natAbs = 0
    · rw [h0]; decide
    · exact Nat.lt_of_lt_of_le ((Nat.log2_lt h0).mpr (Nat.lt_trans h hp)) (by decide)
  · cases i with
    | ofNat n =>
      obtain ⟨a, b⟩ := key n h
      exact ⟨Nat.le_succ_of_le a, b⟩
    | negSucc n =>
      have hn : n + 1 < 10 ^ 300 := h
      obtain ⟨a, b⟩ := key (n + 1) hn
      have e : Str.ofString (toString (Int.negSucc n)) = Str.ofString "-" ++ Str.ofString (toString ((n + 1 : Nat) : Int)) := by
        have : (toString (Int.negSucc n) : String) = "-" ++ toString ((n + 1 : Nat) : Int) := rfl
        rw [this]
        refine TL.ext_tl ?_
        rw [TL.tl_append, TL.tl_ofString, TL.tl_ofString, TL.tl_ofString, String.toList_append, List.map_append]
      rw [e]
      refine ⟨?_, asc_app (asc_lit (by decide +kernel)) b⟩
      rw [strLen_append]
      have : (Str.ofString "-").length = 1 := by decide +kernel
      omega
mutual
theorem sh_ok : ∀ d : D, shOk d = true → (pd d).showable = true ∧ (pd d).shown.length ≤ wt d ∧ asc (pd d).shown
  | .non, _ => ⟨rfl, by show (Str.ofString "None").length ≤ _; decide +kernel, asc_lit (by decide +kernel)⟩
  | .bl b, _ => by
    refine ⟨rfl, ?_, ?_⟩
    · cases b
      · show (Str.ofString "False").length ≤ _; decide +kernel
      · show (Str.ofString "True").length ≤ _; decide +kernel
    · cases b
      · exact asc_lit (s := Str.ofString "False") (by decide +kernel)
      · exact asc_lit (s := Str.ofString "True") (by decide +kernel)
  | .int i, h => by
    obtain ⟨a, b, c⟩ := int_shown (i := i) (of_decide_eq_true h)
    exact ⟨by simpa [pd, PyData.showable] using a, Nat.le_trans b (by show 1001 ≤ 1200; decide), c⟩
  | .str s, h => by
    simp only [shOk, Bool.or_eq_true, decide_eq_true_eq] at h
    refine ⟨rfl, ?_, ?_⟩
    · rcases h with rfl | rfl <;> (show (reprText _).length ≤ _; decide +kernel)
    · rcases h with rfl | rfl <;> exact asc_lit (s := reprText _) (by decide +kernel)
  | .tup xs, h => by
    obtain ⟨a, b, c⟩ := sh_okL xs h
    refine ⟨a, ?_, ?_⟩
    · show (tupleText (PyData.shownAll (pdL xs))).length ≤ 3 + wtL xs
      unfold tupleText
      rw [strLen_append, strLen_append]
      have h1 := len_join (y := ", ") (by decide +kernel) (ps := PyData.shownAll (pdL xs))
      have h2 : (Str.ofString "(").length = 1 := by decide +kernel
      have h3 : (Str.ofString (if (PyData.shownAll (pdL xs)).length == 1 then ",)" else ")")).length ≤ 2 := by split <;> decide +kernel
      have h4 : (("(" : String) : Str) = Str.ofString "(" := rfl
      omega
    · show asc (tupleText (PyData.shownAll (pdL xs)))
      unfold tupleText
      refine asc_app (asc_app (asc_lit (by decide +kernel)) (asc_join (asc_lit (by decide +kernel)) c)) ?_
      split <;> exact asc_lit (by decide +kernel)
theorem sh_okL : ∀ xs : List D, shOkL xs = true → PyData.showableAll (pdL xs) = true ∧ ((PyData.shownAll (pdL xs)).map fun p => p.length + 2).sum ≤ wtL xs ∧ ∀ p ∈ PyData.shownAll (pdL xs), asc p
  | [], _ => ⟨rfl, Nat.le_refl _, fun p hp => nomatch hp⟩
  | x :: xs, h => by
    simp only [shOkL, Bool.and_eq_true] at h
    obtain ⟨a, b, c⟩ := sh_ok x h.1
    obtain ⟨a', b', c'⟩ := sh_okL xs h.2
    refine ⟨?_, ?_, ?_⟩
    · simp [pdL, PyData.showableAll, a, a']
    · simp only [pdL, PyData.shownAll, List.map_cons, List.sum_cons, wtL]
      omega
    · intro p hp
      simp only [pdL, PyData.shownAll, List.mem_cons] at hp
      rcases hp with rfl | hp
      · exact c
      · exact c' p hp
end
section
variable {st : Sto}
theorem repr_sh {d : D} (h : shOk d = true) (h2 : pl 60 d = true) (h3 : wt d ≤ 16777216) : biApp st .repr [.val d] = some (.val (.str (pd d).shown)) :=
  repr_val h2 (sh_ok d h).1 (Nat.le_trans (sh_ok d h).2.1 h3)
theorem eq_sh {d : D} (h : shOk d = true) : pyEq st (.val (.str (pd d).shown)) (.val (.str (pd d).shown)) = some true := by
  rw [pyEq_str (stOk_of (sh_ok d h).2.2) (stOk_of (sh_ok d h).2.2)]; simp
theorem shOkL_all : ∀ {xs : List D}, shOkL xs = true ↔ ∀ x ∈ xs, shOk x = true
  | [] => by simp [shOkL]
  | x :: xs => by simp [shOkL, shOkL_all (xs := xs)]
theorem wtL_le {m : Nat} : ∀ {xs : List D}, (∀ x ∈ xs, wt x ≤ m) → wtL xs ≤ xs.length * (m + 2)
  | [], _ => by simp [wtL]
  | x :: xs, h => by
    have h1 := h x List.mem_cons_self
    have h2 := wtL_le fun y hy => h y (List.mem_cons_of_mem _ hy)
    simp only [wtL, List.length_cons, Nat.succ_mul]
    omega
end
end Mw

set_option Elab.async false
set_option linter.all false
set_option autoImplicit false
set_option maxRecDepth 100000
/-! PyH1: earliest comings, by the program. -/
namespace Mw
open PySem
def cby_begins : CSs := (.cons (.ret (.bi .sorted (.cons (.comp (.tp (.cons (.nm 1) (.cons (.nm 2) (.cons (.nm 3) (.cons (.nm 4) (.cons (.nm 5) .nil)))))) (.ex (.var 0)) .nil (.tup (.cons (.var 4) (.cons (.var 5) (.cons (.var 2) (.cons (.var 3) (.cons (.var 1) .nil)))))) [1, 2, 3, 4, 5]) .nil))) .nil)
def fby_begins : Fd := ⟨1, 6, cby_begins⟩
def ccomings : CSs := (.cons (.asg (.nm 4) (.bin .mul (.lst (.cons (.cst .non) .nil)) (.var 1))) (.cons (.put (.var 4) (.var 2) (.tup (.cons (.var 3) (.cons (.cst .non) (.cons (.cst .non) .nil))))) (.cons (.for (.tp (.cons (.nm 5) (.cons (.nm 6) (.cons (.nm 7) (.cons (.nm 8) (.cons (.nm 9) .nil)))))) (.ex (.call "by_begins" (.cons (.var 0) .nil))) (.cons (.ite (.and (.cmp .notN (.idx (.var 4) (.var 7)) (.cst .non)) (.cmp .le (.idx (.idx (.var 4) (.var 7)) (.cst (.int 0))) (.var 5))) (.cons (.ite (.or (.cmp .isN (.idx (.var 4) (.var 8)) (.cst .non)) (.cmp .lt (.var 6) (.idx (.idx (.var 4) (.var 8)) (.cst (.int 0))))) (.cons (.put (.var 4) (.var 8) (.tup (.cons (.var 6) (.cons (.var 9) (.cons (.var 7) .nil))))) .nil) .nil) .nil) .nil) .nil)) (.cons (.ret (.var 4)) .nil))))
def fcomings : Fd := ⟨4, 10, ccomings⟩
section
variable {st g : Sto} {o : O} {i : Nat}
@[simp] theorem geta {l : List O} : (st ++ l)[st.length + i]? = l[i]? := by rw [List.getElem?_append_right (by omega)]; congr 1; omega
@[simp] theorem geta0 {l : List O} : (st ++ l)[st.length]? = l[0]? := geta (i := 0)
@[simp] theorem seta {l : List O} : (st ++ l).set (st.length + i) o = st ++ l.set i o := by rw [List.set_append_right _ _ (by omega)]; congr 2; omega
@[simp] theorem seta0 {l : List O} : (st ++ l).set st.length o = st ++ l.set 0 o := seta (i := 0)
theorem atI_i {α : Type} {xs : List α} {i : Int} {x : α} (h0 : 0 ≤ i) (h : xs[i.toNat]? = some x) : L2.atI xs i = some x := by
  have := atI_n h
  rwa [Int.toNat_of_nonneg h0] at this
theorem ixN_i {n : Nat} {i : Int} (h0 : 0 ≤ i) (h1 : i.toNat < n) : L2.ixN n i = some i.toNat := by
  unfold L2.ixN
  rw [if_pos h0, if_pos (by omega)]
theorem put_ref' {xs : List D} {i : Int} {v : D} {n : Nat} (h : st[n]? = some (.lst xs)) (h0 : 0 ≤ i) (h1 : i.toNat < xs.length) : putApp st (.val (.ref n)) (.val (.int i)) v = some (st.set n (.lst (xs.set i.toNat v))) := by
  simp only [putApp, h, ixN_i h0 h1, Option.map_some]
theorem idx_ref' {xs : List D} {i : Int} {n : Nat} {d : D} (h : st[n]? = some (.lst xs)) (h0 : 0 ≤ i) (h1 : xs[i.toNat]? = some d) : idxApp st (.val (.ref n)) (.val (.int i)) = some (.val d) := by
  rw [idx_ref h, atI_i h0 h1]; rfl
end
section
variable {T : Tab} {n k : Nat} {st : Sto}
/-! ### by_begins -/
def bbK (s : Sp) : List Int := [s.t, s.u, s.a, s.b, s.k]
def bbD (s : Sp) : D := .tup [.int s.t, .int s.u, .int s.a, .int s.b, .int s.k]
def sortB (S : List Sp) : List Sp := S.mergeSort fun a b => decide (bbK a ≤ bbK b)
theorem bb_eq (s : Sp) : bbD s = .tup ((bbK s).map D.int) := rfl
theorem sortB_mem {S : List Sp} {s : Sp} : s ∈ sortB S ↔ s ∈ S := (List.mergeSort_perm S _).mem_iff
theorem sortB_len {S : List Sp} : (sortB S).length = S.length := (List.mergeSort_perm S _).length_eq
theorem sortB_le (S : List Sp) : (sortB S).Pairwise fun s s' => s.t ≤ s'.t := (sort_pairs bbK S).imp fun {a b} h => by
  unfold bbK at h
  rw [List.cons_le_cons_iff] at h
  omega
theorem lowL_bb {m : Nat} (l : List Sp) : D.lowL m (l.map bbD) = true := by
  rw [lowL_all]
  intro x hx
  obtain ⟨s, _, rfl⟩ := List.mem_map.mp hx
  simp [bbD]
theorem by_begins_ok (hT : Has T "by_begins" fby_begins) {S : List Sp} (hl : S.length ≤ 16777216) : callF T n (k + 1) "by_begins" [.tup (S.map spD)] st = some (.ref st.length, st ++ [.lst ((sortB S).map bbD)]) := by
  refine callF_eq (callF_w hT rfl ?_)
  simp [fby_begins, cby_begins, wB_cons]
  refine compL_ok S spD bbD rfl (fun x hx => ⟨_, rfl, rfl, ev_eq ?_⟩) ?_
  · simp [wipeD, spD, bbD]
  · rw [sorted_tmp (sort_ints bbK bb_eq (fun a => by simp [bbK]) hl)]
    have := gc_one (st := st) (o := .lst ((sortB S).map bbD)) (by simp [O.low, lowL_bb])
    simp [this, sortB]
    exact ⟨congrArg Prod.fst this, congrArg Prod.snd this⟩
/-! ### comings -/
structure Cg where
  m : Int
  nm : Option (Int × Int)
def cmD : Option Cg → D
  | none => .non
  | some ⟨m, none⟩ => .tup [.int m, .non, .non]
  | some ⟨m, some (i, a)⟩ => .tup [.int m, .int i, .int a]
def mo (c : Option Cg) : Option Int := c.map (·.m)
def oiD : Option Int → D
  | none => .non
  | some i => .int i
def tfc (F : List (Option Cg)) : Tbf := tf (F.map mo)
def comStep (F : List (Option Cg)) (s : Sp) : List (Option Cg) := if lowers (tfc F) s then F.set s.b.toNat (some ⟨s.u, some (s.k, s.a)⟩) else F
def comStart (m : Nat) (p0 m0 : Int) : List (Option Cg) := (List.replicate m none).set p0.toNat (some ⟨m0, none⟩)
def comF (S : List Sp) (m : Nat) (p0 m0 : Int) : List (Option Cg) := (sortB S).foldl comStep (comStart m p0 m0)
theorem comStep_len {F : List (Option Cg)} {s : Sp} : (comStep F s).length = F.length := by unfold comStep; split <;> simp
theorem comF_len {S : List Sp} {m : Nat} {p0 m0 : Int} : (comF S m p0 m0).length = m := by
  have : ∀ (R : List Sp) (F : List (Option Cg)), (R.foldl comStep F).length = F.length := by
    intro R
    induction R with
    | nil => intro F; rfl
    | cons s R ih => intro F; rw [List.foldl_cons, ih, comStep_len]
  unfold comF
  rw [this]
  simp [comStart]
theorem tfc_at {F : List (Option Cg)} {p : Int} (h : 0 ≤ p) {c : Option Cg} (hc : F[p.toNat]? = some c) : tfc F p = mo c := by
  unfold tfc tf
  rw [if_pos h, List.getElem?_map, hc]; rfl
theorem isNon_cm {c : Option Cg} : isNon (.val (cmD c)) = c.isNone := by
  rcases c with _ | ⟨m, _ | ⟨i, a⟩⟩ <;> rfl
theorem idx_cm {m : Int} {nm : Option (Int × Int)} : idxApp st (.val (cmD (some ⟨m, nm⟩))) (.val (.int 0)) = some (.val (.int m)) := by
  rcases nm with _ | ⟨i, a⟩ <;> rfl
def SpIn (m : Nat) (s : Sp) : Prop := 0 ≤ s.a ∧ s.a.toNat < m ∧ 0 ≤ s.b ∧ s.b.toNat < m ∧ s.t < s.u
theorem lowL_cm {m : Nat} (l : List (Option Cg)) : D.lowL m (l.map cmD) = true := by
  rw [lowL_all]
  intro x hx
  obtain ⟨s, _, rfl⟩ := List.mem_map.mp hx
  rcases s with _ | ⟨m, _ | ⟨i, a⟩⟩ <;> simp [cmD]
theorem binApp_mul {x y : RV} : binApp st .mul x y = mulApp st x y := by unfold binApp; rfl
theorem mul_nons {m : Nat} (hm : m ≤ 1000) : mulApp st (.tmp [.non]) (.val (.int m)) = some (.tmp (List.replicate m .non)) := by
  have e : repD [D.non] (m : Int) = List.replicate m .non := by
    unfold repD
    induction m with
    | zero => rfl
    | succ m ih =>
      have := ih (by omega)
      simp only [Int.toNat_natCast] at this ⊢
      rw [List.replicate_succ, List.flatten_cons, this]; rfl
  unfold mulApp
  simp only [mutOf]
  have h1 : decide (-(2 : Int) ^ 62 ≤ (m : Int) ∧ (m : Int) < 2 ^ 62) = true := decide_eq_true (by omega)
  have h2 : szOk (([D.non] : List D).length * (m : Int).toNat) = true := decide_eq_true (by simp; omega)
  rw [h1, h2, e]
  rfl
def comI (st : Sto) (S : List Sp) (m : Nat) (p0 m0 : Int) (xs : List D) (ρ : Env) (s : Sto) : Prop :=
  ∃ (R : List Sp) (F : List (Option Cg)) (r5 r6 r7 r8 r9 : Option D), xs = R.map bbD ∧ (∀ s ∈ R, SpIn m s) ∧ F.length = m ∧ R.foldl comStep F = comF S m p0 m0 ∧ s = st ++ [.lst (F.map cmD), .lst ((sortB S).map bbD)] ∧
    ρ = [some (.tup (S.map spD)), some (.int m), some (.int p0), some (.int m0), some (.ref st.length), r5, r6, r7, r8, r9]
theorem comings_ok (h1 : Has T "by_begins" fby_begins) (hT : Has T "comings" fcomings) {S : List Sp} (hl : S.length ≤ 16777216) {m : Nat} (hm : m ≤ 1000) {p0 m0 : Int} (hp : 0 ≤ p0 ∧ p0.toNat < m) (hS : ∀ s ∈ S, SpIn m s) :
    callF T n (k + 2) "comings" [.tup (S.map spD), .int m, .int p0, .int m0] st = some (.ref st.length, st ++ [.lst ((comF S m p0 m0).map cmD)]) := by
  refine callF_eq (callF_w hT rfl ?_)
  have hput : ∀ v, putApp (st ++ [.lst (List.replicate m .non)]) (.val (.ref st.length)) (.val (.int p0)) v = some (st ++ [.lst ((List.replicate m .non).set p0.toNat v)]) := fun v => by
    rw [put_ref' get_last hp.1 (by simpa using hp.2)]; simp
  have hbin : binApp st .mul (.tmp [.non]) (.val (.int m)) = some (.tmp (List.replicate m .non)) := by rw [binApp_mul]; exact mul_nons hm
  simp [fcomings, ccomings, wB_cons, hbin, hput, by_begins_ok h1 hl]
  have e0 : (List.replicate m D.non).set p0.toNat (.tup [.int m0, .non, .non]) = (comStart m p0 m0).map cmD := by
    simp [comStart, List.map_set, cmD]
  rw [e0]
  rw [src_ref (xs := (sortB S).map bbD) (by simp)]
  simp
  refine forL_w (comI st S m p0 m0) ?_ ?_ _ _ _ ?_
  rotate_left 2
  · refine ⟨sortB S, comStart m p0 m0, none, none, none, none, none, rfl, fun s hs => hS s (sortB_mem.mp hs), ?_, ?_, ?_, ?_⟩
    · simp [comStart]
    · unfold comF; exact Eq.refl _
    · simp
    · simp [fcomings]
  · rintro ρ s ⟨R, F, r5, r6, r7, r8, r9, e, _, _, hF, rfl, rfl⟩
    cases R with
    | cons _ _ => simp at e
    | nil =>
      refine ⟨by simp [chk], ?_⟩
      simp only [List.foldl_nil] at hF
      subst hF
      simp
      have := gc_new (st := st) (g := [.lst ((comF S m p0 m0).map cmD), .lst ((sortB S).map bbD)]) (j := 0) (o := .lst ((comF S m p0 m0).map cmD)) .refl rfl (by simp [O.low, lowL_cm])
      simp at this
      simp [this]
  · rintro x xs ρ s ⟨R, F, r5, r6, r7, r8, r9, e, hR, hlen, hF, rfl, rfl⟩
    cases R with
    | nil => simp at e
    | cons s R =>
      simp only [List.map_cons, List.cons.injEq] at e
      obtain ⟨rfl, rfl⟩ := e
      obtain ⟨q1, q2, q3, q4, q5⟩ := hR s List.mem_cons_self
      refine ⟨by simp [chk], _, rfl, ?_⟩
      show wB _ _ _ _ _ _
      obtain ⟨ca, hca⟩ : ∃ c, F[s.a.toNat]? = some c := ⟨_, List.getElem?_eq_getElem (by omega)⟩
      obtain ⟨cb, hcb⟩ : ∃ c, F[s.b.toNat]? = some c := ⟨_, List.getElem?_eq_getElem (by omega)⟩
      have ia : ∀ s2 : Sto, s2[st.length]? = some (.lst (F.map cmD)) → idxApp s2 (.val (.ref st.length)) (.val (.int s.a)) = some (.val (cmD ca)) := fun s2 h => idx_ref' h q1 (by rw [List.getElem?_map, hca]; rfl)
      have ib : ∀ s2 : Sto, s2[st.length]? = some (.lst (F.map cmD)) → idxApp s2 (.val (.ref st.length)) (.val (.int s.b)) = some (.val (cmD cb)) := fun s2 h => idx_ref' h q3 (by rw [List.getElem?_map, hcb]; rfl)
      have hg : (st ++ [O.lst (F.map cmD), O.lst ((sortB S).map bbD)])[st.length]? = some (.lst (F.map cmD)) := by simp
      have ta := tfc_at q1 hca
      have tb := tfc_at q3 hcb
      have hp2 : ∀ v, putApp (st ++ [O.lst (F.map cmD), O.lst ((sortB S).map bbD)]) (.val (.ref st.length)) (.val (.int s.b)) v = some (st ++ [O.lst ((F.map cmD).set s.b.toNat v), O.lst ((sortB S).map bbD)]) := fun v => by
        rw [put_ref' hg q3 (by simp; omega)]; simp
      have same : lowers (tfc F) s = false → ∀ r5 r6 r7 r8 r9, comI st S m p0 m0 (R.map bbD) [some (.tup (S.map spD)), some (.int m), some (.int p0), some (.int m0), some (.ref st.length), r5, r6, r7, r8, r9] (st ++ [O.lst (F.map cmD), O.lst ((sortB S).map bbD)]) := fun hl r5 r6 r7 r8 r9 =>
        ⟨R, F, r5, r6, r7, r8, r9, rfl, fun s hs => hR s (List.mem_cons_of_mem _ hs), hlen, by rw [← hF, List.foldl_cons]; unfold comStep; rw [if_neg (by simp [hl])], rfl, rfl⟩
      have new : lowers (tfc F) s = true → ∀ r5 r6 r7 r8 r9, comI st S m p0 m0 (R.map bbD) [some (.tup (S.map spD)), some (.int m), some (.int p0), some (.int m0), some (.ref st.length), r5, r6, r7, r8, r9] (st ++ [O.lst ((F.map cmD).set s.b.toNat (.tup [.int s.u, .int s.k, .int s.a])), O.lst ((sortB S).map bbD)]) := fun hl r5 r6 r7 r8 r9 => by
        have e : comStep F s = F.set s.b.toNat (some ⟨s.u, some (s.k, s.a)⟩) := by unfold comStep; rw [if_pos hl]
        exact ⟨R, comStep F s, r5, r6, r7, r8, r9, rfl, fun s hs => hR s (List.mem_cons_of_mem _ hs), by rw [comStep_len]; exact hlen, by rw [← hF, List.foldl_cons], by rw [e]; simp [List.map_set, cmD], rfl⟩
      simp only [setT_nm] at *
      simp [wB_cons, bbD, ia _ hg, isNon_cm]
      cases ca with
      | none =>
        simp
        exact same (by simp [lowers, ta, mo]) _ _ _ _ _
      | some c =>
        obtain ⟨cm, cn⟩ := c
        simp [ia _ hg, idx_cm]
        by_cases hle : cm ≤ s.t
        · simp [hle, ib _ hg, isNon_cm]
          cases cb with
          | none =>
            simp [hp2]
            exact new (by simp [lowers, ta, tb, mo, hle]) _ _ _ _ _
          | some d =>
            obtain ⟨dm, dn⟩ := d
            simp [ib _ hg, idx_cm]
            by_cases hlt : s.u < dm
            · simp [hlt, hp2]
              exact new (by simp [lowers, ta, tb, mo, hle, hlt]) _ _ _ _ _
            · simp [hlt]
              exact same (by simp [lowers, ta, tb, mo, hlt]) _ _ _ _ _
        · simp [hle]
          exact same (by simp [lowers, ta, mo, hle]) _ _ _ _ _
end
end Mw

set_option Elab.async false
set_option linter.all false
set_option autoImplicit false
set_option maxRecDepth 100000
/-! PyH2: earliest, as it should be. -/
namespace Mw
open PySem
def cmoment_of : CSs := (.cons (.ite (.cmp .isN (.var 0) (.cst .non)) (.cons (.ret (.cst .non)) .nil) .nil) (.cons (.ret (.idx (.var 0) (.cst (.int 0)))) .nil))
def fmoment_of : Fd := ⟨1, 1, cmoment_of⟩
def cearliest_by : CSs := (.cons (.ret (.comp (.nm 4) (.ex (.call "comings" (.cons (.var 0) (.cons (.var 1) (.cons (.var 2) (.cons (.var 3) .nil)))))) .nil (.call "moment_of" (.cons (.var 4) .nil)) [4])) .nil)
def fearliest_by : Fd := ⟨4, 5, cearliest_by⟩
def cearliest : CSs := (.cons (.ret (.bi .tuple (.cons (.call "earliest_by" (.cons (.call "steps_of" (.cons (.var 0) .nil)) (.cons (.idx (.var 0) (.cst (.int 0))) (.cons (.var 1) (.cons (.var 2) .nil))))) .nil))) .nil)
def fearliest : Fd := ⟨3, 3, cearliest⟩
section
variable {T : Tab} {n k : Nat} {st : Sto}
def earF (S : List Sp) (m : Nat) (p0 m0 : Int) : List (Option Int) := (comF S m p0 m0).map mo
theorem earF_len {S : List Sp} {m : Nat} {p0 m0 : Int} : (earF S m p0 m0).length = m := by simp [earF, comF_len]
@[simp] theorem isNon_oi {o : Option Int} : isNon (.val (oiD o)) = o.isNone := by cases o <;> rfl
theorem moment_of_ok (hT : Has T "moment_of" fmoment_of) {c : Option Cg} : callF T n (k + 1) "moment_of" [cmD c] st = some (oiD (mo c), st) := by
  refine callF_eq (callF_w hT rfl ?_)
  rcases c with _ | ⟨m, nm⟩
  · simp [fmoment_of, cmoment_of, wB_cons, isNon_cm, mo, oiD]
  · simp [fmoment_of, cmoment_of, wB_cons, isNon_cm, mo, oiD, idx_cm]
theorem lowL_oi {m : Nat} (l : List (Option Int)) : D.lowL m (l.map oiD) = true := by
  rw [lowL_all]
  intro x hx
  obtain ⟨s, _, rfl⟩ := List.mem_map.mp hx
  cases s <;> simp [oiD]
structure HEar (T : Tab) : Prop where
  a : Has T "by_begins" fby_begins
  b : Has T "comings" fcomings
  c : Has T "moment_of" fmoment_of
  d : Has T "earliest_by" fearliest_by
theorem earliest_by_ok (h : HEar T) {S : List Sp} (hl : S.length ≤ 16777216) {m : Nat} (hm : m ≤ 1000) {p0 m0 : Int} (hp : 0 ≤ p0 ∧ p0.toNat < m) (hS : ∀ s ∈ S, SpIn m s) :
    callF T n (k + 3) "earliest_by" [.tup (S.map spD), .int m, .int p0, .int m0] st = some (.ref st.length, st ++ [.lst ((earF S m p0 m0).map oiD)]) := by
  refine callF_eq (callF_w h.d rfl ?_)
  simp [fearliest_by, cearliest_by, wB_cons, comings_ok h.a h.b hl hm hp hS]
  rw [src_ref (xs := (comF S m p0 m0).map cmD) (by simp)]
  simp
  refine compL_ok (comF S m p0 m0) cmD (fun c => oiD (mo c)) (by simp [chk]) (fun x hx => ⟨_, rfl, rfl, ev_eq ?_⟩) ?_
  · simp [wipeD, moment_of_ok h.c]
  · have e : List.map (fun c => oiD (mo c)) (comF S m p0 m0) = (earF S m p0 m0).map oiD := by simp [earF]
    rw [e]
    have := gc_new (st := st) (g := [.lst ((comF S m p0 m0).map cmD), .lst ((earF S m p0 m0).map oiD)]) (j := 1) (o := .lst ((earF S m p0 m0).map oiD)) .refl rfl (by simp [O.low, lowL_oi])
    simp [this]
theorem SpIn.mk' {m : Nat} {s : Sp} (h : SpIn m s) : SpIn m s := h
theorem stepsF_in {m : Nat} : ∀ {k : Nat} {ms : List Mt}, (∀ x ∈ ms, x.ok m) → ∀ s ∈ stepsF k ms, SpIn m s
  | _, [], _, s, hs => nomatch hs
  | k, x :: ms, h, s, hs => by
    obtain ⟨h1, h2, h3, h4, h5, h6, h7⟩ := h x List.mem_cons_self
    simp only [stepsF, List.mem_cons, List.mem_append] at hs
    rcases hs with rfl | hs | hs
    · exact ⟨h1, by simp only; omega, h3, by simp only; omega, by simp only; omega⟩
    · split at hs
      · rw [List.mem_singleton.mp hs]
        exact ⟨h3, by simp only; omega, h1, by simp only; omega, by simp only; omega⟩
      · cases hs
    · exact stepsF_in (fun y hy => h y (List.mem_cons_of_mem _ hy)) s hs
theorem earliest_ok (h : HEar T) (hs : Has T "steps_of" fsteps_of) (hT : Has T "earliest" fearliest) {m : Nat} (hm : m ≤ 1000) {ms : List Mt} (hl : ms.length ≤ 1000000) {p0 m0 : Int} (hp : 0 ≤ p0 ∧ p0.toNat < m) (hok : ∀ x ∈ ms, x.ok m) :
    callF T n (k + 4) "earliest" [netD m ms, .int p0, .int m0] st = some (.tup ((earF (stepsF 0 ms) m p0 m0).map oiD), st) := by
  refine callF_eq (callF_w hT rfl ?_)
  have e1 := steps_ok (n := n) (k := k + 2) (st := st) hs (m := m) hl
  have e2 := steps_len 0 ms
  have e3 := earliest_by_ok (n := n) (k := k) (st := st) h (S := stepsF 0 ms) (by omega) hm (m0 := m0) hp (stepsF_in hok)
  unfold netD at e1 ⊢
  simp [fearliest, cearliest, wB_cons, e1, e3]
  rw [tup_ref (xs := (earF (stepsF 0 ms) m p0 m0).map oiD) (by simp)]
  simp [gc_app, lowL_oi]
/-! ### right -/
theorem tfc_step {m : Nat} {F : List (Option Cg)} {s : Sp} (hl : F.length = m) (h : SpIn m s) : tfc (comStep F s) = lowS (tfc F) s := by
  unfold comStep lowS
  split
  · unfold tfc
    rw [List.map_set]
    exact tf_set h.2.2.1 (by rw [List.length_map, hl]; exact h.2.2.2.1)
  · rfl
theorem tfc_fold {m : Nat} : ∀ (R : List Sp) (F : List (Option Cg)), F.length = m → (∀ s ∈ R, SpIn m s) → tfc (R.foldl comStep F) = R.foldl lowS (tfc F)
  | [], F, _, _ => rfl
  | s :: R, F, hl, h => by
    rw [List.foldl_cons, List.foldl_cons, tfc_fold R _ (by rw [comStep_len]; exact hl) fun x hx => h x (List.mem_cons_of_mem _ hx), tfc_step hl (h s List.mem_cons_self)]
theorem tfc_start {m : Nat} {p0 m0 : Int} (hp : 0 ≤ p0 ∧ p0.toNat < m) : tfc (comStart m p0 m0) = fun p => if p = p0 then some m0 else none := by
  rw [← tf_start hp.1 hp.2]
  unfold tfc comStart
  rw [List.map_set, List.map_replicate]; rfl
theorem earF_right {S : List Sp} {m : Nat} {p0 m0 : Int} (hp : 0 ≤ p0 ∧ p0.toNat < m) (hS : ∀ s ∈ S, SpIn m s) : Right S p0 m0 (tf (earF S m p0 m0)) := by
  show Right S p0 m0 (tfc (comF S m p0 m0))
  unfold comF
  have hS' : ∀ s ∈ sortB S, SpIn m s := fun s hs => hS s (sortB_mem.mp hs)
  rw [tfc_fold (m := m) _ _ (by simp [comStart]) hS', tfc_start hp]
  exact pass_right (sortB S) [] _ snd_start ⟨m0, by simp, Int.le_refl _⟩ (fun s hs => nomatch hs) (fun s hs => nomatch hs) (sortB_le S) (fun s hs => ⟨sortB_mem.mp hs, (hS' s hs).2.2.2.2⟩) fun s hs => .inr (sortB_mem.mpr hs)
/-- any right table of as many places is the earliest -/
theorem earF_uniq {S : List Sp} {m : Nat} {p0 m0 : Int} (hp : 0 ≤ p0 ∧ p0.toNat < m) (hS : ∀ s ∈ S, SpIn m s) {l : List (Option Int)} (hl : l.length = m) (h : Right S p0 m0 (tf l)) : l = earF S m p0 m0 :=
  tf_inj (by rw [hl, earF_len]) (h.uniq (earF_right hp hS))
end
end Mw

set_option Elab.async false
set_option linter.all false
set_option autoImplicit false
set_option maxRecDepth 100000
/-! PyN1: draws from a deck; the deck of the laws of earliest comings. -/
namespace Mw
open PySem
/-- a deck from which so many can be drawn still -/
def okd (N : Nat) (o : O) : Prop := ∃ a b c : Int, o = deckO a b c ∧ 0 ≤ b ∧ b + N ≤ 2 ^ 60 ∧ 0 ≤ c ∧ c + N ≤ 2 ^ 60
theorem okd.mono {N M : Nat} {o : O} (h : okd N o) (hm : M ≤ N) : okd M o := by
  obtain ⟨a, b, c, e, h1, h2, h3, h4⟩ := h
  exact ⟨a, b, c, e, h1, by omega, h3, by omega⟩
theorem okd.low {N : Nat} {o : O} (h : okd N o) {m : Nat} : o.low m = true := by
  obtain ⟨a, b, c, rfl, _⟩ := h
  exact deck_low
/-- the def that draws -/
def DrawOk (T : Tab) (n : Nat) : Prop := ∀ (k : Nat) (st : Sto) (r N : Nat) (o : O) (m : Int), r < st.length → okd (N + 1) o → 0 < m → m < 1073741824 →
  ∃ x o', callF T n (k + 1) "_law_draw" [.ref r, .int m] (st.set r o) = some (.int x, st.set r o') ∧ 0 ≤ x ∧ x < m ∧ okd N o'
section
variable {T : Tab} {n k : Nat} {st g : Sto} {r N : Nat} {o o' : O}
theorem dr_w (W : DrawOk T n) (hr : r < st.length) (h : okd (N + 1) o) {m : Int} (h1 : 0 < m) (h2 : m < 1073741824) {Q : D → Sto → Prop}
    (q : ∀ x o', 0 ≤ x → x < m → okd N o' → Q (.int x) (st.set r o')) : ok2 (callF T n (k + 1) "_law_draw" [.ref r, .int m] (st.set r o)) Q := by
  obtain ⟨x, o', e, a, b, c⟩ := W k st r N o m hr h h1 h2
  rw [e]
  exact q x o' a b c
theorem pull (hr : r < st.length) {l : Sto} : st.set r o ++ l = (st ++ l).set r o := (List.set_append_left _ _ hr).symm
theorem gc_d (hr : r < st.length) (ho : okd N o') {d : D} (hd : d.low st.length = true) : gc (st.set r o) d (st.set r o') = (d, st.set r o') := by
  have e : st.set r o' = (st.set r o).set r o' := by rw [List.set_set]
  rw [e]
  exact gc_val' (Sta.refl.set ho.low) (by simpa using hd)
theorem gc_da (hr : r < st.length) (ho : okd N o') {d : D} (hd : d.low st.length = true) : gc (st.set r o) d ((st ++ g).set r o') = (d, st.set r o') := by
  rw [← pull hr]
  have e : st.set r o' = (st.set r o).set r o' := by rw [List.set_set]
  rw [e]
  exact gc_val (Sta.refl.set ho.low) (by simpa using hd)
theorem gc_dn (hr : r < st.length) (ho : okd N o') {j : Nat} {q : O} (hj : g[j]? = some q) (hq : q.low st.length = true) : gc (st.set r o) (.ref (st.length + j)) ((st ++ g).set r o') = (.ref st.length, (st ++ [q]).set r o') := by
  rw [← pull hr, ← pull hr]
  have e : st.set r o' = (st.set r o).set r o' := by rw [List.set_set]
  rw [e]
  have := gc_new (st := st.set r o) (s2 := (st.set r o).set r o') (g := g) (j := j) (o := q) (Sta.refl.set ho.low) hj (by simpa using hq)
  simpa using this
/-- the objects besides the deck -/
theorem get_d {i : Nat} (h : i ≠ r) : (st.set r o)[i]? = st[i]? := List.getElem?_set_ne (Ne.symm h)
end
def cC_law_deck : CSs := (.cons (.ite (.cmp .lt (.var 0) (.bin .pow (.cst (.int 10)) (.cst (.int 18)))) (.cons (.ret (.lst (.cons (.cst (.int 0)) (.cons (.cst (.int 0)) (.cons (.bin .mod (.var 0) (.cst (.int 2147483647))) .nil))))) .nil) .nil) (.cons (.ret (.lst (.cons (.var 0) (.cons (.cst (.int 0)) (.cons (.bin .mod (.var 0) (.cst (.int 2147483647))) .nil))))) .nil))
def fC_law_deck : Fd := ⟨1, 1, cC_law_deck⟩
def cC_law_draw : CSs := (.cons (.ite (.cmp .gt (.idx (.var 0) (.cst (.int 0))) (.cst (.int 0))) (.cons (.asg (.nm 2) (.bin .mod (.idx (.var 0) (.cst (.int 0))) (.var 1))) (.cons (.put (.var 0) (.cst (.int 0)) (.bin .fdiv (.idx (.var 0) (.cst (.int 0))) (.var 1))) (.cons (.ret (.var 2)) .nil))) .nil) (.cons (.put (.var 0) (.cst (.int 1)) (.bin .add (.idx (.var 0) (.cst (.int 1))) (.cst (.int 1)))) (.cons (.asg (.nm 3) (.bin .mod (.bin .mul (.bin .add (.idx (.var 0) (.cst (.int 2))) (.bin .mul (.bin .mul (.cst (.int 7919)) (.idx (.var 0) (.cst (.int 1)))) (.idx (.var 0) (.cst (.int 1))))) (.cst (.int 48271))) (.cst (.int 2147483647)))) (.cons (.ret (.bin .mod (.bin .fdiv (.bin .mod (.bin .mul (.var 3) (.bin .add (.var 3) (.cst (.int 69621)))) (.cst (.int 2147483629))) (.cst (.int 8))) (.var 1))) .nil))))
def fC_law_draw : Fd := ⟨2, 4, cC_law_draw⟩
def cC_law_far : CSs := (.cons (.ret (.bin .add (.bin .mul (.bin .add (.bin .mul (.call "_law_draw" (.cons (.var 0) (.cons (.cst (.int 10)) .nil))) (.bin .pow (.cst (.int 10)) (.cst (.int 6)))) (.call "_law_draw" (.cons (.var 0) (.cons (.bin .pow (.cst (.int 10)) (.cst (.int 6))) .nil)))) (.bin .pow (.cst (.int 10)) (.cst (.int 6)))) (.call "_law_draw" (.cons (.var 0) (.cons (.bin .pow (.cst (.int 10)) (.cst (.int 6))) .nil))))) .nil)
def fC_law_far : Fd := ⟨1, 1, cC_law_far⟩
def cC_law_begin : CSs := (.cons (.ite (.and (.cmp .eq (.var 1) (.cst (.int 1))) (.cmp .ne (.var 2) (.lst .nil))) (.cons (.ret (.bi .max (.cons (.cst (.int 0)) (.cons (.bin .add (.idx (.var 2) (.call "_law_draw" (.cons (.var 0) (.cons (.bi .len (.cons (.var 2) .nil)) .nil)))) (.idx (.lst (.cons (.cst (.int 0)) (.cons (.cst (.int 0)) (.cons (.neg (.cst (.int 1))) (.cons (.cst (.int 1)) .nil))))) (.call "_law_draw" (.cons (.var 0) (.cons (.cst (.int 4)) .nil))))) .nil)))) .nil) .nil) (.cons (.ite (.cmp .eq (.var 1) (.cst (.int 2))) (.cons (.ret (.bin .add (.cst (.int 5)) (.call "_law_draw" (.cons (.var 0) (.cons (.cst (.int 2)) .nil))))) .nil) .nil) (.cons (.ite (.cmp .eq (.var 1) (.cst (.int 3))) (.cons (.ret (.call "_law_far" (.cons (.var 0) .nil))) .nil) .nil) (.cons (.ite (.cmp .eq (.var 1) (.cst (.int 4))) (.cons (.ret (.bin .add (.idx (.bin .add (.var 2) (.lst (.cons (.cst (.int 0)) .nil))) (.bin .sub (.bi .len (.cons (.var 2) .nil)) (.cst (.int 1)))) (.idx (.lst (.cons (.cst (.int 0)) (.cons (.cst (.int 0)) (.cons (.cst (.int 0)) (.cons (.cst (.int 1)) .nil))))) (.call "_law_draw" (.cons (.var 0) (.cons (.cst (.int 4)) .nil)))))) .nil) .nil) (.cons (.ret (.call "_law_draw" (.cons (.var 0) (.cons (.cst (.int 31)) .nil)))) .nil)))))
def fC_law_begin : Fd := ⟨3, 3, cC_law_begin⟩
def cC_law_net : CSs := (.cons (.asg (.nm 2) (.call "_law_draw" (.cons (.var 0) (.cons (.cst (.int 6)) .nil)))) (.cons (.asg (.nm 3) (.bi .int (.cons (.cmp .eq (.call "_law_draw" (.cons (.var 0) (.cons (.cst (.int 8)) .nil))) (.cst (.int 5))) .nil))) (.cons (.asg (.nm 4) (.idx (.lst (.cons (.bin .add (.cst (.int 1)) (.call "_law_draw" (.cons (.var 0) (.cons (.cst (.int 6)) .nil)))) (.cons (.cst (.int 10)) .nil))) (.var 3))) (.cons (.asg (.nm 5) (.idx (.lst (.cons (.call "_law_draw" (.cons (.var 0) (.cons (.cst (.int 13)) .nil))) (.cons (.cst (.int 40)) .nil))) (.var 3))) (.cons (.asg (.nm 6) (.lst .nil)) (.cons (.for (.nm 7) (.rng (.cons (.bin .mul (.bi .min (.cons (.var 5) (.cons (.var 1) .nil))) (.bi .int (.cons (.cmp .gt (.var 4) (.cst (.int 1))) .nil))) .nil)) (.cons (.asg (.nm 8) (.idx (.lst (.cons (.call "_law_draw" (.cons (.var 0) (.cons (.var 4) .nil))) (.cons (.bin .mod (.var 7) (.var 4)) .nil))) (.bi .int (.cons (.cmp .eq (.var 2) (.cst (.int 4))) .nil)))) (.cons (.asg (.nm 9) (.bin .mod (.bin .add (.var 8) (.idx (.lst (.cons (.bin .add (.cst (.int 1)) (.call "_law_draw" (.cons (.var 0) (.cons (.bin .sub (.var 4) (.cst (.int 1))) .nil)))) (.cons (.cst (.int 1)) .nil))) (.bi .int (.cons (.cmp .eq (.var 2) (.cst (.int 4))) .nil)))) (.var 4))) (.cons (.asg (.nm 10) (.bin .add (.cst (.int 1)) (.idx (.lst (.cons (.call "_law_draw" (.cons (.var 0) (.cons (.cst (.int 4)) .nil))) (.cons (.call "_law_far" (.cons (.var 0) .nil)) .nil))) (.bi .int (.cons (.cmp .eq (.var 2) (.cst (.int 3))) .nil))))) (.cons (.asg (.nm 11) (.call "_law_begin" (.cons (.var 0) (.cons (.var 2) (.cons (.comp (.nm 12) (.ex (.var 6)) .nil (.bin .add (.idx (.var 12) (.cst (.int 3))) (.idx (.var 12) (.cst (.int 4)))) [12]) .nil))))) (.cons (.asg (.nm 12) (.tup (.cons (.idx (.lst (.cons (.cst (.str "to")) (.cons (.cst (.str "both")) .nil))) (.call "_law_draw" (.cons (.var 0) (.cons (.cst (.int 2)) .nil)))) (.cons (.var 8) (.cons (.var 9) (.cons (.var 11) (.cons (.var 10) .nil))))))) (.cons (.ite (.and (.cmp .eq (.var 2) (.cst (.int 5))) (.and (.cmp .ne (.var 6) (.lst .nil)) (.cmp .eq (.call "_law_draw" (.cons (.var 0) (.cons (.cst (.int 2)) .nil))) (.cst (.int 1))))) (.cons (.asg (.nm 12) (.idx (.var 6) (.call "_law_draw" (.cons (.var 0) (.cons (.bi .len (.cons (.var 6) .nil)) .nil))))) .nil) .nil) (.cons (.expr (.mt .append (.var 6) (.cons (.var 12) .nil))) .nil)))))))) (.cons (.ret (.tup (.cons (.var 4) (.cons (.bi .tuple (.cons (.var 6) .nil)) .nil)))) .nil)))))))
def fC_law_net : Fd := ⟨2, 13, cC_law_net⟩
def cC_law_moment : CSs := (.cons (.asg (.nm 2) (.call "_law_draw" (.cons (.var 0) (.cons (.cst (.int 8)) .nil)))) (.cons (.ite (.or (.cmp .gt (.var 2) (.cst (.int 5))) (.cmp .eq (.idx (.var 1) (.cst (.int 1))) (.tup .nil))) (.cons (.ret (.idx (.lst (.cons (.call "_law_draw" (.cons (.var 0) (.cons (.cst (.int 31)) .nil))) (.cons (.bin .pow (.cst (.int 10)) (.cst (.int 13))) (.cons (.cst (.int 0)) .nil)))) (.bin .fdiv (.call "_law_draw" (.cons (.var 0) (.cons (.cst (.int 8)) .nil))) (.cst (.int 3))))) .nil) .nil) (.cons (.asg (.tp (.cons (.nm 3) (.cons (.nm 4) (.cons (.nm 5) (.cons (.nm 6) (.cons (.nm 7) .nil)))))) (.idx (.idx (.var 1) (.cst (.int 1))) (.call "_law_draw" (.cons (.var 0) (.cons (.bi .len (.cons (.idx (.var 1) (.cst (.int 1))) .nil)) .nil))))) (.cons (.asg (.nm 8) (.lst (.cons (.var 6) (.cons (.bin .add (.var 6) (.var 7)) (.cons (.bin .add (.var 6) (.cst (.int 1))) (.cons (.bi .max (.cons (.cst (.int 0)) (.cons (.bin .sub (.var 6) (.cst (.int 1))) .nil))) (.cons (.bin .add (.bin .add (.var 6) (.var 7)) (.cst (.int 1))) (.cons (.var 6) .nil)))))))) (.cons (.ret (.bi .min (.cons (.bin .pow (.cst (.int 10)) (.cst (.int 13))) (.cons (.idx (.var 8) (.var 2)) .nil)))) .nil)))))
def fC_law_moment : Fd := ⟨2, 9, cC_law_moment⟩
def cC_law_steps : CSs := (.cons (.asg (.nm 1) (.lst .nil)) (.cons (.for (.tp (.cons (.nm 2) (.cons (.tp (.cons (.nm 3) (.cons (.nm 4) (.cons (.nm 5) (.cons (.nm 6) (.cons (.nm 7) .nil)))))) .nil))) (.enm (.idx (.var 0) (.cst (.int 1)))) (.cons (.expr (.mt .append (.var 1) (.cons (.tup (.cons (.var 2) (.cons (.var 4) (.cons (.var 5) (.cons (.var 6) (.cons (.bin .add (.var 6) (.var 7)) .nil)))))) .nil))) (.cons (.ite (.cmp .eq (.var 3) (.cst (.str "both"))) (.cons (.expr (.mt .append (.var 1) (.cons (.tup (.cons (.var 2) (.cons (.var 5) (.cons (.var 4) (.cons (.var 6) (.cons (.bin .add (.var 6) (.var 7)) .nil)))))) .nil))) .nil) .nil) .nil))) (.cons (.ret (.var 1)) .nil)))
def fC_law_steps : Fd := ⟨1, 8, cC_law_steps⟩
def cC_law_lowers : CSs := (.cons (.asg (.tp (.cons (.nm 2) (.cons (.nm 3) (.cons (.nm 4) (.cons (.nm 5) (.cons (.nm 6) .nil)))))) (.var 1)) (.cons (.ite (.or (.cmp .isN (.idx (.var 0) (.var 3)) (.cst .non)) (.cmp .gt (.idx (.var 0) (.var 3)) (.var 5))) (.cons (.ret (.cst (.bl false))) .nil) .nil) (.cons (.ret (.or (.cmp .isN (.idx (.var 0) (.var 4)) (.cst .non)) (.cmp .lt (.var 6) (.idx (.var 0) (.var 4))))) .nil)))
def fC_law_lowers : Fd := ⟨2, 7, cC_law_lowers⟩
def cC_law_due : CSs := (.cons (.asg (.nm 3) (.bin .mul (.lst (.cons (.cst .non) .nil)) (.idx (.var 0) (.cst (.int 0))))) (.cons (.put (.var 3) (.var 1) (.var 2)) (.cons (.asg (.nm 4) (.call "_law_steps" (.cons (.var 0) .nil))) (.cons (.asg (.nm 5) (.cst (.bl true))) (.cons (.while (.var 5) (.cons (.asg (.nm 5) (.cst (.bl false))) (.cons (.for (.nm 6) (.ex (.var 4)) (.cons (.ite (.call "_law_lowers" (.cons (.var 3) (.cons (.var 6) .nil))) (.cons (.put (.var 3) (.idx (.var 6) (.cst (.int 2))) (.idx (.var 6) (.cst (.int 4)))) (.cons (.asg (.nm 5) (.cst (.bl true))) .nil)) .nil) .nil)) .nil))) (.cons (.ret (.bi .tuple (.cons (.var 3) .nil))) .nil))))))
def fC_law_due : Fd := ⟨3, 7, cC_law_due⟩
def cC_law_text : CSs := (.cons (.asg (.nm 1) (.comp (.nm 2) (.ex (.idx (.var 0) (.cst (.int 1)))) .nil (.mt .join (.cst (.str " ")) (.cons (.comp (.nm 3) (.ex (.var 2)) .nil (.bi .str (.cons (.var 3) .nil)) [3]) .nil)) [2])) (.cons (.ret (.mt .join (.cst (.str "\n")) (.cons (.bin .add (.lst (.cons (.bin .add (.cst (.str "places ")) (.bi .str (.cons (.idx (.var 0) (.cst (.int 0))) .nil))) .nil)) (.var 1)) .nil))) .nil))
def fC_law_text : Fd := ⟨1, 4, cC_law_text⟩
section
variable {T : Tab} {n k : Nat} {st : Sto} {r N : Nat} {o : O}
theorem drawC (hT : Has T "_law_draw" fC_law_draw) : DrawOk T n := by
  intro k st r N o m hr ho h1 h2
  obtain ⟨a, b, c, rfl, b1, b2, c1, c2⟩ := ho
  have e : (st.set r (deckO a b c))[r]? = some (.lst [.int a, .int b, .int c]) := List.getElem?_set_self hr
  by_cases ha : 0 < a
  · refine ⟨a % m, deckO (a / m) b c, callF_eq (callF_w hT rfl ?_), Int.emod_nonneg _ (by omega), Int.emod_lt_of_pos _ h1, ⟨_, _, _, rfl, b1, by omega, c1, by omega⟩⟩
    have gd := fun o2 (h : okd N o2) => gc_d (st := st) (o := deckO a b c) hr h (d := .int (a % m)) rfl
    have := gd (deckO (a / m) b c) ⟨_, _, _, rfl, b1, by omega, c1, by omega⟩
    simp [fC_law_draw, cC_law_draw, wB_cons, idx_ref e, ha, h1, h2, put_ref e, L2.ixN]
    exact ⟨congrArg Prod.fst this, congrArg Prod.snd this⟩
  · have m1 : mulOk 7919 (b + 1) = true := mulOk_l (by decide) (by decide)
    have m2 : mulOk (7919 * (b + 1)) (b + 1) = true := mulOk_r (by omega) (by omega)
    have m3 : ∀ x : Int, mulOk x 48271 = true := fun x => mulOk_r (by decide) (by decide)
    have m4 : ∀ x y : Int, mulOk (x % 2147483647) y = true := fun x y => mulOk_l (by omega) (by omega)
    have e2 : ∀ o2 : O, (st.set r o2)[r]? = some o2 := fun o2 => List.getElem?_set_self hr
    have hk : okd N (deckO a (b + 1) c) := ⟨_, _, _, rfl, by omega, by omega, c1, by omega⟩
    refine ⟨(c + 7919 * (b + 1) * (b + 1)) * 48271 % 2147483647 * ((c + 7919 * (b + 1) * (b + 1)) * 48271 % 2147483647 + 69621) % 2147483629 / 8 % m, deckO a (b + 1) c, callF_eq (callF_w hT rfl ?_), Int.emod_nonneg _ (by omega), Int.emod_lt_of_pos _ h1, hk⟩
    have := gc_d (st := st) (o := deckO a b c) hr hk (d := .int ((c + 7919 * (b + 1) * (b + 1)) * 48271 % 2147483647 * ((c + 7919 * (b + 1) * (b + 1)) * 48271 % 2147483647 + 69621) % 2147483629 / 8 % m)) rfl
    simp [fC_law_draw, cC_law_draw, wB_cons, idx_ref e, ha, h1, h2, put_ref e, L2.ixN, idx_ref (e2 _), m1, m2, m3, m4]
    exact ⟨congrArg Prod.fst this, congrArg Prod.snd this⟩
theorem deckC (hT : Has T "_law_deck" fC_law_deck) {x : Int} : ∃ o, callF T n (k + 1) "_law_deck" [.int x] st = some (.ref st.length, st ++ [o]) ∧ okd (2 ^ 59) o := by
  have p1 : powOk 10 18 = true := by decide
  have g1 : ∀ a b c, gc st (.ref st.length) (st ++ [.lst [.int a, .int b, .int c]]) = (.ref st.length, st ++ [deckO a b c]) := fun a b c => gc_one (deck_low (a := a) (b := b) (c := c))
  by_cases hx : x < (1000000000000000000 : Int)
  · refine ⟨deckO 0 0 (x % 2147483647), callF_eq (callF_w hT rfl ?_), ⟨_, _, _, rfl, by omega, by omega, by omega, by omega⟩⟩
    simp [fC_law_deck, cC_law_deck, wB_cons, p1, hx, g1]
  · refine ⟨deckO x 0 (x % 2147483647), callF_eq (callF_w hT rfl ?_), ⟨_, _, _, rfl, by omega, by omega, by omega, by omega⟩⟩
    simp [fC_law_deck, cC_law_deck, wB_cons, p1, hx, g1]
theorem farC (W : DrawOk T n) (hF : Has T "_law_far" fC_law_far) (hr : r < st.length) (h : okd (N + 3) o) {Q : D → Sto → Prop}
    (q : ∀ x o', 0 ≤ x → x < 10 ^ 13 → okd N o' → Q (.int x) (st.set r o')) : ok2 (callF T n (k + 2) "_law_far" [.ref r] (st.set r o)) Q := by
  refine callF_w hF rfl ?_
  have p2 : powOk 10 6 = true := by decide
  have m1 : ∀ x : Int, mulOk x 1000000 = true := fun x => mulOk_r (by decide) (by decide)
  simp [fC_law_far, cC_law_far, wB_cons, p2, m1]
  refine dr_w W hr h (by decide) (by decide) fun x1 o1 a1 b1 h1 => ?_
  simp [p2, m1]
  refine dr_w W hr h1 (by decide) (by decide) fun x2 o2 a2 b2 h2 => ?_
  simp [p2, m1]
  refine dr_w W hr h2 (by decide) (by decide) fun x3 o3 a3 b3 h3 => ?_
  simp [gc_d hr h3 (d := .int _) rfl]
  exact q _ _ (by omega) (by omega) h3
end
section
variable {T : Tab} {n k : Nat} {st g : Sto} {r N : Nat} {o o' q : O} {i : Nat}
theorem getd (hr : r < st.length) : ((st ++ g).set r o)[st.length + i]? = g[i]? := by
  rw [List.getElem?_set_ne (by omega)]; exact geta
theorem getd0 (hr : r < st.length) : ((st ++ g).set r o)[st.length]? = g[0]? := getd (i := 0) hr
theorem setd (hr : r < st.length) : ((st ++ g).set r o).set (st.length + i) q = (st ++ g.set i q).set r o := by
  rw [List.set_comm _ _ (by omega), seta]
theorem setd0 (hr : r < st.length) : ((st ++ g).set r o).set st.length q = (st ++ g.set 0 q).set r o := setd (i := 0) hr
theorem lend : (st.set r o).length = st.length := List.length_set ..
/-- a place in a row of numbers -/
theorem atI_int {ys : List Int} {i : Int} (h0 : 0 ≤ i) (h1 : i < ys.length) : ∃ y, y ∈ ys ∧ L2.atI (ys.map D.int) i = some (.int y) := by
  have hl : i.toNat < ys.length := by omega
  refine ⟨ys[i.toNat], List.getElem_mem hl, atI_i h0 ?_⟩
  rw [List.getElem?_map, List.getElem?_eq_getElem hl]; rfl
theorem binApp_add {x y : RV} : binApp st .add x y = addApp st x y := by unfold binApp; rfl
theorem begC (W : DrawOk T n) (hF : Has T "_law_far" fC_law_far) (hB : Has T "_law_begin" fC_law_begin) (hr : r < st.length) (h : okd (N + 4) o) {es : List Int} {M : Int} (hM : 10 ^ 13 ≤ M) (he : ∀ e ∈ es, 0 ≤ e ∧ e ≤ M) (hl : es.length < 1000000) {j : Nat} (hj : st[j]? = some (.lst (es.map .int))) (hjr : j ≠ r) {sh : Int} {Q : D → Sto → Prop}
    (q : ∀ x o', 0 ≤ x → x ≤ M + 1 → okd N o' → Q (.int x) (st.set r o')) : ok2 (callF T n (k + 3) "_law_begin" [.ref r, .int sh, .ref j] (st.set r o)) Q := by
  refine callF_w hB rfl ?_
  have hg : ∀ o, (st.set r o)[j]? = some (.lst (es.map .int)) := fun o => by rw [get_d hjr]; exact hj
  have fin : ∀ x o', 0 ≤ x → x ≤ M + 1 → okd N o' → Q (gc (st.set r o) (.int x) (st.set r o')).1 (gc (st.set r o) (.int x) (st.set r o')).2 := fun x o' h1 h2 h3 => by
    rw [gc_d hr h3 (d := .int x) rfl]; exact q x o' h1 h2 h3
  have hne : ∀ o, pyEq (st.set r o) (.val (.ref j)) (.tmp []) = some (decide (es = [])) := fun o => by
    rw [pyEq_list (xs := es.map .int) (ys := []) (listOf_ref (hg o)) rfl (pl_ints _ _) rfl (by rw [nbL_all]; intro x hx; obtain ⟨y, _, rfl⟩ := List.mem_map.mp hx; rfl) rfl]
    simp
  simp [fC_law_begin, cC_law_begin, wB_cons, hne]
  by_cases s1 : sh = 1 ∧ es ≠ []
  · obtain ⟨rfl, hne2⟩ := s1
    have hpos : 0 < es.length := List.length_pos_iff.mpr hne2
    simp [hne2, len_ref (hg _)]
    refine dr_w W hr (N := N + 3) h (by omega) (by omega) fun x1 o1 a1 b1 h1 => ?_
    obtain ⟨y, hy, ey⟩ := atI_int (ys := es) a1 b1
    simp [idx_ref (hg _), ey]
    refine dr_w W hr (N := N + 2) h1 (by decide) (by decide) fun x2 o2 a2 b2 h2 => ?_
    obtain ⟨z, hz, ez⟩ := atI_int (ys := [0, 0, -1, 1]) a2 b2
    have ez' : L2.atI [D.int 0, D.int 0, D.int (-1), D.int 1] x2 = some (.int z) := ez
    simp [ez']
    have hz' : -1 ≤ z ∧ z ≤ 1 := by simp at hz; omega
    obtain ⟨e1, e2⟩ := he y hy
    split <;> exact fin _ _ (by omega) (by omega) (h2.mono (by omega))
  · have last : ok2 (callF T n (k + 2) "_law_draw" [.ref r, .int 31] (st.set r o)) fun d s2 => Q (gc (st.set r o) d s2).1 (gc (st.set r o) d s2).2 :=
      dr_w W hr (N := N + 3) h (by decide) (by decide) fun x1 o1 a1 b1 h1 => fin _ _ (by omega) (by omega) (h1.mono (by omega))
    by_cases h1 : sh = 1
    · have hn : es = [] := Decidable.byContradiction fun hh => s1 ⟨h1, hh⟩
      simp [h1, hn, last]
    · simp [h1]
      by_cases h2 : sh = 2
      · simp [h2]
        refine dr_w W hr (N := N + 3) h (by decide) (by decide) fun x1 o1 a1 b1 h1 => ?_
        simp
        exact fin _ _ (by omega) (by omega) (h1.mono (by omega))
      · simp [h2]
        by_cases h3 : sh = 3
        · simp [h3]
          exact farC W hF hr (N := N + 1) h fun x o' a b c => fin _ _ a (by omega) (c.mono (by omega))
        · simp [h3]
          by_cases h4 : sh = 4
          · have hcat : ∀ o, binApp (st.set r o) .add (.val (.ref j)) (.tmp [.int 0]) = some (.tmp ((es ++ [0]).map .int)) := fun o => by
              rw [binApp_add]
              have hz : szOk ((es.map D.int).length + [D.int 0].length) = true := decide_eq_true (by simp; omega)
              simp only [addApp, addL, listOf_ref (hg o)]
              simp [listOf]
              simpa using hz
            simp [h4, hcat, len_ref (hg _)]
            by_cases hn : es = []
            · subst hn
              simp [L2.atI, L2.ixN]
              refine dr_w W hr (N := N + 3) h (by decide) (by decide) fun x1 o1 a1 b1 h1 => ?_
              obtain ⟨z, hz, ez⟩ := atI_int (ys := [0, 0, 0, 1]) a1 b1
              have ez' : L2.atI [D.int 0, D.int 0, D.int 0, D.int 1] x1 = some (.int z) := ez
              have hz' : 0 ≤ z ∧ z ≤ 1 := by simp at hz; omega
              simp [ez']
              exact fin _ _ (by omega) (by omega) (h1.mono (by omega))
            · have hpos : 0 < es.length := List.length_pos_iff.mpr hn
              obtain ⟨y, hy, ey⟩ := atI_int (ys := es ++ [0]) (i := (es.length : Int) - 1) (by omega) (by simp; omega)
              have hy' : 0 ≤ y ∧ y ≤ M := by
                rcases List.mem_append.mp hy with hy | hy
                · exact he y hy
                · simp at hy; omega
              have ey' : L2.atI (es.map D.int ++ [D.int 0]) ((es.length : Int) - 1) = some (.int y) := by simpa using ey
              simp [ey']
              refine dr_w W hr (N := N + 3) h (by decide) (by decide) fun x1 o1 a1 b1 h1 => ?_
              obtain ⟨z, hz, ez⟩ := atI_int (ys := [0, 0, 0, 1]) a1 b1
              have ez' : L2.atI [D.int 0, D.int 0, D.int 0, D.int 1] x1 = some (.int z) := ez
              have hz' : 0 ≤ z ∧ z ≤ 1 := by simp at hz; omega
              simp [ez']
              exact fin _ _ (by omega) (by omega) (h1.mono (by omega))
          · simp [h4, last]
end
end Mw

set_option Elab.async false
set_option linter.all false
set_option autoImplicit false
set_option maxRecDepth 100000
/-! PyN2: loops; the nets of the laws of earliest comings. -/
namespace Mw
open PySem
section
variable {ws : List (Nat × O)} {t : D → Env → Option Env} {b : Env → Sto → Option (Fl × Env × Sto)} {Q : Fl → Env → Sto → Prop}
def nxt (I : Env → Sto → Prop) (Q : Fl → Env → Sto → Prop) : Fl → Env → Sto → Prop := fun f ρ s => match f with
  | .nx => I ρ s
  | .ct => I ρ s
  | .bk => Q .nx ρ s
  | .rt d => Q (.rt d) ρ s
@[simp] theorem nxt_nx {I : Env → Sto → Prop} {ρ : Env} {s : Sto} : nxt I Q .nx ρ s ↔ I ρ s := Iff.rfl
@[simp] theorem nxt_ct {I : Env → Sto → Prop} {ρ : Env} {s : Sto} : nxt I Q .ct ρ s ↔ I ρ s := Iff.rfl
@[simp] theorem nxt_bk {I : Env → Sto → Prop} {ρ : Env} {s : Sto} : nxt I Q .bk ρ s ↔ Q .nx ρ s := Iff.rfl
@[simp] theorem nxt_rt {I : Env → Sto → Prop} {ρ : Env} {s : Sto} {d : D} : nxt I Q (.rt d) ρ s ↔ Q (.rt d) ρ s := Iff.rfl
theorem for_map {α : Type} (f : α → D) (I : List α → Env → Sto → Prop) (hend : ∀ ρ s, I [] ρ s → chk ws s = true ∧ Q .nx ρ s)
    (hstep : ∀ z zs ρ s, I (z :: zs) ρ s → chk ws s = true ∧ ∃ ρ1, t (f z) ρ = some ρ1 ∧ ok3 (b ρ1 s) (nxt (I zs) Q)) (zs : List α) (ρ : Env) (s : Sto) (h : I zs ρ s) : ok3 (forL ws t b (zs.map f) ρ s) Q := by
  refine forL_w (fun xs ρ s => ∃ zs, xs = zs.map f ∧ I zs ρ s) ?_ ?_ _ _ _ ⟨zs, rfl, h⟩
  · rintro ρ s ⟨zs, e, hI⟩
    cases zs with
    | nil => exact hend ρ s hI
    | cons _ _ => simp at e
  · rintro x xs ρ s ⟨zs, e, hI⟩
    cases zs with
    | nil => simp at e
    | cons z zs =>
      simp only [List.map_cons, List.cons.injEq] at e
      obtain ⟨rfl, rfl⟩ := e
      obtain ⟨hc, ρ1, h1, h2⟩ := hstep z zs ρ s hI
      refine ⟨hc, ρ1, h1, ?_⟩
      rcases e : b ρ1 s with _ | ⟨fl, ρ2, s2⟩
      · rw [e] at h2; exact h2.elim
      · rw [e] at h2
        cases fl with
        | nx => exact ⟨zs, rfl, h2⟩
        | ct => exact ⟨zs, rfl, h2⟩
        | bk => exact h2
        | rt d => exact h2
theorem for_d (I : List D → Env → Sto → Prop) (hend : ∀ ρ s, I [] ρ s → chk ws s = true ∧ Q .nx ρ s)
    (hstep : ∀ z zs ρ s, I (z :: zs) ρ s → chk ws s = true ∧ ∃ ρ1, t z ρ = some ρ1 ∧ ok3 (b ρ1 s) (nxt (I zs) Q)) (zs : List D) (ρ : Env) (s : Sto) (h : I zs ρ s) : ok3 (forL ws t b zs ρ s) Q := by
  have := for_map id I hend hstep zs ρ s h
  rwa [List.map_id] at this
theorem for_rng {n : Nat} (I : Nat → Env → Sto → Prop) (hend : ∀ ρ s, I n ρ s → Q .nx ρ s)
    (hstep : ∀ i ρ s, i < n → I i ρ s → ∃ ρ1, t (.int (i : Int)) ρ = some ρ1 ∧ ok3 (b ρ1 s) (nxt (I (i + 1)) Q)) (ρ : Env) (s : Sto) (h : I 0 ρ s) : ok3 (forL [] t b (rangeD 0 n) ρ s) Q := by
  have e : rangeD 0 n = (List.range n).map fun (i : Nat) => D.int (i : Int) := by simp [rangeD]
  rw [e]
  refine for_map _ (fun zs ρ s => ∃ i, zs = List.range' i (n - i) ∧ i ≤ n ∧ I i ρ s) ?_ ?_ _ _ _ ⟨0, by simp [List.range_eq_range'], Nat.zero_le _, h⟩
  · rintro ρ s ⟨i, e, hi, hI⟩
    have : n - i = 0 := by
      cases hq : n - i with
      | zero => rfl
      | succ j => rw [hq, List.range'_succ] at e; cases e
    have : i = n := by omega
    subst this
    exact ⟨rfl, hend ρ s hI⟩
  · rintro z zs ρ s ⟨i, e, hi, hI⟩
    cases hq : n - i with
    | zero => rw [hq] at e; simp at e
    | succ j =>
      rw [hq, List.range'_succ] at e
      obtain ⟨rfl, rfl⟩ := List.cons.inj e
      obtain ⟨ρ1, h1, h2⟩ := hstep z ρ s (by omega) hI
      refine ⟨rfl, ρ1, h1, ?_⟩
      have hj : j = n - (z + 1) := by omega
      subst hj
      rcases e2 : b ρ1 s with _ | ⟨fl, ρ2, s2⟩
      · rw [e2] at h2; exact h2.elim
      · rw [e2] at h2
        cases fl with
        | nx => exact ⟨z + 1, rfl, by omega, h2⟩
        | ct => exact ⟨z + 1, rfl, by omega, h2⟩
        | bk => exact h2
        | rt d => exact h2
theorem rng1 {st : Sto} {j : Int} (h : -(2 ^ 62) ≤ j) (h2 : j < 2 ^ 62) : rngOf [.val (.int j)] = some ⟨rangeD 0 j.toNat, [], true⟩ := by
  simp only [rngOf]
  rw [if_pos (show i62 j = true from i62_iff.mpr ⟨h, h2⟩)]
theorem rngN {j : Nat} (h : j < 2 ^ 62) : rngOf [.val (.int (j : Int))] = some ⟨rangeD 0 j, [], true⟩ := by
  have := rng1 (st := []) (j := (j : Int)) (by omega) (by omega)
  simpa using this
end
section
variable {C : Call} {n : Nat} {c : CE} {a b : CSs} {ρ : Env} {st : Sto} {Q : Fl → Env → Sto → Prop}
theorem ok2_imp {α β : Type} {x : Option (α × β)} {P Q : α → β → Prop} (h : ok2 x P) (i : ∀ a b, P a b → Q a b) : ok2 x Q := by
  rcases x with _ | ⟨a, b⟩
  · exact h
  · exact i a b h
theorem okO_imp {α : Type} {x : Option α} {P Q : α → Prop} (h : okO x P) (i : ∀ a, P a → Q a) : okO x Q := by
  rcases x with _ | a
  · exact h
  · exact i a h
/-- a test first, then what follows it -/
theorem ite_cut (P : Bool → Sto → Prop) (h : wE C c ρ st fun x s1 => okO (truth s1 x) fun t => P t s1) (h' : ∀ t s1, P t s1 → if t = true then wB C n a ρ s1 Q else wB C n b ρ s1 Q) : wS C n (.ite c a b) ρ st Q := by
  rw [wS_ite]
  exact ok2_imp h fun x s1 h1 => okO_imp h1 fun t ht => h' t s1 ht
/-- a statement first, then what follows it -/
theorem st_cut {s : CS} (P : Fl → Env → Sto → Prop) (h : wS C n s ρ st P) (h' : ∀ f ρ1 s1, P f ρ1 s1 → Q f ρ1 s1) : wS C n s ρ st Q := by
  unfold wS at h ⊢
  rcases e : exS C n s ρ st with _ | ⟨f, ρ1, s1⟩
  · rw [e] at h; exact h
  · rw [e] at h; exact h' f ρ1 s1 h
/-- a test that is false -/
theorem ite_skip (P : Sto → Prop) (h : wE C c ρ st fun x s1 => okO (truth s1 x) fun t => t = false ∧ P s1) (h' : ∀ s1, P s1 → Q .nx ρ s1) : wS C n (.ite c a .nil) ρ st Q :=
  ite_cut (fun t s1 => t = false ∧ P s1) h fun t s1 ⟨h1, h2⟩ => by
    subst h1
    have : wB C n .nil ρ s1 Q ↔ Q .nx ρ s1 := by simp [wB, exs]
    simpa [this] using h' s1 h2
/-- an expression first, then what follows it -/
theorem wE_cut {P Q : RV → Sto → Prop} (h : wE C c ρ st P) (h' : ∀ x s, P x s → Q x s) : wE C c ρ st Q := ok2_imp h h'
end
section
variable {C : Call} {e : CE} {es : CEs} {ρ : Env} {st : Sto} {Q : Bool → Sto → Prop}
@[simp] theorem wC_nil : wC C .nil ρ st Q ↔ Q true st := by simp [wC, evC]
@[simp] theorem wC_cons : wC C (.cons e es) ρ st Q ↔ wE C e ρ st fun x s1 => okO (truth s1 x) fun t => if t = true then wC C es ρ s1 Q else Q false s1 := by
  unfold wC wE; simp only [evC]
  rcases ev C e ρ st with _ | ⟨x, s1⟩ <;> simp
  rcases truth s1 x with _ | (_ | _) <;> simp
end
/-- nets as they are drawn -/
theorem chk_one {st : Sto} {j : Nat} {o : O} (h : st[j]? = some o) : chk [(j, o)] st = true := by
  simp only [chk, List.all_cons, List.all_nil, Bool.and_true]
  exact decide_eq_true h
structure NetOk (B : Int) (m : Nat) (ms : List Mt) : Prop where
  m1 : 1 ≤ m
  m2 : m ≤ 10
  ok : ∀ x ∈ ms, x.ok m
  len : ms.length ≤ 40
  bd : ∀ x ∈ ms, x.t + x.l ≤ B
section
variable {T : Tab} {n k : Nat} {st g : Sto} {r N : Nat} {o o' q : O} {i : Nat}
@[simp] theorem eqv_int {a b : Int} : PyData.eqv (.int a) (.int b) = decide (a = b) := by
  simp only [PyData.eqv]
  exact dec_eq a b
theorem atI_map {α : Type} {f : α → D} {ys : List α} {i : Int} (h0 : 0 ≤ i) (h1 : i < ys.length) : ∃ y, y ∈ ys ∧ L2.atI (ys.map f) i = some (f y) := by
  have hl : i.toNat < ys.length := by omega
  refine ⟨ys[i.toNat], List.getElem_mem hl, atI_i h0 ?_⟩
  rw [List.getElem?_map, List.getElem?_eq_getElem hl]; rfl
def netCI (st : Sto) (r N : Nat) (most sh gr : Int) (m cnt : Nat) (c5 : Int) (i : Nat) (ρ : Env) (s : Sto) : Prop :=
  ∃ (ms : List Mt) (g : Sto) (o : O) (r7 r8 r9 r10 r11 r12 : Option D), ms.length = i ∧ (∀ x ∈ ms, x.ok m) ∧ (∀ x ∈ ms, x.t + x.l ≤ ((i : Int) + 1) * 10 ^ 14) ∧ okd (N + 13 * (cnt - i)) o ∧ s = (st ++ (.lst (ms.map mtD) :: g)).set r o ∧
    ρ = [some (.ref r), some (.int most), some (.int sh), some (.int gr), some (.int m), some (.int c5), some (.ref st.length), r7, r8, r9, r10, r11, r12]
theorem netC (W : DrawOk T n) (hF : Has T "_law_far" fC_law_far) (hB : Has T "_law_begin" fC_law_begin) (hN : Has T "_law_net" fC_law_net) (hr : r < st.length) (h : okd (N + 600) o) {most : Int} (h0 : 0 ≤ most) (hm : most ≤ 1000) {Q : D → Sto → Prop}
    (q : ∀ (m : Nat) ms o', NetOk (10 ^ 16) m ms → ms.length ≤ most → okd N o' → Q (netD m ms) (st.set r o')) : ok2 (callF T n (k + 4) "_law_net" [.ref r, .int most] (st.set r o)) Q := by
  refine callF_w hN rfl ?_
  simp [fC_law_net, cC_law_net, wB_cons]
  refine dr_w W hr (N := N + 599) h (by decide) (by decide) fun sh o1 a1 b1 h1 => ?_
  refine dr_w W hr (N := N + 598) h1 (by decide) (by decide) fun gr o2 a2 b2 h2 => ?_
  refine dr_w W hr (N := N + 597) h2 (by decide) (by decide) fun x3 o3 a3 b3 h3 => ?_
  obtain ⟨m, hm1, hm2, em⟩ : ∃ m : Nat, 1 ≤ m ∧ m ≤ 10 ∧ L2.atI [D.int (1 + x3), D.int 10] (if gr = 5 then 1 else 0) = some (.int (m : Int)) := by
    by_cases hg : gr = 5
    · exact ⟨10, by omega, by omega, by simp [hg]⟩
    · exact ⟨(1 + x3).toNat, by omega, by omega, by simp [hg]; omega⟩
  simp [em]
  refine dr_w W hr (N := N + 596) h3 (by decide) (by decide) fun x4 o4 a4 b4 h4 => ?_
  obtain ⟨c5, hc1, hc2, ec⟩ : ∃ c : Int, 0 ≤ c ∧ c ≤ 40 ∧ L2.atI [D.int x4, D.int 40] (if gr = 5 then 1 else 0) = some (.int c) := by
    by_cases hg : gr = 5
    · exact ⟨40, by omega, by omega, by simp [hg]⟩
    · exact ⟨x4, by omega, by omega, by simp [hg]⟩
  simp [ec, pull hr]
  obtain ⟨cnt, k1, k2, k3, ek⟩ : ∃ cnt : Nat, cnt ≤ 40 ∧ (cnt : Int) ≤ most ∧ (0 < cnt → 2 ≤ m) ∧ (if most < c5 then most else c5) * (if 1 < (m : Int) then 1 else 0) = (cnt : Int) := by
    by_cases h1 : 1 < (m : Int)
    · refine ⟨(if most < c5 then most else c5).toNat, ?_, ?_, ?_, ?_⟩
      · split <;> omega
      · split <;> omega
      · intro _; omega
      · simp [h1]; split <;> omega
    · exact ⟨0, by omega, by omega, by omega, by simp [h1]⟩
  have mk : mulOk (if most < c5 then most else c5) (if 1 < (m : Int) then 1 else 0) = true := mulOk_r (by split <;> decide) (by split <;> decide)
  rw [ek]
  simp [mk, rngN (show cnt < 2 ^ 62 by omega)]
  refine for_rng (netCI st r (N + 70) most sh (if gr = 5 then 1 else 0) m cnt c5) ?_ ?_ _ _ ⟨[], [], o4, none, none, none, none, none, none, rfl, by simp, by simp, h4.mono (by omega), rfl, rfl⟩
  · rintro ρ s ⟨ms, g, o', r7, r8, r9, r10, r11, r12, e1, e2, e3, e4, rfl, rfl⟩
    simp [tup_ref (getd0 (o := o') (g := .lst (ms.map mtD) :: g) hr)]
    have hd : (D.tup [.int (m : Int), .tup (ms.map mtD)]).low st.length = true := by simp [lowL_mt]
    rw [gc_da hr e4 hd]
    exact q m ms o' ⟨hm1, hm2, e2, by omega, fun x hx => by have := e3 x hx; omega⟩ (by omega) (e4.mono (by omega))
  · rintro i ρ s hi ⟨ms, g, o', r7, r8, r9, r10, r11, r12, e1, e2, e3, e4, rfl, rfl⟩
    refine ⟨_, rfl, ?_⟩
    have h2m := k3 (by omega)
    show wB _ _ _ _ _ _
    obtain ⟨N', eN⟩ : ∃ N', N' = N + 70 + 13 * (cnt - (i + 1)) := ⟨_, rfl⟩
    have h0 : okd (N' + 13) o' := e4.mono (by omega)
    have hr2 : ∀ g : Sto, r < (st ++ g).length := fun g => by simp; omega
    rw [wB_cons]
    simp
    refine dr_w W (hr2 _) (N := N' + 12) h0 (by omega) (by omega) fun x1 o1 a1 b1 h1 => ?_
    have hmod : 0 ≤ (i : Int) % m ∧ (i : Int) % m < m := ⟨Int.emod_nonneg _ (by omega), Int.emod_lt_of_pos _ (by omega)⟩
    obtain ⟨a, ha1, ha2, ea⟩ : ∃ a : Int, 0 ≤ a ∧ a < m ∧ L2.atI [D.int x1, D.int ((i : Int) % m)] (if sh = 4 then 1 else 0) = some (.int a) := by
      by_cases hg : sh = 4
      · exact ⟨_, hmod.1, hmod.2, by simp [hg]⟩
      · exact ⟨x1, a1, b1, by simp [hg]⟩
    simp [ea]
    refine ⟨by omega, ?_⟩
    rw [wB_cons]
    simp
    refine dr_w W (hr2 _) (N := N' + 11) h1 (by omega) (by omega) fun x2 o2 a2 b2 h2 => ?_
    obtain ⟨v, hv1, hv2, ev⟩ : ∃ v : Int, 1 ≤ v ∧ v < m ∧ L2.atI [D.int (1 + x2), D.int 1] (if sh = 4 then 1 else 0) = some (.int v) := by
      by_cases hg : sh = 4
      · exact ⟨1, by omega, by omega, by simp [hg]⟩
      · exact ⟨1 + x2, by omega, by omega, by simp [hg]⟩
    simp [ev]
    refine ⟨by omega, ?_⟩
    obtain ⟨b, eb⟩ : ∃ b, b = (a + v) % (m : Int) := ⟨_, rfl⟩
    have hb : 0 ≤ b ∧ b < m ∧ a ≠ b := by
      refine ⟨by rw [eb]; exact Int.emod_nonneg _ (by omega), by rw [eb]; exact Int.emod_lt_of_pos _ (by omega), fun e => ?_⟩
      rw [← e] at eb
      by_cases hlt : a + v < m
      · rw [Int.emod_eq_of_lt (by omega) hlt] at eb; omega
      · have : (a + v) % (m : Int) = a + v - m := by
          rw [← Int.sub_emod_right, Int.emod_eq_of_lt (by omega) (by omega)]
        omega
    rw [← eb]
    rw [wB_cons]
    simp
    refine dr_w W (hr2 _) (N := N' + 10) h2 (by omega) (by omega) fun x3 o3 a3 b3 h3 => ?_
    refine farC W hF (hr2 _) (N := N' + 7) h3 fun x4 o4 a4 b4 h4 => ?_
    obtain ⟨l, hl1, hl2, el⟩ : ∃ l : Int, 0 ≤ l ∧ l < 10 ^ 13 ∧ L2.atI [D.int x3, D.int x4] (if sh = 3 then 1 else 0) = some (.int l) := by
      by_cases hg : sh = 3
      · exact ⟨x4, by omega, by omega, by simp [hg]⟩
      · exact ⟨x3, by omega, by omega, by simp [hg]⟩
    simp [el]
    rw [wB_cons]
    simp
    rw [src_ref (getd0 (g := .lst (ms.map mtD) :: g) hr)]
    simp
    refine compL_ok ms mtD (fun x => .int (x.t + x.l)) (chk_one (getd0 hr)) (fun x hx => ⟨_, rfl, rfl, ev_eq ?_⟩) ?_
    · simp [wipeD, mtD]
    simp [pull (hr2 _)]
    have hbase : r < (st ++ O.lst (ms.map mtD) :: (g ++ [O.lst (ms.map fun x => D.int (x.t + x.l))])).length := hr2 _
    refine begC W hF hB hbase (N := N' + 3) h4 (es := ms.map fun x => x.t + x.l) (M := ((i : Int) + 1) * 10 ^ 14) (by omega) ?_ (by simp; omega) ?_ (by omega) fun tb o5 a5 b5 h5 => ?_
    · intro e he
      obtain ⟨x, hx, rfl⟩ := List.mem_map.mp he
      obtain ⟨_, _, _, _, _, q6, q7⟩ := e2 x hx
      exact ⟨by omega, e3 x hx⟩
    · rw [geta]; simp
    rw [wB_cons]
    simp
    refine dr_w W hbase (N := N' + 2) h5 (by decide) (by decide) fun x6 o6 a6 b6 h6 => ?_
    obtain ⟨wb, ewb⟩ : ∃ wb : Bool, L2.atI [D.str "to", D.str "both"] x6 = some (wdD wb) := by
      obtain rfl | rfl : x6 = 0 ∨ x6 = 1 := by omega
      · exact ⟨false, by simp [wdD]⟩
      · exact ⟨true, by simp [wdD]⟩
    simp [ewb]
    have mk : (⟨wb, a, b, tb, 1 + l⟩ : Mt).ok m := ⟨ha1, ha2, hb.1, hb.2.1, hb.2.2, a5, by simp only; omega⟩
    have hne : ∀ o : O, pyEq ((st ++ O.lst (ms.map mtD) :: (g ++ [O.lst (ms.map fun x => D.int (x.t + x.l))])).set r o) (.val (.ref st.length)) (.tmp []) = some (decide (ms = [])) := fun o => by
      rw [pyEq_list (xs := ms.map mtD) (ys := []) (listOf_ref (getd0 hr)) rfl plL_mt rfl nbL_mt rfl]
      simp
    -- the meeting is appended
    have done : ∀ (x : Mt) (o7 : O) (r12 : Option D), x.ok m → x.t + x.l ≤ ((i : Int) + 2) * 10 ^ 14 → okd N' o7 → ∀ (Q' : Fl → Env → Sto → Prop),
        wB (callF T n (k + 3)) n (.cons (.expr (.mt .append (.var 6) (.cons (.var 12) .nil))) .nil) [some (.ref r), some (.int most), some (.int sh), some (.int (if gr = 5 then 1 else 0)), some (.int m), some (.int c5), some (.ref st.length), some (.int i), some (.int a), some (.int b), some (.int (1 + l)), some (.int tb), some (mtD x)]
          ((st ++ O.lst (ms.map mtD) :: (g ++ [O.lst (ms.map fun x => D.int (x.t + x.l))])).set r o7) (nxt (netCI st r (N + 70) most sh (if gr = 5 then 1 else 0) m cnt c5 (i + 1)) Q') := by
      intro x o7 r12 hx hb7 ho7 Q'
      rw [wB_cons]
      simp [app_ref (getd0 (o := o7) (g := O.lst (ms.map mtD) :: (g ++ [O.lst (ms.map fun x => D.int (x.t + x.l))])) hr) (by simp; omega), setd0 hr]
      refine ⟨ms ++ [x], _, o7, _, _, _, _, _, _, by simp [e1], fun y hy => ?_, fun y hy => ?_, by rw [← eN]; exact ho7, by simp; rfl, rfl⟩
      · rcases List.mem_append.mp hy with hy | hy
        · exact e2 y hy
        · rw [List.mem_singleton.mp hy]; exact hx
      · rcases List.mem_append.mp hy with hy | hy
        · have := e3 y hy; omega
        · rw [List.mem_singleton.mp hy]; omega
    have self := fun o7 h7 Q' => done ⟨wb, a, b, tb, 1 + l⟩ o7 r12 mk (by simp only; omega) h7 Q'
    simp only [mtD] at self
    have hl0 := fun o : O => len_ref (getd0 (o := o) (g := O.lst (ms.map mtD) :: (g ++ [O.lst (ms.map fun x => D.int (x.t + x.l))])) hr)
    have hi0 := fun (o : O) (i : Int) => idx_ref (i := i) (getd0 (o := o) (g := O.lst (ms.map mtD) :: (g ++ [O.lst (ms.map fun x => D.int (x.t + x.l))])) hr)
    rw [wB_cons]
    simp only [wS_ite, wE_and, wE_cmp, wE_var, wE_cst]
    by_cases h5' : sh = 5
    · by_cases hms : ms = []
      · have hne' := fun o => (hne o).trans (congrArg some (decide_eq_true hms))
        simp only [pyEq_int, cmp_eq, okO_some, truth_bl, h5', decide_true, if_true, wE_cmp, wE_var, wE_cst, wE_lst, wA_nil, cmp_ne]
        simp [hne']
        simpa [h5'] using self o6 (h6.mono (by omega)) _
      · have hpos : 0 < ms.length := List.length_pos_iff.mpr hms
        simp [h5', hne, hms]
        refine dr_w W hbase (N := N' + 1) h6 (by decide) (by decide) fun x7 o7 a7 b7 h7 => ?_
        simp
        by_cases h71 : x7 = 1
        · simp [h71, wB_cons, hl0]
          refine dr_w W hbase (N := N') h7 (by omega) (by omega) fun x8 o8 a8 b8 h8 => ?_
          obtain ⟨y, hy, ey⟩ := atI_map (f := mtD) (ys := ms) a8 b8
          simp [hi0, ey]
          have := done y o8 r12 (e2 y hy) (by have := e3 y hy; omega) h8
          simp [wB_cons, h5'] at this
          exact this
        · simp [h71]
          simpa [h5'] using self o7 (h7.mono (by omega)) _
    · simp [h5']
      exact self o6 (h6.mono (by omega)) _
end
end Mw

set_option Elab.async false
set_option linter.all false
set_option autoImplicit false
set_option maxRecDepth 100000
/-! PyN3: moments drawn; the earliest as the laws reckon it. -/
namespace Mw
open PySem
section
variable {c : Env → Sto → Option (Bool × Sto)} {b : Env → Sto → Option (Fl × Env × Sto)} {Q : Fl → Env → Sto → Prop}
/-- a loop by a measure -/
theorem while_w (I : Nat → Env → Sto → Prop)
    (h : ∀ j ρ s, I j ρ s → ∃ t, c ρ s = some (t, s) ∧ (t = false → Q .nx ρ s) ∧ (t = true → ok3 (b ρ s) (nxt (fun ρ s => ∃ j', j' < j ∧ I j' ρ s) Q))) :
    ∀ (n j : Nat) (ρ : Env) (s : Sto), j < n → I j ρ s → ok3 (whileL c b n ρ s) Q := by
  intro n
  induction n with
  | zero => intro j ρ s hj; omega
  | succ n ih =>
    intro j ρ s hj hI
    obtain ⟨t, e1, h1, h2⟩ := h j ρ s hI
    simp only [whileL, e1]
    cases t with
    | false => exact h1 rfl
    | true =>
      have h3 := h2 rfl
      rcases e2 : b ρ s with _ | ⟨fl, ρ2, s2⟩
      · rw [e2] at h3; exact h3.elim
      · rw [e2] at h3
        simp only [e2]
        cases fl with
        | nx => obtain ⟨j', hl, hI'⟩ := h3; exact ih j' ρ2 s2 (by omega) hI'
        | ct => obtain ⟨j', hl, hI'⟩ := h3; exact ih j' ρ2 s2 (by omega) hI'
        | bk => exact h3
        | rt d => exact h3
end
section
variable {T : Tab} {n k : Nat} {st g : Sto} {r N : Nat} {o o' q : O} {i : Nat}
theorem momentC (W : DrawOk T n) (hM : Has T "_law_moment" fC_law_moment) (hr : r < st.length) (h : okd (N + 3) o) {m : Nat} {ms : List Mt} (hl : ms.length < 1000000) (hok : ∀ x ∈ ms, 0 ≤ x.t ∧ 1 ≤ x.l) {Q : D → Sto → Prop}
    (q : ∀ x o', 0 ≤ x → x ≤ 10 ^ 13 → okd N o' → Q (.int x) (st.set r o')) : ok2 (callF T n (k + 2) "_law_moment" [.ref r, netD m ms] (st.set r o)) Q := by
  refine callF_w hM rfl ?_
  have fin : ∀ x o', 0 ≤ x → x ≤ 10 ^ 13 → okd N o' → Q (gc (st.set r o) (.int x) (st.set r o')).1 (gc (st.set r o) (.int x) (st.set r o')).2 := fun x o' h1 h2 h3 => by
    rw [gc_d hr h3 (d := .int x) rfl]; exact q x o' h1 h2 h3
  have p3 : powOk 10 13 = true := by decide
  have hE : ∀ s : Sto, pyEq s (.val (.tup (ms.map mtD))) (.val (.tup [])) = some (decide (ms = [])) := fun s => by
    rw [pyEq_val (by simpa [pl] using plL_mt) rfl (by simpa [nb] using nbL_mt) rfl]
    simp
  simp [fC_law_moment, cC_law_moment, wB_cons, netD]
  refine dr_w W hr (N := N + 2) h (by decide) (by decide) fun w o1 a1 b1 h1 => ?_
  have one : ok2 (callF T n (k + 1) "_law_draw" [.ref r, .int 31] (st.set r o1)) (fun d s2 => powOk 10 13 = true ∧ ok2 (callF T n (k + 1) "_law_draw" [.ref r, .int 8] s2) fun e s3 => okO (binApp s3 .fdiv (.val e) (.val (.int 3))) fun y => okO (idxApp s3 (.tmp [d, .int (10 ^ 13), .int 0]) y) fun z =>
      Q (gc (st.set r o) (mat z s3).1 (mat z s3).2).1 (gc (st.set r o) (mat z s3).1 (mat z s3).2).2) := by
    refine dr_w W hr (N := N + 1) h1 (by decide) (by decide) fun x2 o2 a2 b2 h2 => ⟨p3, ?_⟩
    refine dr_w W hr (N := N) h2 (by decide) (by decide) fun x3 o3 a3 b3 h3 => ?_
    simp
    obtain ⟨z, hz, ez⟩ := atI_int (ys := [x2, 10 ^ 13, 0]) (i := x3 / 3) (by omega) (by simp; omega)
    have ez' : L2.atI [D.int x2, D.int 10000000000000, D.int 0] (x3 / 3) = some (.int z) := ez
    simp at hz
    simp [ez']
    exact fin _ _ (by omega) (by omega) h3
  simp at one
  by_cases h5 : 5 < w
  · simp [h5]
    exact one
  · simp [h5, hE]
    by_cases hms : ms = []
    · simp [hms]
      exact one
    · have hpos : 0 < ms.length := List.length_pos_iff.mpr hms
      simp [hms]
      refine dr_w W hr (N := N + 1) h1 (by omega) (by omega) fun x2 o2 a2 b2 h2 => ?_
      obtain ⟨y, hy, ey⟩ := atI_map (f := mtD) (ys := ms) a2 b2
      obtain ⟨y1, y2⟩ := hok y hy
      simp [ey, mtD, pull hr, p3]
      obtain ⟨z, hz, ez⟩ := atI_int (ys := [y.t, y.t + y.l, y.t + 1, if 0 < y.t - 1 then y.t - 1 else 0, y.t + y.l + 1, y.t]) (i := w) a1 (by simp; omega)
      simp at ez
      rw [idx_ref (getd0 hr)]
      have e2' : (10 : Int) ^ 13 = 10000000000000 := by decide
      have hz' : 0 ≤ z := by
        simp at hz
        rcases hz with rfl | rfl | rfl | rfl | rfl | rfl <;> first | omega | (split <;> omega)
      simp [ez]
      have hgc : ∀ v : Int, gc (st.set r o) (.int v) ((st ++ [O.lst [D.int y.t, D.int (y.t + y.l), D.int (y.t + 1), D.int (if 1 < y.t then y.t - 1 else 0), D.int (y.t + y.l + 1), D.int y.t]]).set r o2) = (.int v, st.set r o2) := fun v => gc_da hr h2 (d := .int v) rfl
      simp only [hgc]
      exact q _ _ (by split <;> omega) (by split <;> omega) (h2.mono (by omega))
/-! ### the law's own going round -/
def lstI (st : Sto) (d : D) (ms : List Mt) (zs : List (Mt × Nat)) (ρ : Env) (s : Sto) : Prop := ∃ (j : Nat) (ms' : List Mt) (done : List Sp) (r2 r3 r4 r5 r6 r7 : Option D), zs = ms'.zipIdx j ∧ s = st ++ [.lst (done.map spD)] ∧ done ++ stepsF j ms' = stepsF 0 ms ∧ ρ = [some d, some (.ref st.length), r2, r3, r4, r5, r6, r7]
theorem lstepsC (hT : Has T "_law_steps" fC_law_steps) {m : Int} {ms : List Mt} (hl : ms.length ≤ 1000000) : callF T n (k + 1) "_law_steps" [netD m ms] st = some (.ref st.length, st ++ [.lst ((stepsF 0 ms).map spD)]) := by
  refine callF_eq (callF_w hT rfl ?_)
  simp [fC_law_steps, cC_law_steps, wB_cons, netD]
  have hlen := steps_len 0 ms
  have e : enmD 0 (ms.map mtD) = (ms.zipIdx).map fun p => .tup [.int (p.2 : Int), mtD p.1] := by
    have : ∀ (j : Nat) (l : List Mt), enmD j (l.map mtD) = (l.zipIdx j).map fun p => .tup [.int (p.2 : Int), mtD p.1] := by
      intro j l
      induction l generalizing j with
      | nil => rfl
      | cons x xs ih => simp [enmD, ih]
    exact this 0 ms
  rw [e]
  refine for_map _ (lstI st (.tup [.int m, .tup (ms.map mtD)]) ms) ?_ ?_ _ _ _ ⟨0, ms, [], none, none, none, none, none, none, rfl, rfl, rfl, rfl⟩
  · rintro ρ s ⟨j, ms', done, r2, r3, r4, r5, r6, r7, e, rfl, hd, rfl⟩
    cases ms' with
    | cons _ _ => simp at e
    | nil =>
      simp [stepsF] at hd
      refine ⟨rfl, ?_⟩
      have := gc_one (st := st) (o := .lst ((stepsF 0 ms).map spD)) (by simp [O.low, lowL_sp])
      simp [hd, this]
  · rintro z zs ρ s ⟨j, ms', done, r2, r3, r4, r5, r6, r7, e, rfl, hd, rfl⟩
    cases ms' with
    | nil => simp at e
    | cons y ms' =>
      simp only [List.zipIdx_cons, List.cons.injEq] at e
      obtain ⟨rfl, rfl⟩ := e
      refine ⟨rfl, _, rfl, ?_⟩
      have hle : done.length + (stepsF j (y :: ms')).length = (stepsF 0 ms).length := by rw [← List.length_append, hd]
      simp only [stepsF, List.length_cons, List.length_append] at hle
      have hd' : done.length < 16777216 := by omega
      have hd2 : done.length + 1 < 16777216 := by omega
      show wB _ _ _ _ _ _
      simp [wB_cons, mtD, app_ref get_last, hd', hd2, wd_both]
      cases hb : y.bo
      · simp
        exact ⟨j + 1, ms', done ++ [⟨j, y.a, y.b, y.t, y.t + y.l⟩], _, _, _, _, _, _, rfl, by simp [spD], by rw [← hd]; simp [stepsF, hb], rfl⟩
      · simp [app_ref get_last, hd2]
        exact ⟨j + 1, ms', done ++ [⟨j, y.a, y.b, y.t, y.t + y.l⟩, ⟨j, y.b, y.a, y.t, y.t + y.l⟩], _, _, _, _, _, _, rfl, by simp [spD], by rw [← hd]; simp [stepsF, hb], rfl⟩
theorem lowersC (hT : Has T "_law_lowers" fC_law_lowers) {F : List (Option Int)} {s : Sp} (h : SpIn F.length s) {j : Nat} (hj : st[j]? = some (.lst (F.map oiD))) : callF T n (k + 1) "_law_lowers" [.ref j, spD s] st = some (.bl (lowers (tf F) s), st) := by
  refine callF_eq (callF_w hT rfl ?_)
  obtain ⟨q1, q2, q3, q4, q5⟩ := h
  obtain ⟨ca, hca⟩ : ∃ c, F[s.a.toNat]? = some c := ⟨_, List.getElem?_eq_getElem q2⟩
  obtain ⟨cb, hcb⟩ : ∃ c, F[s.b.toNat]? = some c := ⟨_, List.getElem?_eq_getElem q4⟩
  have ia : idxApp st (.val (.ref j)) (.val (.int s.a)) = some (.val (oiD ca)) := idx_ref' hj q1 (by rw [List.getElem?_map, hca]; rfl)
  have ib : idxApp st (.val (.ref j)) (.val (.int s.b)) = some (.val (oiD cb)) := idx_ref' hj q3 (by rw [List.getElem?_map, hcb]; rfl)
  have ta : tf F s.a = ca := by unfold tf; rw [if_pos q1, hca]; rfl
  have tb : tf F s.b = cb := by unfold tf; rw [if_pos q3, hcb]; rfl
  simp [fC_law_lowers, cC_law_lowers, wB_cons, spD, ia, ib]
  unfold lowers
  rw [ta, tb]
  cases ca with
  | none => simp
  | some x =>
    by_cases hx : s.t < x
    · have : ¬ x ≤ s.t := by omega
      simp [oiD, hx, this]
    · have : x ≤ s.t := by omega
      cases cb with
      | none => simp [oiD, hx, this]
      | some y => simp [oiD, hx, this]
def dueI (st : Sto) (d : D) (S : List Sp) (m : Nat) (p0 m0 : Int) (j : Nat) (ρ : Env) (s : Sto) : Prop :=
  ∃ (F : List (Option Int)) (more : Bool) (r6 : Option D), F.length = m ∧ Snd S p0 m0 (tf F) ∧ (∃ m', tf F p0 = some m' ∧ m' ≤ m0) ∧ (more = false → ∀ s ∈ S, lowers (tf F) s = false) ∧ j = (if more then room S (tf F) + 1 else 0) ∧
    s = st ++ [.lst (F.map oiD), .lst (S.map spD)] ∧ ρ = [some d, some (.int p0), some (.int m0), some (.ref st.length), some (.ref (st.length + 1)), some (.bl more), r6]
def dueJ (st : Sto) (d : D) (S : List Sp) (m : Nat) (p0 m0 : Int) (R0 : Nat) (zs : List Sp) (ρ : Env) (s : Sto) : Prop :=
  ∃ (F : List (Option Int)) (more : Bool) (r6 : Option D) (done : List Sp), done ++ zs = S ∧ F.length = m ∧ Snd S p0 m0 (tf F) ∧ (∃ m', tf F p0 = some m' ∧ m' ≤ m0) ∧ (more = false → (∀ s ∈ done, lowers (tf F) s = false) ∧ room S (tf F) ≤ R0) ∧ (more = true → room S (tf F) < R0) ∧
    s = st ++ [.lst (F.map oiD), .lst (S.map spD)] ∧ ρ = [some d, some (.int p0), some (.int m0), some (.ref st.length), some (.ref (st.length + 1)), some (.bl more), r6]
theorem dueC (h1 : Has T "_law_steps" fC_law_steps) (h2 : Has T "_law_lowers" fC_law_lowers) (hT : Has T "_law_due" fC_law_due) {m : Nat} (hm : m ≤ 1000) {ms : List Mt} (hl : ms.length ≤ 1000000) (hn : 2000010 < n) {p0 m0 : Int} (hp : 0 ≤ p0 ∧ p0.toNat < m) (hok : ∀ x ∈ ms, x.ok m) :
    callF T n (k + 2) "_law_due" [netD m ms, .int p0, .int m0] st = some (.tup ((earF (stepsF 0 ms) m p0 m0).map oiD), st) := by
  refine callF_eq (callF_w hT rfl ?_)
  have e1 := fun st : Sto => lstepsC (n := n) (k := k) (st := st) h1 (m := m) hl
  have hlen := steps_len 0 ms
  have hin : ∀ s ∈ stepsF 0 ms, SpIn m s := stepsF_in hok
  generalize stepsF 0 ms = S at hlen hin e1 ⊢
  unfold netD at e1 ⊢
  have hbin : binApp st .mul (.tmp [.non]) (.val (.int m)) = some (.tmp (List.replicate m .non)) := by rw [binApp_mul]; exact mul_nons hm
  have hput : ∀ v, putApp (st ++ [.lst (List.replicate m .non)]) (.val (.ref st.length)) (.val (.int p0)) v = some (st ++ [.lst ((List.replicate m .non).set p0.toNat v)]) := fun v => by
    rw [put_ref' get_last hp.1 (by simpa using hp.2)]; simp
  simp [fC_law_due, cC_law_due, wB_cons, hbin, hput, e1]
  have e0 : (List.replicate m D.non).set p0.toNat (.int m0) = ((List.replicate m (none : Option Int)).set p0.toNat (some m0)).map oiD := by simp [List.map_set, oiD]
  rw [e0]
  have hst := tf_start (m0 := m0) hp.1 hp.2
  refine while_w (dueI st (.tup [.int m, .tup (ms.map mtD)]) S m p0 m0) ?_ n _ _ _ (?_ : room S (tf ((List.replicate m none).set p0.toNat (some m0))) + 1 < n) ⟨_, true, none, by simp, by rw [hst]; exact snd_start, by rw [hst]; exact ⟨m0, by simp, Int.le_refl _⟩, fun h => (by cases h), rfl, by simp, rfl⟩
  rotate_left
  · have := room_le (S := S) (f := tf ((List.replicate m none).set p0.toNat (some m0)))
    omega
  rintro j ρ s ⟨F, more, r6, f1, f2, f3, f4, f5, rfl, rfl⟩
  refine ⟨more, by simp [evT, ev], fun hmore => ?_, fun hmore => ?_⟩
  · have hR := Right.of f2 f3 (cls_of (f4 hmore))
    have := earF_uniq hp hin f1 hR
    subst this
    simp [tup_ref (geta0 (l := [O.lst ((earF S m p0 m0).map oiD), .lst (S.map spD)]))]
    simp [gc_app, lowL_oi]
  · subst hmore
    show wB _ _ _ _ _ _
    simp only [wB_cons, wS_asg, wE_cst, setT_nm, mat_val, exists_eq_left', wS_for]
    simp
    rw [src_ref (xs := S.map spD) (by simp)]
    simp
    refine for_map spD (dueJ st (.tup [.int m, .tup (ms.map mtD)]) S m p0 m0 (room S (tf F) )) ?_ ?_ _ _ _ ⟨F, false, r6, [], rfl, f1, f2, f3, fun _ => ⟨fun s hs => (by cases hs), Nat.le_refl _⟩, fun h => (by cases h), rfl, rfl⟩
    · rintro ρ s ⟨F', more, r6', done, e, g1, g2, g3, g4, g5, rfl, rfl⟩
      simp at e
      subst e
      refine ⟨chk_one (by simp), ?_⟩
      show ∃ j', _
      refine ⟨if more then room done (tf F') + 1 else 0, ?_, F', more, r6', g1, g2, g3, fun h => (g4 h).1, rfl, rfl, rfl⟩
      rw [f5]
      cases more with
      | false => simp
      | true => have := g5 rfl; simp; omega
    · rintro z zs ρ s ⟨F', more, r6', done, e, g1, g2, g3, g4, g5, rfl, rfl⟩
      refine ⟨chk_one (by simp), _, rfl, ?_⟩
      have hz : z ∈ S := by rw [← e]; simp
      have hzin : SpIn F'.length z := by rw [g1]; exact hin z hz
      have hlow := lowersC (T := T) (n := n) (k := k) (st := st ++ [O.lst (F'.map oiD), O.lst (S.map spD)]) h2 hzin (j := st.length) (by simp)
      show wB _ _ _ _ _ _
      simp [wB_cons, hlow]
      by_cases hL : lowers (tf F') z = true
      · have hset : putApp (st ++ [O.lst (F'.map oiD), O.lst (S.map spD)]) (.val (.ref st.length)) (.val (.int z.b)) (.int z.u) = some (st ++ [O.lst ((F'.set z.b.toNat (some z.u)).map oiD), O.lst (S.map spD)]) := by
          rw [put_ref' (xs := F'.map oiD) (by simp) hzin.2.2.1 (by simpa using hzin.2.2.2.1)]; simp [List.map_set, oiD]
        have ets := tf_set (l := F') (s := z) hzin.2.2.1 hzin.2.2.2.1
        have hrm := room_low hz hL
        simp [hL, spD, hset]
        refine ⟨F'.set z.b.toNat (some z.u), true, _, done ++ [z], by simp [e], by simpa using g1, by rw [ets]; exact snd_low g2 hz hL, by rw [ets]; exact start_low g3 hL, fun h => (by cases h), fun _ => ?_, by simp [List.map_set], rfl⟩
        rw [ets]
        cases more with
        | false => have := (g4 rfl).2; omega
        | true => have := g5 rfl; omega
      · simp [hL]
        refine ⟨F', more, _, done ++ [z], by simp [e], g1, g2, g3, fun h => ⟨fun s hs => ?_, (g4 h).2⟩, g5, rfl, rfl⟩
        rcases List.mem_append.mp hs with hs | hs
        · exact (g4 h).1 s hs
        · rw [List.mem_singleton.mp hs]; simpa using hL
end
end Mw

set_option Elab.async false
set_option linter.all false
set_option autoImplicit false
set_option maxRecDepth 100000
/-! PyN4: texts of nets by the laws (second kind). -/
namespace Mw
open PySem
section
variable {T : Tab} {n k : Nat} {st g : Sto} {r N : Nat} {o o' q : O} {i : Nat}
theorem ltextC (hT : Has T "_law_text" fC_law_text) {m : Nat} {ms : List Mt} (hm : m < 10 ^ 300) (hl : ms.length ≤ 5000) (htx : ∀ x ∈ ms, x.tx) : callF T n (k + 1) "_law_text" [netD m ms] st = some (.str (netS m ms), st) := by
  refine callF_eq (callF_f hT rfl ?_)
  have hs1 : ∀ s : Sto, biApp s .str [.val (.int (m : Int))] = some (.val (.str (numS m))) := fun s => str_nat hm
  have hz : szOk ((Str.ofString "places ").length + (numS m).length) = true := by
    have h1 : (Str.ofString "places ").length = 7 := by decide +kernel
    have h2 : (numS m).length ≤ 300 := by rw [TL.len_tl, numS_tl]; exact TL.numL_len (by decide) hm
    exact decide_eq_true (by omega)
  have hnb : ∀ x ∈ netP m ms, x.length ≤ 1505 := by
    intro x hx
    rcases List.mem_cons.mp hx with rfl | hx
    · exact head_len hm
    · obtain ⟨y, hy, rfl⟩ := List.mem_map.mp hx
      exact lineS_len (htx y hy)
  have hsum := sum_le hnb
  have hone : (Str.ofString "\n").length = 1 := by decide +kernel
  have hnl : (netP m ms).length = ms.length + 1 := by simp [netP]
  have hmul : (netP m ms).length * 1505 ≤ 5001 * 1505 := Nat.mul_le_mul_right _ (by omega)
  simp [fC_law_text, cC_law_text, wB_cons, netD]
  refine compL_ok ms mtD (fun x => .str (lineS x)) rfl (fun x hx => ⟨_, rfl, rfl, ev_eq ?_⟩) ?_
  · have hsrc : ∀ s : Sto, srcOf s (.val (mtD x)) = some ⟨(partsM x).map Prod.fst, [], false⟩ := fun _ => rfl
    simp [wipeD, hsrc]
    refine compL_ok (partsM x) _ (fun z => .str z.2) rfl (fun z hz => ⟨_, rfl, rfl, ev_eq ?_⟩) ?_
    · have hz' := fun s => parts_str (st := s) (htx x hx) z hz
      simp [wipeD, hz']
    · have hj := fun s => line_join (st := s) (htx x hx)
      simp [hj]
  · simp [hs1, hz, head_txt]
    have hadd : binApp (st ++ [O.lst (ms.map fun x => D.str (lineS x))]) .add (.tmp [.str (Txt.join " " (headP m))]) (.val (.ref st.length)) = some (.tmp ((netP m ms).map .str)) := by
      rw [binApp_add]
      have h1 : szOk (([D.str (Txt.join " " (headP m))] : List D).length + (ms.map fun x => D.str (lineS x)).length) = true := decide_eq_true (by simp; omega)
      simp only [addApp, addL, listOf_ref get_last]
      simp only [listOf]
      rw [if_pos h1]
      simp [netP]
    have hj := join_app (s := st ++ [O.lst (ms.map fun x => D.str (lineS x))]) (y := Str.ofString "\n") (ys := netP m ms) (by rw [hone]; omega)
    simp [hadd, hj, gc_app]
    rfl
theorem deckC' (hT : Has T "_law_deck" fC_law_deck) {x : Int} {Q : D → Sto → Prop} (q : ∀ (st' : Sto) (r : Nat) (o : O), r < st'.length → okd (2 ^ 59) o → Q (.ref r) (st'.set r o)) : ok2 (callF T n (k + 1) "_law_deck" [.int x] st) Q := by
  obtain ⟨o, e, h⟩ := deckC (n := n) (k := k) (st := st) hT (x := x)
  rw [e]
  have e2 : st ++ [o] = (st ++ [o]).set st.length o := by simp
  rw [e2]
  exact q _ _ _ (by simp) h
/-- what is needed of the defs -/
structure HC (T : Tab) (n : Nat) : Prop where
  draw : DrawOk T n
  far : Has T "_law_far" fC_law_far
  steps : Has T "_law_steps" fC_law_steps
  low : Has T "_law_lowers" fC_law_lowers
  due : Has T "_law_due" fC_law_due
  n0 : 2000010 < n
structure HE (T : Tab) : Prop where
  ear : HEar T
  sof : Has T "steps_of" fsteps_of
  earl : Has T "earliest" fearliest
structure HR (T : Tab) : Prop where
  text : Has T "_law_text" fC_law_text
  isn : Has T "is_number_word" fis_number_word
  rnum : Has T "read_number" fread_number
  rmee : Has T "read_meeting" fread_meeting
  whole : Has T "is_whole" fis_whole
  place : Has T "is_place" fis_place
  meet : Has T "is_meeting" fis_meeting
  net : Has T "is_net" fis_net
  rnet : Has T "read_net" fread_net
structure EarOk (m : Nat) (ms : List Mt) : Prop where
  ok : ∀ x ∈ ms, x.ok m
  m1 : 1 ≤ m
  m2 : m ≤ 1000
  len : ms.length ≤ 5000
  bd : ∀ x ∈ ms, x.t + x.l < 10 ^ 200
theorem steps_bd {B : Int} : ∀ {j : Nat} {ms : List Mt}, (∀ x ∈ ms, 0 ≤ x.t ∧ 1 ≤ x.l ∧ x.t + x.l < B) → ∀ s ∈ stepsF j ms, 0 ≤ s.u ∧ s.u < B
  | _, [], _, s, hs => nomatch hs
  | j, x :: ms, h, s, hs => by
    obtain ⟨h1, h2, h3⟩ := h x List.mem_cons_self
    simp only [stepsF, List.mem_cons, List.mem_append] at hs
    rcases hs with rfl | hs | hs
    · exact ⟨by simp only; omega, h3⟩
    · split at hs
      · rw [List.mem_singleton.mp hs]; exact ⟨by simp only; omega, h3⟩
      · cases hs
    · exact steps_bd (fun y hy => h y (List.mem_cons_of_mem _ hy)) s hs
theorem rch_bd {S : List Sp} {p0 m0 B : Int} (h0 : 0 ≤ m0 ∧ m0 < B) (h : ∀ s ∈ S, 0 ≤ s.u ∧ s.u < B) {p m : Int} (r : Rch S p0 m0 p m) : 0 ≤ m ∧ m < B := by
  cases r with
  | here => exact h0
  | go _ hs _ => exact h _ hs
theorem tf_get {l : List (Option Int)} {i : Nat} {v : Int} (h : l[i]? = some (some v)) : tf l (i : Int) = some v := by
  unfold tf
  rw [if_pos (by omega), Int.toNat_natCast, h]; rfl
/-- rows of numbers and none are shown -/
theorem oi_sh {l : List (Option Int)} (hl : l.length ≤ 1000) (h : ∀ v, some v ∈ l → 0 ≤ v ∧ v < 10 ^ 200) : shOk (.tup (l.map oiD)) = true ∧ pl 60 (.tup (l.map oiD)) = true ∧ wt (.tup (l.map oiD)) ≤ 16777216 := by
  refine ⟨?_, ?_, ?_⟩
  · show shOkL _ = true
    rw [shOkL_all]
    intro x hx
    obtain ⟨c, hc, rfl⟩ := List.mem_map.mp hx
    cases c with
    | none => rfl
    | some v =>
      have := h v hc
      have e : (10 : Nat) ^ 200 ≤ 10 ^ 300 := Nat.pow_le_pow_right (by decide) (by decide)
      refine decide_eq_true ?_
      omega
  · show plL 59 _ = true
    rw [plL_all]
    intro x hx
    obtain ⟨c, hc, rfl⟩ := List.mem_map.mp hx
    cases c <;> rfl
  · show 3 + wtL _ ≤ _
    have := wtL_le (m := 1200) (xs := l.map oiD) fun x hx => by
      obtain ⟨c, hc, rfl⟩ := List.mem_map.mp hx
      cases c <;> exact Nat.le_refl _
    rw [List.length_map] at this
    have : l.length * (1200 + 2) ≤ 1000 * 1202 := Nat.mul_le_mul_right _ hl
    omega
theorem ear_sh {m : Nat} {ms : List Mt} (h : EarOk m ms) {p0 m0 : Int} (hp : 0 ≤ p0 ∧ p0.toNat < m) (h0 : 0 ≤ m0 ∧ m0 < 10 ^ 200) : shOk (.tup ((earF (stepsF 0 ms) m p0 m0).map oiD)) = true ∧ pl 60 (.tup ((earF (stepsF 0 ms) m p0 m0).map oiD)) = true ∧ wt (.tup ((earF (stepsF 0 ms) m p0 m0).map oiD)) ≤ 16777216 := by
  refine oi_sh (by rw [earF_len]; exact h.m2) fun v hv => ?_
  obtain ⟨i, hi⟩ := List.getElem?_of_mem hv
  have hR := earF_right (S := stepsF 0 ms) (m0 := m0) hp (stepsF_in h.ok)
  exact rch_bd h0 (steps_bd (B := 10 ^ 200) fun x hx => by
    obtain ⟨_, _, _, _, _, h6, h7⟩ := h.ok x hx
    exact ⟨h6, h7, h.bd x hx⟩) (hR.snd _ _ (tf_get hi))
theorem ear4 (H : HC T n) (G : HE T) {m : Nat} {ms : List Mt} (h : EarOk m ms) {p0 m0 : Int} (hp : 0 ≤ p0 ∧ p0.toNat < m) (h0 : 0 ≤ m0 ∧ m0 < 10 ^ 200) (k : Nat) :
    ∃ (d : D) (z : Str), (∀ s, callF T n (k + 4) "earliest" [netD m ms, .int p0, .int m0] s = some (d, s)) ∧ (∀ s, callF T n (k + 4) "_law_due" [netD m ms, .int p0, .int m0] s = some (d, s)) ∧ (∀ s, biApp s .repr [.val d] = some (.val (.str z))) ∧ ∀ s, pyEq s (.val (.str z)) (.val (.str z)) = some true := by
  obtain ⟨s1, s2, s3⟩ := ear_sh h hp h0
  have hl := h.len
  refine ⟨.tup ((earF (stepsF 0 ms) m p0 m0).map oiD), _, fun s => earliest_ok G.ear G.sof G.earl h.m2 (by omega) hp h.ok, fun s => dueC H.steps H.low H.due h.m2 (by omega) H.n0 hp h.ok, fun s => repr_sh s1 s2 s3, fun s => eq_sh s1⟩
theorem NetOk.ear {B : Int} {m : Nat} {ms : List Mt} (h : NetOk B m ms) (hB : B < 10 ^ 200) : EarOk m ms := by
  have := h.m1; have := h.m2; have := h.len
  exact ⟨h.ok, by omega, by omega, by omega, fun x hx => by have := h.bd x hx; omega⟩
theorem pl_net {m : Int} {ms : List Mt} : pl 60 (netD m ms) = true ∧ nb (netD m ms) = true := by
  have h1 : ∀ (j : Nat), plL (j + 1) (ms.map mtD) = true := fun j => by
    rw [plL_all]
    intro x hx
    obtain ⟨c, _, rfl⟩ := List.mem_map.mp hx
    have hw : ∀ (j : Nat) (b : Bool), pl j (wdD b) = true := fun j b => by
      have hs : ∀ b : Bool, stOk (if b then "both" else "to") = true := by decide +kernel
      cases j <;> exact hs b
    have hi : ∀ (j : Nat) (i : Int), pl j (.int i) = true := fun j i => by cases j <;> rfl
    simp [mtD, pl, plL, hw, hi]
  refine ⟨?_, ?_⟩
  · have := h1 57
    simp [netD, pl, plL, this]
  · simp [netD, nb, nbL, nbL_mt]
theorem net_eq {m : Int} {ms : List Mt} : pyEq st (.val (netD m ms)) (.val (netD m ms)) = some true := by
  rw [pyEq_val pl_net.1 pl_net.1 pl_net.2 pl_net.2]; simp
/-- a net's text, read -/
theorem reread (H : HR T) {m : Nat} {ms : List Mt} (h : EarOk m ms) (k : Nat) : ∃ z : Str, (∀ s, callF T n (k + 5) "_law_text" [netD m ms] s = some (.str z, s)) ∧ ∀ s, callF T n (k + 5) "read_net" [.str z] s = some (netD m ms, s) := by
  have hm := h.m2
  have hl := h.len
  have e : (10 : Nat) ^ 200 ≤ 10 ^ 300 := Nat.pow_le_pow_right (by decide) (by decide)
  have e1 : (1000 : Nat) < 10 ^ 300 := Nat.lt_of_lt_of_le (show 1000 < 10 ^ 4 by decide) (Nat.pow_le_pow_right (by decide) (by decide))
  have tx : ∀ x ∈ ms, x.tx := fun x hx => by
    obtain ⟨h1, h2, h3, h4, h5, h6, h7⟩ := h.ok x hx
    have := h.bd x hx
    exact ⟨⟨h1, by omega⟩, ⟨h3, by omega⟩, ⟨h6, by omega⟩, ⟨by omega, by omega⟩⟩
  exact ⟨netS m ms, fun s => ltextC H.text (by omega) (by omega) tx, fun s => read_net_ok H.isn H.rnum H.rmee H.whole H.place H.meet H.net H.rnet h.m1 (by omega) (by omega) tx h.ok⟩
theorem ext_ref {xs zs : List D} {j : Nat} (h : st[j]? = some (.lst xs)) (hl : xs.length + zs.length ≤ 16777216) : mtApp st .extend (.val (.ref j)) [.tmp zs] = some (.val .non, st.set j (.lst (xs ++ zs))) := by
  have : szOk (xs.length + zs.length) = true := decide_eq_true hl
  simp only [mtApp, mtExtend, h, mutOf, this, if_true]
theorem rev_ref {xs : List D} {j : Nat} (h : st[j]? = some (.lst xs)) : revApp st (.val (.ref j)) = some (.tmp xs.reverse) := by
  simp only [revApp, listOf_ref h, Option.map_some]
theorem add_ref {xs ys : List D} {j : Nat} (h : st[j]? = some (.lst xs)) (hl : xs.length + ys.length ≤ 16777216) : binApp st .add (.val (.ref j)) (.tmp ys) = some (.tmp (xs ++ ys)) := by
  have : szOk (xs.length + ys.length) = true := decide_eq_true hl
  rw [binApp_add]
  simp only [addApp, addL, listOf_ref h]
  simp only [listOf]
  rw [if_pos this]
theorem add_rol {xs ys : List D} (hl : xs.length + ys.length ≤ 16777216) : binApp st .add (.val (.rol xs)) (.tmp ys) = some (.tmp (xs ++ ys)) := by
  have : szOk (xs.length + ys.length) = true := decide_eq_true hl
  rw [binApp_add]
  simp only [addApp, addL, listOf]
  rw [if_pos this]
theorem kdw_ref {xs : List D} {j : Nat} (h : st[j]? = some (.lst xs)) : kdOf st (.val (.ref j)) = .lst := by simp only [kdOf, h]
end
/-- «c and not f(..)»: what follows, either way -/
theorem join2 {c : Prop} [Decidable c] {f : Option (D × Sto)} {P X : Sto → Prop} {s : Sto} (h : c → ok2 f fun d s2 => d = .bl true ∧ P s2) (h2 : ¬c → P s) :
    if c then ok2 f fun d s2 => okO (truth s2 (.val d)) fun b => if b = true then P s2 else X s2 else if c then X s else P s := by
  by_cases hc : c
  · rw [if_pos hc]
    have := h hc
    rcases f with _ | ⟨d, s2⟩
    · exact this.elim
    · obtain ⟨rfl, hp⟩ := this
      simpa using hp
  · rw [if_neg hc, if_neg hc]
    exact h2 hc
end Mw

set_option Elab.async false
set_option linter.all false
set_option autoImplicit false
set_option maxRecDepth 100000
/-! PyN5: floors. -/
namespace Mw
open PySem
def care_marks : CSs := (.cons (.ite (.or (.not (.isi (.var 1) .tuple)) (.cmp .ne (.bi .len (.cons (.var 1) .nil)) (.var 0))) (.cons (.ret (.cst (.bl false))) .nil) .nil) (.cons (.ret (.bi .all (.cons (.comp (.nm 2) (.ex (.var 1)) .nil (.or (.cmp .isN (.var 2) (.cst .non)) (.call "is_whole" (.cons (.var 2) .nil))) [2]) .nil))) .nil))
def fare_marks : Fd := ⟨2, 3, care_marks⟩
def cis_at_most : CSs := (.cons (.ret (.and (.cmp .notN (.var 0) (.cst .non)) (.cmp .le (.var 0) (.var 1)))) .nil)
def fis_at_most : Fd := ⟨2, 2, cis_at_most⟩
def cfloor_by : CSs := (.cons (.ite (.or (.not (.call "are_marks" (.cons (.var 1) (.cons (.var 4) .nil)))) (.not (.call "is_at_most" (.cons (.idx (.var 4) (.var 2)) (.cons (.var 3) .nil))))) (.cons (.ret (.cst (.bl false))) .nil) .nil) (.cons (.for (.tp (.cons (.nm 5) (.cons (.nm 6) (.cons (.nm 7) (.cons (.nm 8) (.cons (.nm 9) .nil)))))) (.ex (.var 0)) (.cons (.ite (.and (.call "is_at_most" (.cons (.idx (.var 4) (.var 6)) (.cons (.var 8) .nil))) (.not (.call "is_at_most" (.cons (.idx (.var 4) (.var 7)) (.cons (.var 9) .nil))))) (.cons (.ret (.cst (.bl false))) .nil) .nil) .nil)) (.cons (.ret (.cst (.bl true))) .nil)))
def ffloor_by : Fd := ⟨5, 10, cfloor_by⟩
def cfloor_holds : CSs := (.cons (.ret (.call "floor_by" (.cons (.call "steps_of" (.cons (.var 0) .nil)) (.cons (.idx (.var 0) (.cst (.int 0))) (.cons (.var 1) (.cons (.var 2) (.cons (.var 3) .nil))))))) .nil)
def ffloor_holds : Fd := ⟨4, 4, cfloor_holds⟩
def cC_law_floor : CSs := (.cons (.ite (.or (.not (.isi (.var 3) .tuple)) (.cmp .ne (.bi .len (.cons (.var 3) .nil)) (.idx (.var 0) (.cst (.int 0))))) (.cons (.ret (.cst (.bl false))) .nil) .nil) (.cons (.for (.nm 4) (.ex (.var 3)) (.cons (.ite (.and (.cmp .notN (.var 4) (.cst .non)) (.or (.isi (.var 4) .bool) (.not (.isi (.var 4) .int)))) (.cons (.ret (.cst (.bl false))) .nil) .nil) .nil)) (.cons (.ite (.or (.cmp .isN (.idx (.var 3) (.var 1)) (.cst .non)) (.cmp .gt (.idx (.var 3) (.var 1)) (.var 2))) (.cons (.ret (.cst (.bl false))) .nil) .nil) (.cons (.for (.tp (.cons (.nm 5) (.cons (.nm 4) (.cons (.nm 6) (.cons (.nm 7) (.cons (.nm 8) .nil)))))) (.ex (.call "_law_steps" (.cons (.var 0) .nil))) (.cons (.asg (.nm 9) (.and (.cmp .notN (.idx (.var 3) (.var 4)) (.cst .non)) (.cmp .le (.idx (.var 3) (.var 4)) (.var 7)))) (.cons (.ite (.and (.var 9) (.or (.cmp .isN (.idx (.var 3) (.var 6)) (.cst .non)) (.cmp .gt (.idx (.var 3) (.var 6)) (.var 8)))) (.cons (.ret (.cst (.bl false))) .nil) .nil) .nil))) (.cons (.ret (.cst (.bl true))) .nil)))))
def fC_law_floor : Fd := ⟨4, 10, cC_law_floor⟩
def cC_law_lowered : CSs := (.cons (.asg (.nm 1) (.bi .list (.cons (.var 1) .nil))) (.cons (.for (.nm 2) (.rng (.cons (.bin .add (.cst (.int 1)) (.call "_law_draw" (.cons (.var 0) (.cons (.cst (.int 3)) .nil)))) .nil)) (.cons (.asg (.nm 3) (.call "_law_draw" (.cons (.var 0) (.cons (.bi .len (.cons (.var 1) .nil)) .nil)))) (.cons (.asg (.nm 4) (.idx (.lst (.cons (.idx (.var 1) (.var 3)) (.cons (.cst (.int 0)) .nil))) (.bi .int (.cons (.cmp .isN (.idx (.var 1) (.var 3)) (.cst .non)) .nil)))) (.cons (.asg (.nm 5) (.lst (.cons (.bin .sub (.var 4) (.cst (.int 1))) (.cons (.bin .sub (.bin .sub (.var 4) (.cst (.int 1))) (.call "_law_far" (.cons (.var 0) .nil))) (.cons (.cst .non) (.cons (.var 4) (.cons (.bin .add (.var 4) (.cst (.int 1))) (.cons (.call "_law_draw" (.cons (.var 0) (.cons (.cst (.int 40)) .nil))) (.cons (.bin .pow (.cst (.int 10)) (.cst (.int 39))) .nil))))))))) (.cons (.put (.var 1) (.var 3) (.idx (.var 5) (.call "_law_draw" (.cons (.var 0) (.cons (.cst (.int 7)) .nil))))) .nil))))) (.cons (.ret (.bi .tuple (.cons (.var 1) .nil))) .nil)))
def fC_law_lowered : Fd := ⟨2, 6, cC_law_lowered⟩
def cC_law_hand_floor : CSs := (.cons (.asg (.nm 4) (.call "_law_draw" (.cons (.var 0) (.cons (.cst (.int 8)) .nil)))) (.cons (.asg (.nm 5) (.call "_law_due" (.cons (.var 1) (.cons (.var 2) (.cons (.var 3) .nil))))) (.cons (.ite (.cmp .eq (.var 4) (.cst (.int 0))) (.cons (.ret (.var 5)) .nil) .nil) (.cons (.ite (.cmp .eq (.var 4) (.cst (.int 1))) (.cons (.ret (.call "_law_due" (.cons (.var 1) (.cons (.var 2) (.cons (.bi .max (.cons (.cst (.int 0)) (.cons (.bin .sub (.var 3) (.call "_law_draw" (.cons (.var 0) (.cons (.cst (.int 4)) .nil)))) .nil))) .nil))))) .nil) .nil) (.cons (.ite (.cmp .eq (.var 4) (.cst (.int 2))) (.cons (.ret (.call "_law_due" (.cons (.var 1) (.cons (.call "_law_draw" (.cons (.var 0) (.cons (.idx (.var 1) (.cst (.int 0))) .nil))) (.cons (.var 3) .nil))))) .nil) .nil) (.cons (.ite (.cmp .eq (.var 4) (.cst (.int 3))) (.cons (.asg (.nm 6) (.bin .add (.cst (.int 1)) (.call "_law_draw" (.cons (.var 0) (.cons (.cst (.int 5)) .nil))))) (.cons (.ret (.bi .tuple (.cons (.comp (.nm 7) (.ex (.var 5)) .nil (.ite (.cmp .isN (.var 7) (.cst .non)) (.bin .sub (.cst (.int 0)) (.var 6)) (.bin .sub (.var 7) (.var 6))) [7]) .nil))) .nil)) .nil) (.cons (.ite (.cmp .eq (.var 4) (.cst (.int 4))) (.cons (.ret (.bi .tuple (.cons (.bin .mul (.lst (.cons (.bin .sub (.cst (.int 0)) (.call "_law_far" (.cons (.var 0) .nil))) .nil)) (.idx (.var 1) (.cst (.int 0)))) .nil))) .nil) .nil) (.cons (.ite (.cmp .eq (.var 4) (.cst (.int 5))) (.cons (.ret (.bi .tuple (.cons (.comp (.nm 7) (.rng (.cons (.idx (.var 1) (.cst (.int 0))) .nil)) .nil (.ite (.cmp .eq (.var 7) (.var 2)) (.var 3) (.cst .non)) [7]) .nil))) .nil) .nil) (.cons (.ret (.call "_law_lowered" (.cons (.var 0) (.cons (.var 5) .nil)))) .nil)))))))))
def fC_law_hand_floor : Fd := ⟨4, 8, cC_law_hand_floor⟩
def cC_law_true : CSs := (.cons (.for (.tp (.cons (.nm 2) (.cons (.nm 3) .nil))) (.zp (.cons (.var 0) (.cons (.var 1) .nil))) (.cons (.ite (.and (.cmp .notN (.var 2) (.cst .non)) (.or (.cmp .isN (.var 3) (.cst .non)) (.cmp .lt (.var 2) (.var 3)))) (.cons (.ret (.cst (.bl false))) .nil) .nil) .nil)) (.cons (.ret (.cst (.bl true))) .nil))
def fC_law_true : Fd := ⟨2, 4, cC_law_true⟩
def cC_law_read : CSs := (.cons (.asg (.nm 2) (.bin .add (.bin .pow (.cst (.int 10)) (.cst (.int 38))) (.call "_law_far" (.cons (.var 0) .nil)))) (.cons (.asg (.nm 3) (.comp (.tp (.cons (.nm 4) (.cons (.nm 5) (.cons (.nm 6) (.cons (.nm 7) (.cons (.nm 8) .nil)))))) (.ex (.idx (.var 1) (.cst (.int 1)))) .nil (.tup (.cons (.var 4) (.cons (.var 5) (.cons (.var 6) (.cons (.bin .add (.var 7) (.var 2)) (.cons (.var 8) .nil)))))) [4, 5, 6, 7, 8])) (.cons (.ret (.call "read_net" (.cons (.call "_law_text" (.cons (.tup (.cons (.bin .add (.idx (.var 1) (.cst (.int 0))) (.cst (.int 2))) (.cons (.bi .tuple (.cons (.var 3) .nil)) .nil))) .nil)) .nil))) .nil)))
def fC_law_read : Fd := ⟨2, 9, cC_law_read⟩
@[simp] theorem isNon_non : isNon (.val .non) = true := id rfl
@[simp] theorem isNon_i {i : Int} : isNon (.val (.int i)) = false := id rfl
@[simp] theorem isNon_b {i : Bool} : isNon (.val (.bl i)) = false := id rfl
@[simp] theorem isNon_s {i : Str} : isNon (.val (.str i)) = false := id rfl
@[simp] theorem isNon_t {i : List D} : isNon (.val (.tup i)) = false := id rfl
theorem mul_rep {st : Sto} {d : D} {m : Nat} (hm : m ≤ 1000) : binApp st .mul (.tmp [d]) (.val (.int m)) = some (.tmp (List.replicate m d)) := by
  have e : ∀ m : Nat, repD [d] (m : Int) = List.replicate m d := by
    intro m
    unfold repD
    induction m with
    | zero => rfl
    | succ m ih =>
      simp only [Int.toNat_natCast] at ih ⊢
      rw [List.replicate_succ, List.flatten_cons, ih]; rfl
  rw [binApp_mul]
  unfold mulApp
  simp only [mutOf]
  have h1 : decide (-(2 : Int) ^ 62 ≤ (m : Int) ∧ (m : Int) < 2 ^ 62) = true := decide_eq_true (by omega)
  have h2 : szOk (([d] : List D).length * (m : Int).toNat) = true := decide_eq_true (by simp; omega)
  rw [h1, h2, e]
  rfl
/-- a mark: a number or none -/
def mkD : D → Option (Option Int)
  | .non => some none
  | .int i => some (some i)
  | _ => none
def marksOf (xs : List D) : Option (List (Option Int)) := mapO mkD xs
def atMost (o : Option Int) (m : Int) : Bool := match o with
  | some v => decide (v ≤ m)
  | none => false
def floorB (S : List Sp) (p0 m0 : Int) (l : List (Option Int)) : Bool := atMost (tf l p0) m0 && S.all fun s => !(atMost (tf l s.a) s.t) || atMost (tf l s.b) s.u
def floorD (S : List Sp) (m : Nat) (p0 m0 : Int) (x : D) : Bool := match x with
  | .tup xs => if xs.length = m then match marksOf xs with
      | some l => floorB S p0 m0 l
      | none => false
    else false
  | _ => false
/-- a value whose kind can be asked -/
def tyOk (st : Sto) (d : D) : Bool := match d with
  | .ref n => match st[n]? with
    | some (.lst _) => true
    | some (.dic _ _) => true
    | _ => false
  | _ => true
def thOk (st : Sto) (d : D) : Bool := tyOk st d && match d with
  | .tup xs => xs.all (tyOk st)
  | _ => true
theorem marks_map (l : List (Option Int)) : marksOf (l.map oiD) = some l := by
  unfold marksOf
  induction l with
  | nil => rfl
  | cons x xs ih => cases x <;> simp [mapO, mkD, oiD, ih]
theorem marks_eq : ∀ {xs : List D} {l : List (Option Int)}, marksOf xs = some l → xs = l.map oiD
  | [], l, h => by cases h; rfl
  | x :: xs, l, h => by
    unfold marksOf at h
    simp only [mapO] at h
    split at h
    · rename_i y hy
      split at h
      · rename_i ys hys
        cases h
        rw [List.map_cons, marks_eq hys]
        cases x <;> simp [mkD] at hy <;> subst hy <;> rfl
      · cases h
    · cases h
theorem marks_some {xs : List D} : (marksOf xs).isSome = xs.all fun d => (mkD d).isSome := by
  unfold marksOf
  induction xs with
  | nil => rfl
  | cons x xs ih =>
    simp only [mapO, List.all_cons]
    cases hx : mkD x with
    | none => simp
    | some y =>
      rw [← ih]
      cases mapO mkD xs <;> simp
theorem floorD_oi {S : List Sp} {m : Nat} {p0 m0 : Int} {l : List (Option Int)} (h : l.length = m) : floorD S m p0 m0 (.tup (l.map oiD)) = floorB S p0 m0 l := by
  simp [floorD, h, marks_map]
theorem isNon_iff2 {d : D} : isNon (.val d) = decide (d = .non) := by cases d <;> simp [isNon]
section
variable {T : Tab} {n k : Nat} {st : Sto}
theorem isTy_ok {d : D} (h : tyOk st d = true) (t : Ty) : ∃ b, isTy st t (.val d) = some b := by
  cases d with
  | ref n =>
    simp only [tyOk] at h
    rcases e : st[n]? with _ | (xs | kvs | kvt | ⟨c, fs⟩)
    · rw [e] at h; cases h
    · simp only [isTy, e]; exact ⟨_, rfl⟩
    · simp only [isTy, e]; exact ⟨_, rfl⟩
    · rw [e] at h; cases h
    · rw [e] at h; cases h
  | _ => exact ⟨_, rfl⟩
theorem isTyD_int {d : D} (h : tyOk st d = true) : isTy st .int (.val d) = some (match d with | .int _ => true | .bl _ => true | _ => false) := by
  cases d with
  | ref n =>
    simp only [tyOk] at h
    rcases e : st[n]? with _ | (xs | kvs | kvt | ⟨c, fs⟩)
    · rw [e] at h; cases h
    · simp only [isTy, e]; rfl
    · simp only [isTy, e]; rfl
    · rw [e] at h; cases h
    · rw [e] at h; cases h
  | _ => rfl
theorem isTyD_bool {d : D} (h : tyOk st d = true) : isTy st .bool (.val d) = some (match d with | .bl _ => true | _ => false) := by
  cases d with
  | ref n =>
    simp only [tyOk] at h
    rcases e : st[n]? with _ | (xs | kvs | kvt | ⟨c, fs⟩)
    · rw [e] at h; cases h
    · simp only [isTy, e]; rfl
    · simp only [isTy, e]; rfl
    · rw [e] at h; cases h
    · rw [e] at h; cases h
  | _ => rfl
theorem isTyD_tuple {d : D} (h : tyOk st d = true) : isTy st .tuple (.val d) = some (match d with | .tup _ => true | _ => false) := by
  cases d with
  | ref n =>
    simp only [tyOk] at h
    rcases e : st[n]? with _ | (xs | kvs | kvt | ⟨c, fs⟩)
    · rw [e] at h; cases h
    · simp only [isTy, e]; rfl
    · simp only [isTy, e]; rfl
    · rw [e] at h; cases h
    · rw [e] at h; cases h
  | _ => rfl
def whole (d : D) : Bool := match d with
  | .int _ => true
  | _ => false
theorem compL_d {ws : List (Nat × O)} {t : D → Option Env} {c : Env → Sto → Option (Bool × Sto)} {e : Env → Sto → Option (RV × Sto)} {Q : List D → Sto → Prop} (zs : List D) (f : D → D) (hc : chk ws st = true)
    (h : ∀ z ∈ zs, ∃ ρ1, t z = some ρ1 ∧ c ρ1 st = some (true, st) ∧ e ρ1 st = some (.val (f z), st)) (q : Q (zs.map f) st) : ok2 (compL ws t c e zs st) Q := by
  have := compL_ok zs id f hc h q
  rwa [List.map_id] at this
theorem is_whole_any (hT : Has T "is_whole" fis_whole) {d : D} (h : tyOk st d = true) : callF T n (k + 1) "is_whole" [d] st = some (.bl (whole d), st) := by
  refine callF_eq (callF_w hT rfl ?_)
  simp [fis_whole, cis_whole, wB_cons, isTyD_int h, isTyD_bool h]
  cases d <;> simp [whole]
theorem are_marks_ok (h1 : Has T "is_whole" fis_whole) (hT : Has T "are_marks" fare_marks) {m : Int} {x : D} (h : thOk st x = true) : callF T n (k + 2) "are_marks" [.int m, x] st = some (.bl (match x with | .tup xs => decide ((xs.length : Int) = m) && (marksOf xs).isSome | _ => false), st) := by
  refine callF_eq (callF_w hT rfl ?_)
  simp only [thOk, Bool.and_eq_true] at h
  obtain ⟨g1, g2⟩ := h
  simp [fare_marks, care_marks, wB_cons, isTyD_tuple g1]
  cases x with
  | tup xs =>
    simp
    by_cases hl : (xs.length : Int) = m
    · simp [hl]
      refine compL_d xs (fun d => .bl (mkD d).isSome) rfl (fun d hd => ⟨_, rfl, rfl, ev_eq ?_⟩) ?_
      · have := is_whole_any (n := n) (k := k) h1 (List.all_eq_true.mp g2 d hd)
        simp [wipeD, isNon_iff2]
        by_cases hd0 : d = .non
        · subst hd0; simp [mkD]
        · simp [hd0, this]
          cases d <;> simp_all [mkD, whole]
      · have := all_bls (st := st) (xs.map fun d => (mkD d).isSome)
        rw [List.map_map] at this
        have e1 : (xs.map fun d => D.bl (mkD d).isSome) = xs.map (D.bl ∘ fun d => (mkD d).isSome) := rfl
        rw [e1, this]
        simp [marks_some, List.all_map]
    · simp [hl]
  | _ => simp
theorem is_at_most_ok (hT : Has T "is_at_most" fis_at_most) {o : Option Int} {m : Int} : callF T n (k + 1) "is_at_most" [oiD o, .int m] st = some (.bl (atMost o m), st) := by
  refine callF_eq (callF_w hT rfl ?_)
  simp [fis_at_most, cis_at_most, wB_cons]
  cases o <;> simp [atMost, oiD]
theorem idx_oi {l : List (Option Int)} {p : Int} (h0 : 0 ≤ p) (h1 : p.toNat < l.length) : L2.atI (l.map oiD) p = some (oiD (tf l p)) := by
  refine atI_i h0 ?_
  rw [List.getElem?_map]
  unfold tf
  rw [if_pos h0, List.getElem?_eq_getElem h1]; rfl
structure HFl (T : Tab) : Prop where
  whole : Has T "is_whole" fis_whole
  marks : Has T "are_marks" fare_marks
  most : Has T "is_at_most" fis_at_most
  fby : Has T "floor_by" ffloor_by
def flI (a b c d e : D) (_ : List Sp) (ρ : Env) (s0 s : Sto) : Prop := ∃ r5 r6 r7 r8 r9 : Option D, s = s0 ∧ ρ = [some a, some b, some c, some d, some e, r5, r6, r7, r8, r9]
theorem floor_by_ok (H : HFl T) {S : List Sp} {m : Nat} {p0 m0 : Int} (hp : 0 ≤ p0 ∧ p0.toNat < m) (hS : ∀ s ∈ S, SpIn m s) {x : D} (h : thOk st x = true) :
    callF T n (k + 3) "floor_by" [.tup (S.map spD), .int m, .int p0, .int m0, x] st = some (.bl (floorD S m p0 m0 x), st) := by
  refine callF_eq (callF_w H.fby rfl ?_)
  simp [ffloor_by, cfloor_by, wB_cons, are_marks_ok H.whole H.marks h]
  cases x with
  | tup xs =>
    simp
    by_cases hl : xs.length = m
    · simp [hl]
      cases hm : marksOf xs with
      | none => simp [floorD, hl, hm]
      | some l =>
        have e := marks_eq hm
        subst e
        have hl' : l.length = m := by simpa using hl
        simp [idx_oi hp.1 (by rw [hl']; exact hp.2), is_at_most_ok H.most]
        cases ha : atMost (tf l p0) m0 with
        | false => simp [floorD_oi hl', floorB, ha]
        | true =>
          simp
          refine for_map spD (fun zs ρ s => flI (.tup (S.map spD)) (.int m) (.int p0) (.int m0) (.tup (l.map oiD)) zs ρ st s ∧ (∀ s ∈ zs, s ∈ S) ∧ ∀ s ∈ S, s ∉ zs → (!(atMost (tf l s.a) s.t) || atMost (tf l s.b) s.u) = true) ?_ ?_ S _ _ ⟨⟨_, _, _, _, _, rfl, rfl⟩, fun s hs => hs, fun s hs hn => absurd hs hn⟩
          · rintro ρ s ⟨⟨r5, r6, r7, r8, r9, rfl, rfl⟩, _, hall⟩
            refine ⟨rfl, ?_⟩
            have : floorB S p0 m0 l = true := by
              simp only [floorB, ha, Bool.true_and, List.all_eq_true]
              exact fun s hs => hall s hs (by simp)
            simp [floorD_oi hl', this]
          · rintro z zs ρ s ⟨⟨r5, r6, r7, r8, r9, rfl, rfl⟩, hsub, hall⟩
            refine ⟨rfl, _, rfl, ?_⟩
            have hz := hsub z List.mem_cons_self
            obtain ⟨q1, q2, q3, q4, q5⟩ := hS z hz
            show wB _ _ _ _ _ _
            simp [wB_cons, spD, idx_oi q1 (by rw [hl']; exact q2), idx_oi q3 (by rw [hl']; exact q4), is_at_most_ok H.most]
            have cont : (!(atMost (tf l z.a) z.t) || atMost (tf l z.b) z.u) = true → ∀ s' ∈ S, s' ∉ zs → (!(atMost (tf l s'.a) s'.t) || atMost (tf l s'.b) s'.u) = true := fun hz2 s' hs' hn => by
              by_cases e : s' = z
              · rw [e]; exact hz2
              · exact hall s' hs' (by simp [e, hn])
            have bad : (!(atMost (tf l z.a) z.t) || atMost (tf l z.b) z.u) = false → floorB S p0 m0 l = false := fun hz2 => by
              simp only [floorB, ha, Bool.true_and, List.all_eq_false]
              exact ⟨z, hz, by simp [hz2]⟩
            cases h1 : atMost (tf l z.a) z.t with
            | false =>
              simp
              exact ⟨⟨_, _, _, _, _, rfl, rfl⟩, fun s hs => hsub s (List.mem_cons_of_mem _ hs), by simpa using cont (by simp [h1])⟩
            | true =>
              cases h2 : atMost (tf l z.b) z.u with
              | true =>
                simp
                exact ⟨⟨_, _, _, _, _, rfl, rfl⟩, fun s hs => hsub s (List.mem_cons_of_mem _ hs), by simpa using cont (by simp [h2])⟩
              | false =>
                have := bad (by simp [h1, h2])
                simp [floorD_oi hl', this]
    · have hl' : ¬ (xs.length : Int) = m := by omega
      simp [hl, hl', floorD]
  | _ => simp [floorD]
theorem floor_holds_ok (H : HFl T) (hs : Has T "steps_of" fsteps_of) (hT : Has T "floor_holds" ffloor_holds) {m : Nat} {ms : List Mt} (hl : ms.length ≤ 1000000) {p0 m0 : Int} (hp : 0 ≤ p0 ∧ p0.toNat < m) (hok : ∀ x ∈ ms, x.ok m) {x : D} (h : thOk st x = true) :
    callF T n (k + 4) "floor_holds" [netD m ms, .int p0, .int m0, x] st = some (.bl (floorD (stepsF 0 ms) m p0 m0 x), st) := by
  refine callF_eq (callF_w hT rfl ?_)
  have e1 := steps_ok (n := n) (k := k + 2) (st := st) hs (m := m) hl
  have e2 := floor_by_ok (n := n) (k := k) (st := st) H (S := stepsF 0 ms) (m0 := m0) hp (stepsF_in hok) h
  unfold netD at e1 ⊢
  simp [ffloor_holds, cfloor_holds, wB_cons, e1, e2]
def lfI (a b c d : D) (ρ : Env) (s0 s : Sto) : Prop := ∃ r4 r5 r6 r7 r8 r9 : Option D, s = s0 ∧ ρ = [some a, some b, some c, some d, r4, r5, r6, r7, r8, r9]
theorem lfloorC (h1 : Has T "_law_steps" fC_law_steps) (hT : Has T "_law_floor" fC_law_floor) {m : Nat} {ms : List Mt} (hl : ms.length ≤ 1000000) {p0 m0 : Int} (hp : 0 ≤ p0 ∧ p0.toNat < m) (hok : ∀ x ∈ ms, x.ok m) {x : D} (h : thOk st x = true) :
    callF T n (k + 2) "_law_floor" [netD m ms, .int p0, .int m0, x] st = some (.bl (floorD (stepsF 0 ms) m p0 m0 x), st) := by
  refine callF_eq (callF_w hT rfl ?_)
  have e1 := fun st : Sto => lstepsC (n := n) (k := k) (st := st) h1 (m := m) hl
  have hin : ∀ s ∈ stepsF 0 ms, SpIn m s := stepsF_in hok
  generalize stepsF 0 ms = S at hin e1 ⊢
  simp only [thOk, Bool.and_eq_true] at h
  obtain ⟨g1, g2⟩ := h
  unfold netD at e1 ⊢
  simp [fC_law_floor, cC_law_floor, wB_cons, isTyD_tuple g1]
  cases x with
  | tup xs =>
    simp
    by_cases hlen : xs.length = m
    rotate_left
    · have hl' : ¬ (xs.length : Int) = m := by omega
      simp [hlen, hl', floorD]
    simp [hlen]
    have hall := List.all_eq_true.mp g2
    have hbad : (∃ d ∈ xs, (mkD d).isSome = false) → floorD S m p0 m0 (.tup xs) = false := fun ⟨d, hd, hb⟩ => by
      have : (marksOf xs).isSome = false := by
        rw [marks_some, List.all_eq_false]
        exact ⟨d, hd, by simp [hb]⟩
      simp only [floorD, hlen, if_true]
      cases hq : marksOf xs with
      | none => rfl
      | some l => rw [hq] at this; cases this
    refine for_d (fun zs ρ s => lfI (.tup [.int m, .tup (ms.map mtD)]) (.int p0) (.int m0) (.tup xs) ρ st s ∧ (∀ d ∈ zs, d ∈ xs) ∧ ∀ d ∈ xs, d ∉ zs → (mkD d).isSome = true) ?_ ?_ xs _ _ ⟨⟨_, _, _, _, _, _, rfl, rfl⟩, fun d hd => hd, fun d hd hn => absurd hd hn⟩
    · rintro ρ s ⟨⟨r4, r5, r6, r7, r8, r9, rfl, rfl⟩, _, hgood⟩
      refine ⟨rfl, ?_⟩
      have hms : (marksOf xs).isSome = true := by
        rw [marks_some, List.all_eq_true]
        exact fun d hd => hgood d hd (by simp)
      obtain ⟨l, hm⟩ := Option.isSome_iff_exists.mp hms
      have e := marks_eq hm
      subst e
      have hl' : l.length = m := by simpa using hlen
      simp [wB_cons, idx_oi hp.1 (by rw [hl']; exact hp.2)]
      rw [floorD_oi hl']
      cases ha : tf l p0 with
      | none => simp [oiD, floorB, atMost, ha]
      | some v =>
        by_cases hv : v ≤ m0
        rotate_left
        · have hv' : m0 < v := by omega
          simp [oiD, floorB, atMost, ha, hv, hv']
        have hv' : ¬ m0 < v := by omega
        have hat : atMost (tf l p0) m0 = true := by simp [atMost, ha, hv]
        simp [oiD, hv', e1]
        rw [src_ref (xs := S.map spD) (by simp)]
        simp
        refine for_map spD (fun zs ρ s' => lfI (.tup [.int m, .tup (ms.map mtD)]) (.int p0) (.int m0) (.tup (l.map oiD)) ρ (s ++ [.lst (S.map spD)]) s' ∧ (∀ s ∈ zs, s ∈ S) ∧ ∀ s ∈ S, s ∉ zs → (!(atMost (tf l s.a) s.t) || atMost (tf l s.b) s.u) = true) ?_ ?_ S _ _ ⟨⟨_, _, _, _, _, _, rfl, rfl⟩, fun s hs => hs, fun s hs hn => absurd hs hn⟩
        · rintro ρ s' ⟨⟨r4, r5, r6, r7, r8, r9, rfl, rfl⟩, _, hall⟩
          refine ⟨chk_one (by simp), ?_⟩
          have : floorB S p0 m0 l = true := by
            simp only [floorB, hat, Bool.true_and, List.all_eq_true]
            exact fun s hs => hall s hs (by simp)
          simp [this, gc_app]
        · rintro z zs ρ s' ⟨⟨r4, r5, r6, r7, r8, r9, rfl, rfl⟩, hsub, hall⟩
          refine ⟨chk_one (by simp), _, rfl, ?_⟩
          have hz := hsub z List.mem_cons_self
          obtain ⟨q1, q2, q3, q4, q5⟩ := hin z hz
          have cont : (!(atMost (tf l z.a) z.t) || atMost (tf l z.b) z.u) = true → ∀ s' ∈ S, s' ∉ zs → (!(atMost (tf l s'.a) s'.t) || atMost (tf l s'.b) s'.u) = true := fun hz2 s' hs' hn => by
            by_cases e : s' = z
            · rw [e]; exact hz2
            · exact hall s' hs' (by simp [e, hn])
          have bad : (!(atMost (tf l z.a) z.t) || atMost (tf l z.b) z.u) = false → floorB S p0 m0 l = false := fun hz2 => by
            simp only [floorB, hat, Bool.true_and, List.all_eq_false]
            exact ⟨z, hz, by simp [hz2]⟩
          have ok : (!(atMost (tf l z.a) z.t) || atMost (tf l z.b) z.u) = true → ∀ r4 r5 r6 r7 r8 r9, lfI (.tup [.int m, .tup (ms.map mtD)]) (.int p0) (.int m0) (.tup (l.map oiD)) [some (.tup [.int m, .tup (ms.map mtD)]), some (.int p0), some (.int m0), some (.tup (l.map oiD)), r4, r5, r6, r7, r8, r9] (s ++ [.lst (S.map spD)]) (s ++ [.lst (S.map spD)]) ∧ (∀ s ∈ zs, s ∈ S) ∧ ∀ s ∈ S, s ∉ zs → (!(atMost (tf l s.a) s.t) || atMost (tf l s.b) s.u) = true :=
            fun h r4 r5 r6 r7 r8 r9 => ⟨⟨r4, r5, r6, r7, r8, r9, rfl, rfl⟩, fun s hs => hsub s (List.mem_cons_of_mem _ hs), cont h⟩
          show wB _ _ _ _ _ _
          simp only [wB_cons, spD, setT_nm] at *
          simp [idx_oi q1 (by rw [hl']; exact q2), idx_oi q3 (by rw [hl']; exact q4)]
          cases hta : tf l z.a with
          | none =>
            simp [oiD]
            simpa using ok (by simp [atMost, hta]) _ _ _ _ _ _
          | some va =>
            by_cases hva : va ≤ z.t
            rotate_left
            · simp [oiD, hva]
              simpa using ok (by simp [atMost, hta, hva]) _ _ _ _ _ _
            cases htb : tf l z.b with
            | none =>
              have := bad (by simp [atMost, hta, htb, hva])
              simp [wB_cons, oiD, hva, this, gc_app]
            | some vb =>
              by_cases hvb : vb ≤ z.u
              · have hvb' : ¬ z.u < vb := by omega
                simp [oiD, hva, hvb']
                simpa using ok (by simp [atMost, hta, htb, hva, hvb]) _ _ _ _ _ _
              · have hvb' : z.u < vb := by omega
                have := bad (by simp [atMost, hta, htb, hva, hvb])
                simp [wB_cons, oiD, hva, hvb', this, gc_app]
    · rintro d zs ρ s ⟨⟨r4, r5, r6, r7, r8, r9, rfl, rfl⟩, hsub, hgood⟩
      refine ⟨rfl, _, rfl, ?_⟩
      have hd := hsub d List.mem_cons_self
      have ht := hall d hd
      have ok : (mkD d).isSome = true → ∀ r4 r5 r6 r7 r8 r9, lfI (.tup [.int m, .tup (ms.map mtD)]) (.int p0) (.int m0) (.tup xs) [some (.tup [.int m, .tup (ms.map mtD)]), some (.int p0), some (.int m0), some (.tup xs), r4, r5, r6, r7, r8, r9] s s ∧ (∀ d ∈ zs, d ∈ xs) ∧ ∀ d ∈ xs, d ∉ zs → (mkD d).isSome = true :=
        fun h r4 r5 r6 r7 r8 r9 => ⟨⟨r4, r5, r6, r7, r8, r9, rfl, rfl⟩, fun s hs => hsub s (List.mem_cons_of_mem _ hs), fun d' hd' hn => by
          by_cases e : d' = d
          · rw [e]; exact h
          · exact hgood d' hd' (by simp [e, hn])⟩
      show wB _ _ _ _ _ _
      simp only [wB_cons] at *
      simp [isNon_iff2, isTyD_int ht, isTyD_bool ht]
      cases d with
      | non => simp; exact ok rfl _ _ _ _ _ _
      | int i => simp; exact ok rfl _ _ _ _ _ _
      | _ => simp [wB_cons, hbad ⟨_, hd, rfl⟩]
  | _ => simp [floorD]
end
end Mw

set_option Elab.async false
set_option linter.all false
set_option autoImplicit false
set_option maxRecDepth 100000
/-! PyN6: floors by a law's hand. -/
namespace Mw
open PySem
section
variable {T : Tab} {n k : Nat} {st g : Sto} {r N : Nat} {o o' q : O}
theorem list_tup {xs : List D} : biApp st .list [.val (.tup xs)] = some (.tmp xs) := rfl
def lowrI (st : Sto) (r N m cnt : Nat) (i : Nat) (ρ : Env) (s : Sto) : Prop := ∃ (l : List (Option Int)) (g : Sto) (o : O) (r2 r3 r4 r5 : Option D), l.length = m ∧ okd (N + 6 * (cnt - i)) o ∧ s = (st ++ (.lst (l.map oiD) :: g)).set r o ∧
  ρ = [some (.ref r), some (.ref st.length), r2, r3, r4, r5]
theorem atI_oi {ys : List (Option Int)} {i : Int} (h0 : 0 ≤ i) (h1 : i < ys.length) : ∃ y, L2.atI (ys.map oiD) i = some (oiD y) := by
  obtain ⟨y, _, e⟩ := atI_map (f := oiD) h0 h1
  exact ⟨y, e⟩
theorem loweredC (W : DrawOk T n) (hF : Has T "_law_far" fC_law_far) (hT : Has T "_law_lowered" fC_law_lowered) (hr : r < st.length) (h : okd (N + 19) o) {l : List (Option Int)} {m : Nat} (hl : l.length = m) (hm : 1 ≤ m ∧ m ≤ 1000) {Q : D → Sto → Prop}
    (q : ∀ (l' : List (Option Int)) o', l'.length = m → okd N o' → Q (.tup (l'.map oiD)) (st.set r o')) : ok2 (callF T n (k + 3) "_law_lowered" [.ref r, .tup (l.map oiD)] (st.set r o)) Q := by
  refine callF_w hT rfl ?_
  have p39 : powOk 10 39 = true := by decide
  simp [fC_law_lowered, cC_law_lowered, wB_cons, list_tup, pull hr]
  refine dr_w W (by simp; omega) (N := N + 18) h (by decide) (by decide) fun x1 o1 a1 b1 h1 => ?_
  obtain ⟨cnt, ec⟩ : ∃ cnt : Nat, 1 + x1 = (cnt : Int) := ⟨(1 + x1).toNat, by omega⟩
  simp [ec, rngN (show cnt < 2 ^ 62 by omega)]
  refine for_rng (lowrI st r N m cnt) ?_ ?_ _ _ ⟨l, [], o1, _, _, _, _, hl, h1.mono (by omega), rfl, rfl⟩
  · rintro ρ s ⟨l', g, o', r2, r3, r4, r5, hl', h', rfl, rfl⟩
    simp [tup_ref (getd0 (o := o') (g := .lst (l'.map oiD) :: g) hr)]
    rw [gc_da hr h' (by simp [lowL_oi])]
    exact q l' o' hl' (h'.mono (by omega))
  · rintro i ρ s hi ⟨l', g, o', r2, r3, r4, r5, hl', h', rfl, rfl⟩
    refine ⟨_, rfl, ?_⟩
    have hr2 : ∀ g : Sto, r < (st ++ g).length := fun g => by simp; omega
    have hg := fun o => getd0 (o := o) (g := .lst (l'.map oiD) :: g) hr
    show wB _ _ _ _ _ _
    rw [wB_cons]
    simp [len_ref (hg _)]
    refine dr_w W (hr2 _) (N := N + 6 * (cnt - (i + 1)) + 5) (h'.mono (by omega)) (by omega) (by omega) fun x2 o2 a2 b2 h2 => ?_
    obtain ⟨y, ey⟩ := atI_oi (ys := l') a2 (by omega)
    have hidx := fun (o : O) => (idx_ref (i := x2) (hg o)).trans (congrArg (Option.map RV.val) ey)
    rw [wB_cons]
    simp [hidx]
    obtain ⟨nb, enb⟩ : ∃ nb : Int, L2.atI [oiD y, D.int 0] (if y = none then 1 else 0) = some (.int nb) := by
      cases y with
      | none => exact ⟨0, by simp [oiD]⟩
      | some v => exact ⟨v, by simp [oiD]⟩
    simp [enb]
    rw [wB_cons]
    simp
    refine farC W hF (hr2 _) (N := N + 6 * (cnt - (i + 1)) + 2) h2 fun x3 o3 a3 b3 h3 => ?_
    simp
    refine dr_w W (hr2 _) (N := N + 6 * (cnt - (i + 1)) + 1) h3 (by decide) (by decide) fun x4 o4 a4 b4 h4 => ?_
    simp [p39, pull (hr2 _)]
    rw [wB_cons]
    simp
    refine dr_w W (hr2 _) (N := N + 6 * (cnt - (i + 1))) h4 (by decide) (by decide) fun x5 o5 a5 b5 h5 => ?_
    have hg5 : ((st ++ O.lst (l'.map oiD) :: (g ++ [O.lst [D.int (nb - 1), D.int (nb - 1 - x3), D.non, D.int nb, D.int (nb + 1), D.int x4, D.int 1000000000000000000000000000000000000000]])).set r o5)[st.length + (g.length + 1)]? = some (.lst [D.int (nb - 1), D.int (nb - 1 - x3), D.non, D.int nb, D.int (nb + 1), D.int x4, D.int 1000000000000000000000000000000000000000]) := by
      rw [getd hr]; simp
    obtain ⟨w, ew⟩ := atI_oi (ys := [some (nb - 1), some (nb - 1 - x3), none, some nb, some (nb + 1), some x4, some 1000000000000000000000000000000000000000]) a5 (by simp; omega)
    have ew' : L2.atI [D.int (nb - 1), D.int (nb - 1 - x3), D.non, D.int nb, D.int (nb + 1), D.int x4, D.int 1000000000000000000000000000000000000000] x5 = some (oiD w) := ew
    simp [idx_ref hg5, ew']
    have hp := put_ref' (st := (st ++ O.lst (l'.map oiD) :: (g ++ [O.lst [D.int (nb - 1), D.int (nb - 1 - x3), D.non, D.int nb, D.int (nb + 1), D.int x4, D.int 1000000000000000000000000000000000000000]])).set r o5) (v := oiD w) (getd0 hr) a2 (by simp; omega)
    rw [hp, setd0 hr]
    simp [wB, exs]
    exact ⟨l'.set x2.toNat w, _, o5, _, _, _, _, by simpa using hl', h5, by simp [List.map_set]; rfl, rfl⟩
theorem map_sub {l : List (Option Int)} {v : Int} : (l.map fun c => match c with | none => D.int (0 - v) | some x => D.int (x - v)) = (l.map fun c => match c with | none => some (0 - v) | some x => some (x - v)).map oiD := by
  rw [List.map_map]
  refine List.map_congr_left fun c _ => ?_
  cases c <;> rfl
theorem handFloorC (H : HC T n) (hL : Has T "_law_lowered" fC_law_lowered) (hT : Has T "_law_hand_floor" fC_law_hand_floor) (hr : r < st.length) (h : okd (N + 30) o) {m : Nat} {ms : List Mt} (hE : EarOk m ms) {p0 m0 : Int} (hp : 0 ≤ p0 ∧ p0.toNat < m) {Q : D → Sto → Prop}
    (q : ∀ (l' : List (Option Int)) o', l'.length = m → okd N o' → Q (.tup (l'.map oiD)) (st.set r o')) : ok2 (callF T n (k + 4) "_law_hand_floor" [.ref r, netD m ms, .int p0, .int m0] (st.set r o)) Q := by
  refine callF_w hT rfl ?_
  have hl := hE.len
  have hm := hE.m2
  have due := fun (p0 m0 : Int) (hp : 0 ≤ p0 ∧ p0.toNat < m) (s : Sto) => dueC (n := n) (k := k + 1) (st := s) (m0 := m0) H.steps H.low H.due hE.m2 (by omega : ms.length ≤ 1000000) H.n0 hp hE.ok
  have fin : ∀ (l' : List (Option Int)) o', l'.length = m → okd N o' → Q (gc (st.set r o) (.tup (l'.map oiD)) (st.set r o')).1 (gc (st.set r o) (.tup (l'.map oiD)) (st.set r o')).2 := fun l' o' h1 h2 => by
    rw [gc_d hr h2 (by simp [lowL_oi])]; exact q l' o' h1 h2
  have hix0 : ∀ s : Sto, idxApp s (.val (netD (m : Int) ms)) (.val (.int 0)) = some (.val (.int (m : Int))) := fun s => rfl
  simp [fC_law_hand_floor, cC_law_hand_floor, wB_cons]
  refine dr_w H.draw hr (N := N + 29) h (by decide) (by decide) fun w o1 a1 b1 h1 => ?_
  simp [due p0 m0 hp]
  by_cases w0 : w = 0
  · simp [w0]; exact fin _ _ earF_len (h1.mono (by omega))
  simp [w0]
  by_cases w1 : w = 1
  · simp [w1]
    refine dr_w H.draw hr (N := N + 28) h1 (by decide) (by decide) fun x2 o2 a2 b2 h2 => ?_
    simp [due _ _ hp]
    exact fin _ _ earF_len (h2.mono (by omega))
  simp [w1]
  by_cases w2 : w = 2
  · simp [w2, hix0]
    refine dr_w H.draw hr (N := N + 28) h1 (by have := hE.m1; omega) (by omega) fun x2 o2 a2 b2 h2 => ?_
    simp [due _ _ (show 0 ≤ x2 ∧ x2.toNat < m by omega)]
    exact fin _ _ earF_len (h2.mono (by omega))
  simp [w2]
  by_cases w3 : w = 3
  · simp [w3]
    refine dr_w H.draw hr (N := N + 28) h1 (by decide) (by decide) fun x2 o2 a2 b2 h2 => ?_
    simp
    refine compL_ok (earF (stepsF 0 ms) m p0 m0) oiD (fun c => match c with | none => D.int (0 - (1 + x2)) | some x => D.int (x - (1 + x2))) rfl (fun x hx => ⟨_, rfl, rfl, ev_eq ?_⟩) ?_
    · cases x <;> simp [wipeD, oiD]
    · rw [map_sub]
      exact fin _ o2 (by simp [earF_len]) (h2.mono (by omega))
  simp [w3]
  by_cases w4 : w = 4
  · simp [w4, hix0]
    refine farC H.draw H.far hr (N := N + 26) h1 fun x2 o2 a2 b2 h2 => ?_
    have hb := fun s : Sto => mul_rep (st := s) (d := .int (-x2)) (show m ≤ 1000 by omega)
    simp [hb]
    have := fin (List.replicate m (some (-x2))) o2 (by simp) (h2.mono (by omega))
    rw [List.map_replicate] at this
    exact this
  simp [w4]
  by_cases w5 : w = 5
  · have er : rangeD 0 m = (List.range m).map fun (i : Nat) => D.int (i : Int) := by simp [rangeD]
    simp [w5, hix0, rngN (show m < 2 ^ 62 by omega), er]
    refine ⟨by simp [szOk]; omega, ?_⟩
    refine compL_ok (List.range m) _ (fun v => oiD (if (v : Int) = p0 then some m0 else none)) rfl (fun x hx => ⟨_, rfl, rfl, ev_eq ?_⟩) ?_
    · by_cases hv : (x : Int) = p0 <;> simp [wipeD, hv, oiD]
    · have := fin ((List.range m).map fun (v : Nat) => if (v : Int) = p0 then some m0 else none) o1 (by simp) (h1.mono (by omega))
      rw [List.map_map] at this
      exact this
  simp [w5]
  exact loweredC (k := k) H.draw H.far hL hr (N := N) (h1.mono (by omega)) earF_len ⟨hE.m1, by omega⟩ fun l' o' e1 e2 => fin l' o' e1 e2
theorem floor_low {S : List Sp} {p0 m0 : Int} {l : List (Option Int)} (h : floorB S p0 m0 l = true) {p m : Int} (r : Rch S p0 m0 p m) : ∃ w, tf l p = some w ∧ w ≤ m := by
  simp only [floorB, Bool.and_eq_true, List.all_eq_true, Bool.or_eq_true, Bool.not_eq_true'] at h
  have key : ∀ {o : Option Int} {v : Int}, atMost o v = true → ∃ w, o = some w ∧ w ≤ v := fun {o v} h => by
    cases o with
    | none => cases h
    | some w => exact ⟨w, rfl, of_decide_eq_true h⟩
  induction r with
  | here => exact key h.1
  | @go s m _ hs hm ih =>
    obtain ⟨w, e, hw⟩ := ih
    rcases h.2 s hs with q | q
    · rw [e] at q
      simp only [atMost, decide_eq_false_iff_not] at q
      omega
    · exact key q
theorem floor_ear {S : List Sp} {m : Nat} {p0 m0 : Int} (hp : 0 ≤ p0 ∧ p0.toNat < m) (hS : ∀ s ∈ S, SpIn m s) : floorB S p0 m0 (earF S m p0 m0) = true := by
  have hR := earF_right (m0 := m0) hp hS
  simp only [floorB, Bool.and_eq_true, List.all_eq_true, Bool.or_eq_true, Bool.not_eq_true']
  have key : ∀ {p v : Int}, Rch S p0 m0 p v → atMost (tf (earF S m p0 m0) p) v = true := fun {p v} r => by
    obtain ⟨w, e, hw⟩ := hR.low p v r
    rw [e]; exact decide_eq_true hw
  refine ⟨key .here, fun s hs => ?_⟩
  cases e : tf (earF S m p0 m0) s.a with
  | none => exact .inl rfl
  | some v =>
    by_cases hv : v ≤ s.t
    · exact .inr (key (.go (hR.snd _ _ e) hs hv))
    · exact .inl (by simpa [atMost] using hv)
theorem zipW {α β γ : Type} {f : α → β → γ} : ∀ {l : List α} {l' : List β}, List.zipWith f l l' = (l.zip l').map fun p => f p.1 p.2
  | [], _ => by simp
  | _ :: _, [] => by simp
  | x :: xs, y :: ys => by simp [zipW (l := xs) (l' := ys)]
theorem zip_src {a b : List D} : zpOf st [.val (.tup a), .val (.tup b)] = some ⟨List.zipWith (fun x y => .tup [x, y]) a b, [], false⟩ := rfl
theorem trueC (hT : Has T "_law_true" fC_law_true) {l l' : List (Option Int)} (h : ∀ (i : Nat) (v : Int), l[i]? = some (some v) → l'[i]? = none ∨ ∃ w, l'[i]? = some (some w) ∧ w ≤ v) :
    callF T n (k + 1) "_law_true" [.tup (l.map oiD), .tup (l'.map oiD)] st = some (.bl true, st) := by
  refine callF_eq (callF_w hT rfl ?_)
  simp [fC_law_true, cC_law_true, wB_cons, zip_src]
  rw [zipW]
  refine for_map _ (fun zs ρ s => s = st ++ [] ∧ (∀ p ∈ zs, p ∈ l.zip l') ∧ ∃ r2 r3, ρ = [some (.tup (l.map oiD)), some (.tup (l'.map oiD)), r2, r3]) ?_ ?_ _ _ _ ⟨by simp, fun p hp => hp, none, none, rfl⟩
  · rintro ρ s ⟨rfl, _, r2, r3, rfl⟩
    exact ⟨rfl, by simp⟩
  · rintro ⟨x, y⟩ zs ρ s ⟨rfl, hz, r2, r3, rfl⟩
    refine ⟨rfl, _, rfl, ?_⟩
    have hm := hz _ List.mem_cons_self
    have keep : ∀ r2 r3, ((st ++ [] : Sto) = st ++ [] ∧ (∀ p ∈ zs, p ∈ l.zip l') ∧ ∃ a b, ([some (.tup (l.map oiD)), some (.tup (l'.map oiD)), r2, r3] : Env) = [some (.tup (l.map oiD)), some (.tup (l'.map oiD)), a, b]) := fun r2 r3 => ⟨rfl, fun p hp => hz p (List.mem_cons_of_mem _ hp), r2, r3, rfl⟩
    show wB _ _ _ _ _ _
    simp only [wB_cons, setT_nm] at *
    cases x with
    | none =>
      simp [oiD]
      exact fun p q hp => hz _ (List.mem_cons_of_mem _ hp)
    | some v =>
      obtain ⟨i, hi⟩ := List.getElem?_of_mem hm
      rw [List.getElem?_zip_eq_some] at hi
      rcases h i v hi.1 with q | ⟨w, q, hw⟩
      · rw [q] at hi; cases hi.2
      · have : y = some w := by
          have := hi.2.symm.trans q
          simpa using this
        subst this
        have hvw : ¬ v < w := by omega
        simp [oiD, hvw]
        exact fun p q hp => hz _ (List.mem_cons_of_mem _ hp)
def farMs (mo : Int) (ms : List Mt) : List Mt := ms.map fun x => ⟨x.bo, x.a, x.b, x.t + mo, x.l⟩
theorem farMs_ok {B : Int} {m : Nat} {ms : List Mt} (h : NetOk B m ms) (hB : B ≤ 10 ^ 20) {mo : Int} (h0 : 0 ≤ mo) (h1 : mo < 10 ^ 40) : EarOk (m + 2) (farMs mo ms) := by
  have := h.m1; have := h.m2; have := h.len
  refine ⟨fun x hx => ?_, by omega, by omega, by simp [farMs]; omega, fun x hx => ?_⟩
  · obtain ⟨y, hy, rfl⟩ := List.mem_map.mp hx
    obtain ⟨q1, q2, q3, q4, q5, q6, q7⟩ := h.ok y hy
    exact ⟨q1, by simp only; omega, q3, by simp only; omega, q5, by simp only; omega, q7⟩
  · obtain ⟨y, hy, rfl⟩ := List.mem_map.mp hx
    have := h.bd y hy
    simp only; omega
theorem readC (W : DrawOk T n) (hF : Has T "_law_far" fC_law_far) (H : HR T) (hT : Has T "_law_read" fC_law_read) (hr : r < st.length) (h : okd (N + 3) o) {B : Int} {m : Nat} {ms : List Mt} (hN : NetOk B m ms) (hB : B ≤ 10 ^ 20) {Q : D → Sto → Prop}
    (q : ∀ (mo : Int) o', 0 ≤ mo → mo < 10 ^ 40 → okd N o' → Q (netD ((m + 2 : Nat) : Int) (farMs mo ms)) (st.set r o')) : ok2 (callF T n (k + 6) "_law_read" [.ref r, netD m ms] (st.set r o)) Q := by
  refine callF_w hT rfl ?_
  have p38 : powOk 10 38 = true := by decide
  simp [fC_law_read, cC_law_read, wB_cons, p38, netD]
  refine farC W hF hr (N := N) h fun x1 o1 a1 b1 h1 => ?_
  simp
  obtain ⟨mo, emo⟩ : ∃ mo, mo = 100000000000000000000000000000000000000 + x1 := ⟨_, rfl⟩
  rw [← emo]
  obtain ⟨m2, em2⟩ : ∃ m2 : Nat, m2 = m + 2 := ⟨_, rfl⟩
  have em : (m : Int) + 2 = (m2 : Int) := by omega
  have hE : EarOk m2 (farMs mo ms) := em2 ▸ farMs_ok hN hB (mo := mo) (by omega) (by omega)
  obtain ⟨z, hz1, hz2⟩ := reread (n := n) H hE k
  refine compL_ok ms mtD (fun x => mtD ⟨x.bo, x.a, x.b, x.t + mo, x.l⟩) rfl (fun x hx => ⟨_, rfl, rfl, ev_eq ?_⟩) ?_
  · simp [wipeD, mtD]
  have ee : List.map (fun x : Mt => mtD ⟨x.bo, x.a, x.b, x.t + mo, x.l⟩) ms = (farMs mo ms).map mtD := by simp [farMs]
  rw [ee]
  have enet : D.tup [.int (m2 : Int), .tup ((farMs mo ms).map mtD)] = netD (m2 : Int) (farMs mo ms) := rfl
  simp [em, pull hr, tup_ref (getd0 (g := [O.lst ((farMs mo ms).map mtD)]) hr), enet, hz1, hz2]
  rw [gc_da hr h1 (by simp [netD, lowL_mt])]
  have := q mo o1 (by omega) (by omega) h1
  rwa [← em2] at this
end
end Mw

set_option Elab.async false
set_option linter.all false
set_option autoImplicit false
set_option maxRecDepth 100000
/-! PyN7: ways. -/
namespace Mw
open PySem
def cstep_from : CSs := (.cons (.asg (.tp (.cons (.nm 3) (.cons (.nm 4) (.cons (.nm 5) (.cons (.nm 6) (.cons (.nm 7) .nil)))))) (.idx (.idx (.var 0) (.cst (.int 1))) (.var 1))) (.cons (.ite (.cmp .eq (.var 2) (.var 4)) (.cons (.ret (.tup (.cons (.var 1) (.cons (.var 4) (.cons (.var 5) (.cons (.var 6) (.cons (.bin .add (.var 6) (.var 7)) .nil))))))) .nil) .nil) (.cons (.ite (.and (.cmp .eq (.var 3) (.cst (.str "both"))) (.cmp .eq (.var 2) (.var 5))) (.cons (.ret (.tup (.cons (.var 1) (.cons (.var 5) (.cons (.var 4) (.cons (.var 6) (.cons (.bin .add (.var 6) (.var 7)) .nil))))))) .nil) .nil) (.cons (.ret (.cst .non)) .nil))))
def fstep_from : Fd := ⟨3, 8, cstep_from⟩
def cnext_step : CSs := (.cons (.ite (.or (.not (.call "is_whole" (.cons (.var 3) .nil))) (.not (.chain .le .lt (.cst (.int 0)) (.var 3) (.bi .len (.cons (.idx (.var 0) (.cst (.int 1))) .nil))))) (.cons (.ret (.cst .non)) .nil) .nil) (.cons (.asg (.nm 4) (.call "step_from" (.cons (.var 0) (.cons (.var 3) (.cons (.var 1) .nil))))) (.cons (.ite (.or (.cmp .isN (.var 4) (.cst .non)) (.cmp .lt (.idx (.var 4) (.cst (.int 3))) (.var 2))) (.cons (.ret (.cst .non)) .nil) .nil) (.cons (.ret (.var 4)) .nil))))
def fnext_step : Fd := ⟨4, 5, cnext_step⟩
def cis_way : CSs := (.cons (.ite (.not (.isi (.var 3) .tuple)) (.cons (.ret (.cst (.bl false))) .nil) .nil) (.cons (.asg (.nm 4) (.var 1)) (.cons (.asg (.nm 5) (.var 2)) (.cons (.for (.nm 6) (.ex (.var 3)) (.cons (.asg (.nm 7) (.call "next_step" (.cons (.var 0) (.cons (.var 4) (.cons (.var 5) (.cons (.var 6) .nil)))))) (.cons (.ite (.cmp .isN (.var 7) (.cst .non)) (.cons (.ret (.cst (.bl false))) .nil) .nil) (.cons (.asg (.nm 4) (.idx (.var 7) (.cst (.int 2)))) (.cons (.asg (.nm 5) (.idx (.var 7) (.cst (.int 4)))) .nil))))) (.cons (.ret (.cst (.bl true))) .nil)))))
def fis_way : Fd := ⟨4, 8, cis_way⟩
def cplaces_on : CSs := (.cons (.asg (.nm 3) (.lst (.cons (.var 1) .nil))) (.cons (.for (.nm 4) (.ex (.var 2)) (.cons (.expr (.mt .append (.var 3) (.cons (.idx (.call "step_from" (.cons (.var 0) (.cons (.var 4) (.cons (.idx (.var 3) (.neg (.cst (.int 1)))) .nil)))) (.cst (.int 2))) .nil))) .nil)) (.cons (.ret (.bi .tuple (.cons (.var 3) .nil))) .nil)))
def fplaces_on : Fd := ⟨3, 5, cplaces_on⟩
def ccomes_at : CSs := (.cons (.ite (.cmp .eq (.var 2) (.tup .nil)) (.cons (.ret (.var 1)) .nil) .nil) (.cons (.asg (.tp (.cons (.nm 3) (.cons (.nm 4) (.cons (.nm 5) (.cons (.nm 6) (.cons (.nm 7) .nil)))))) (.idx (.idx (.var 0) (.cst (.int 1))) (.idx (.var 2) (.neg (.cst (.int 1)))))) (.cons (.ret (.bin .add (.var 6) (.var 7))) .nil)))
def fcomes_at : Fd := ⟨3, 8, ccomes_at⟩
def cis_word : CSs := (.cons (.ret (.and (.isi (.var 0) .tuple) (.and (.cmp .eq (.bi .len (.cons (.var 0) .nil)) (.var 2)) (.and (.isi (.idx (.var 0) (.cst (.int 0))) .str) (.cmp .eq (.idx (.var 0) (.cst (.int 0))) (.var 1)))))) .nil)
def fis_word : Fd := ⟨3, 3, cis_word⟩
def ccomes_to : CSs := (.cons (.ret (.and (.call "is_way" (.cons (.var 0) (.cons (.var 1) (.cons (.var 2) (.cons (.var 4) .nil))))) (.cmp .eq (.idx (.call "places_on" (.cons (.var 0) (.cons (.var 1) (.cons (.var 4) .nil)))) (.neg (.cst (.int 1)))) (.var 3)))) .nil)
def fcomes_to : Fd := ⟨5, 5, ccomes_to⟩
def cearly_paper_holds : CSs := (.cons (.ite (.call "is_word" (.cons (.var 4) (.cons (.cst (.str "never")) (.cons (.cst (.int 2)) .nil)))) (.cons (.ret (.and (.call "floor_holds" (.cons (.var 0) (.cons (.var 1) (.cons (.var 2) (.cons (.idx (.var 4) (.cst (.int 1))) .nil))))) (.cmp .isN (.idx (.idx (.var 4) (.cst (.int 1))) (.var 3)) (.cst .non)))) .nil) .nil) (.cons (.ite (.or (.not (.call "is_word" (.cons (.var 4) (.cons (.cst (.str "comes")) (.cons (.cst (.int 3)) .nil))))) (.not (.call "floor_holds" (.cons (.var 0) (.cons (.var 1) (.cons (.var 2) (.cons (.idx (.var 4) (.cst (.int 2))) .nil))))))) (.cons (.ret (.cst (.bl false))) .nil) .nil) (.cons (.ret (.and (.call "comes_to" (.cons (.var 0) (.cons (.var 1) (.cons (.var 2) (.cons (.var 3) (.cons (.idx (.var 4) (.cst (.int 1))) .nil)))))) (.cmp .eq (.call "comes_at" (.cons (.var 0) (.cons (.var 2) (.cons (.idx (.var 4) (.cst (.int 1))) .nil)))) (.idx (.idx (.var 4) (.cst (.int 2))) (.var 3))))) .nil)))
def fearly_paper_holds : Fd := ⟨5, 5, cearly_paper_holds⟩
def cC_law_come : CSs := (.cons (.ite (.not (.isi (.var 3) .tuple)) (.cons (.ret (.cst .non)) .nil) .nil) (.cons (.asg (.nm 4) (.var 1)) (.cons (.asg (.nm 5) (.var 2)) (.cons (.for (.nm 6) (.ex (.var 3)) (.cons (.ite (.or (.isi (.var 6) .bool) (.or (.not (.isi (.var 6) .int)) (.not (.chain .le .lt (.cst (.int 0)) (.var 6) (.bi .len (.cons (.idx (.var 0) (.cst (.int 1))) .nil)))))) (.cons (.ret (.cst .non)) .nil) .nil) (.cons (.asg (.tp (.cons (.nm 7) (.cons (.nm 8) (.cons (.nm 9) (.cons (.nm 10) (.cons (.nm 11) .nil)))))) (.idx (.idx (.var 0) (.cst (.int 1))) (.var 6))) (.cons (.ite (.or (.cmp .lt (.var 10) (.var 5)) (.and (.cmp .ne (.var 4) (.var 8)) (.or (.cmp .ne (.var 7) (.cst (.str "both"))) (.cmp .ne (.var 4) (.var 9))))) (.cons (.ret (.cst .non)) .nil) .nil) (.cons (.asg (.nm 4) (.bin .sub (.bin .add (.var 8) (.var 9)) (.var 4))) (.cons (.asg (.nm 5) (.bin .add (.var 10) (.var 11))) .nil)))))) (.cons (.ret (.tup (.cons (.var 4) (.cons (.var 5) .nil)))) .nil)))))
def fC_law_come : Fd := ⟨4, 12, cC_law_come⟩
/-- the step of a meeting from a place -/
def sFrom (ms : List Mt) (i : Nat) (p : Int) : Option Sp := match ms[i]? with
  | some x => if p = x.a then some ⟨i, x.a, x.b, x.t, x.t + x.l⟩ else if x.bo = true ∧ p = x.b then some ⟨i, x.b, x.a, x.t, x.t + x.l⟩ else none
  | none => none
def nextS (ms : List Mt) (p t : Int) (d : D) : Option Sp := match d with
  | .int i => if 0 ≤ i ∧ i < ms.length then match sFrom ms i.toNat p with
      | some s => if s.t < t then none else some s
      | none => none
    else none
  | _ => none
def wayGo (ms : List Mt) : Int → Int → List D → Option (List Sp)
  | _, _, [] => some []
  | p, t, d :: ds => match nextS ms p t d with
    | some s => (wayGo ms s.b s.u ds).map (s :: ·)
    | none => none
def isWayB (ms : List Mt) (p t : Int) (x : D) : Bool := match x with
  | .tup ds => (wayGo ms p t ds).isSome
  | _ => false
def endP : Int → List Sp → Int
  | p, [] => p
  | _, s :: ss => endP s.b ss
def endT : Int → List Sp → Int
  | t, [] => t
  | _, s :: ss => endT s.u ss
def Chn (ms : List Mt) : Int → List Sp → Prop
  | _, [] => True
  | p, s :: ss => sFrom ms s.k p = some s ∧ Chn ms s.b ss
theorem sFrom_k {ms : List Mt} {i : Nat} {p : Int} {s : Sp} (h : sFrom ms i p = some s) : s.k = i ∧ s.a = p := by
  unfold sFrom at h
  split at h
  · split at h
    · rename_i e; cases h; exact ⟨rfl, e.symm⟩
    · split at h
      · rename_i e; cases h; exact ⟨rfl, e.2.symm⟩
      · cases h
  · cases h
theorem nextS_some {ms : List Mt} {p t : Int} {d : D} {s : Sp} (h : nextS ms p t d = some s) : d = .int s.k ∧ sFrom ms s.k p = some s ∧ t ≤ s.t ∧ s.k < ms.length := by
  unfold nextS at h
  split at h
  · rename_i i
    split at h
    · rename_i hi
      split at h
      · rename_i s' hs
        split at h
        · cases h
        · cases h
          obtain ⟨hk, _⟩ := sFrom_k hs
          refine ⟨?_, by rw [hk]; exact hs, by omega, by omega⟩
          rw [hk, Int.toNat_of_nonneg hi.1]
      · cases h
    · cases h
  · cases h
theorem wayGo_some {ms : List Mt} : ∀ {ds : List D} {p t : Int} {ss : List Sp}, wayGo ms p t ds = some ss → ds = ss.map (fun s => D.int s.k) ∧ Chn ms p ss
  | [], _, _, ss, h => by cases h; exact ⟨rfl, trivial⟩
  | d :: ds, p, t, ss, h => by
    simp only [wayGo] at h
    split at h
    · rename_i s hs
      simp only [Option.map_eq_some_iff] at h
      obtain ⟨ss', h1, rfl⟩ := h
      obtain ⟨e1, e2, _⟩ := nextS_some hs
      obtain ⟨e3, e4⟩ := wayGo_some h1
      exact ⟨by rw [e1, e3]; rfl, e2, e4⟩
    · cases h
mutual
/-- a value all of whose handles and texts can be asked -/
def okV (st : Sto) : D → Bool
  | .ref n => tyOk st (.ref n)
  | .str s => stOk s
  | .tup xs => okVL st xs
  | _ => true
def okVL (st : Sto) : List D → Bool
  | [] => true
  | x :: xs => okV st x && okVL st xs
end
theorem okVL_all {st : Sto} : ∀ {xs : List D}, okVL st xs = true ↔ ∀ x ∈ xs, okV st x = true
  | [] => by simp [okVL]
  | x :: xs => by simp [okVL, okVL_all (xs := xs)]
theorem okV_ty {st : Sto} {d : D} (h : okV st d = true) : tyOk st d = true := by
  cases d <;> first | exact h | rfl
theorem okV_th {st : Sto} {d : D} (h : okV st d = true) : thOk st d = true := by
  simp only [thOk, okV_ty h, Bool.true_and]
  cases d with
  | tup xs =>
    simp only [List.all_eq_true]
    exact fun x hx => okV_ty (okVL_all.mp (by simpa [okV] using h) x hx)
  | _ => rfl
section
variable {T : Tab} {n k : Nat} {st : Sto}
theorem idx_net1 {m : Int} {ms : List Mt} : idxApp st (.val (netD m ms)) (.val (.int 1)) = some (.val (.tup (ms.map mtD))) := rfl
theorem idx_net0 {m : Int} {ms : List Mt} : idxApp st (.val (netD m ms)) (.val (.int 0)) = some (.val (.int m)) := rfl
def osD : Option Sp → D
  | none => .non
  | some s => spD s
theorem step_from_ok (hT : Has T "step_from" fstep_from) {m : Int} {ms : List Mt} {i : Nat} (hi : i < ms.length) {p : Int} : callF T n (k + 1) "step_from" [netD m ms, .int i, .int p] st = some (osD (sFrom ms i p), st) := by
  refine callF_eq (callF_w hT rfl ?_)
  have e : ms[i]? = some ms[i] := List.getElem?_eq_getElem hi
  have ei : L2.atI (ms.map mtD) (i : Int) = some (mtD ms[i]) := atI_n (by rw [List.getElem?_map, e]; rfl)
  have es : sFrom ms i p = if p = ms[i].a then some ⟨i, ms[i].a, ms[i].b, ms[i].t, ms[i].t + ms[i].l⟩ else if ms[i].bo = true ∧ p = ms[i].b then some ⟨i, ms[i].b, ms[i].a, ms[i].t, ms[i].t + ms[i].l⟩ else none := by
    unfold sFrom; rw [e]
  simp [fstep_from, cstep_from, wB_cons, idx_net1, ei]
  rw [es]
  simp [mtD, wd_both]
  by_cases h1 : p = ms[i].a
  · simp [h1, osD, spD]
  · simp [h1]
    cases hb : ms[i].bo with
    | false => simp [osD]
    | true =>
      simp
      by_cases h2 : p = ms[i].b <;> simp [h2, osD, spD]
theorem nextS_whole {ms : List Mt} {p t : Int} {d : D} (h : whole d = false) : nextS ms p t d = none := by
  cases d <;> first | rfl | cases h
theorem next_step_ok (h1 : Has T "is_whole" fis_whole) (h2 : Has T "step_from" fstep_from) (hT : Has T "next_step" fnext_step) {m : Int} {ms : List Mt} {p t : Int} {d : D} (hd : tyOk st d = true) :
    callF T n (k + 2) "next_step" [netD m ms, .int p, .int t, d] st = some (osD (nextS ms p t d), st) := by
  refine callF_eq (callF_w hT rfl ?_)
  simp [fnext_step, cnext_step, wB_cons, is_whole_any h1 hd]
  cases d with
  | int i =>
    simp [whole, idx_net1]
    by_cases hi : 0 ≤ i
    rotate_left
    · have : nextS ms p t (.int i) = none := by simp [nextS, hi]
      simp [hi, this, osD]
    by_cases hi2 : i < ms.length
    rotate_left
    · have : nextS ms p t (.int i) = none := by simp [nextS, hi2]
      simp [hi, hi2, this, osD]
    obtain ⟨j, rfl⟩ : ∃ j : Nat, i = (j : Int) := ⟨i.toNat, by omega⟩
    have hj : j < ms.length := by omega
    have en : nextS ms p t (.int (j : Int)) = match sFrom ms j p with
      | some s => if s.t < t then none else some s
      | none => none := by simp [nextS, hj]
    rw [en]
    simp [hj, step_from_ok h2 hj]
    cases hs : sFrom ms j p with
    | none => simp [osD]
    | some s =>
      by_cases hlt : s.t < t <;> simp [osD, spD, hlt]
  | _ => simp [whole, nextS, osD]
def iwI (ms : List Mt) (p0 t0 : Int) (ds0 : List D) (a b c d : D) (st0 : Sto) (ds : List D) (ρ : Env) (s : Sto) : Prop :=
  ∃ (p t : Int) (r6 r7 : Option D), s = st0 ∧ ((wayGo ms p0 t0 ds0).isSome = (wayGo ms p t ds).isSome) ∧ (∀ x ∈ ds, tyOk st0 x = true) ∧ ρ = [some a, some b, some c, some d, some (.int p), some (.int t), r6, r7]
theorem is_way_ok (h1 : Has T "is_whole" fis_whole) (h2 : Has T "step_from" fstep_from) (h3 : Has T "next_step" fnext_step) (hT : Has T "is_way" fis_way) {m : Int} {ms : List Mt} {p t : Int} {x : D} (hx : thOk st x = true) :
    callF T n (k + 3) "is_way" [netD m ms, .int p, .int t, x] st = some (.bl (isWayB ms p t x), st) := by
  refine callF_eq (callF_w hT rfl ?_)
  simp only [thOk, Bool.and_eq_true] at hx
  obtain ⟨g1, g2⟩ := hx
  simp [fis_way, cis_way, wB_cons, isTyD_tuple g1]
  cases x with
  | tup ds =>
    simp
    have hall : ∀ d ∈ ds, tyOk st d = true := List.all_eq_true.mp g2
    refine for_d (iwI ms p t ds (netD m ms) (.int p) (.int t) (.tup ds) st) ?_ ?_ ds _ _ ⟨p, t, none, none, rfl, rfl, hall, rfl⟩
    · rintro ρ s ⟨p', t', r6, r7, rfl, e, _, rfl⟩
      refine ⟨rfl, ?_⟩
      simp [isWayB, e, wayGo]
    · rintro d ds' ρ s ⟨p', t', r6, r7, rfl, e, hd, rfl⟩
      refine ⟨rfl, _, rfl, ?_⟩
      have hn := next_step_ok (n := n) (k := k) h1 h2 h3 (m := m) (ms := ms) (p := p') (t := t') (hd d List.mem_cons_self)
      show wB _ _ _ _ _ _
      simp [wB_cons, hn]
      cases hs : nextS ms p' t' d with
      | none =>
        simp [osD, isWayB, e, wayGo, hs]
      | some s1 =>
        simp [osD, spD]
        exact ⟨s1.b, s1.u, _, _, rfl, by rw [e]; simp [wayGo, hs], fun x hx => hd x (List.mem_cons_of_mem _ hx), rfl⟩
  | _ => simp [isWayB]
/-! ### places, comings -/
def plI (ms : List Mt) (p0 : Int) (ss0 : List Sp) (a b c : D) (st0 : Sto) (ss : List Sp) (ρ : Env) (s : Sto) : Prop :=
  ∃ (done : List Sp) (r4 : Option D), done ++ ss = ss0 ∧ Chn ms (endP p0 done) ss ∧ s = st0 ++ [.lst ((p0 :: done.map (·.b)).map D.int)] ∧ ρ = [some a, some b, some c, some (.ref st0.length), r4]
theorem endP_snoc {s : Sp} : ∀ (l : List Sp) (p : Int), endP p (l ++ [s]) = s.b
  | [], _ => rfl
  | x :: l, _ => endP_snoc l x.b
theorem atI_m1 {α : Type} {xs : List α} {x : α} (h : xs[xs.length - 1]? = some x) : L2.atI xs (-1) = some x := by
  have hl := (List.getElem?_eq_some_iff.mp h).1
  unfold L2.atI L2.ixN
  rw [if_neg (by omega), if_pos (by omega)]
  have : ((-1 : Int) + (xs.length : Int)).toNat = xs.length - 1 := by omega
  simpa [this] using h
theorem endP_last (l : List Sp) (p : Int) : L2.atI ((p :: l.map (·.b)).map D.int) (-1) = some (.int (endP p l)) := by
  have key : ∀ (l : List Sp) (p : Int), ((p :: l.map (·.b)).map D.int)[l.length]? = some (.int (endP p l)) := by
    intro l
    induction l with
    | nil => intro p; rfl
    | cons s l ih => intro p; simpa [endP] using ih s.b
  exact atI_m1 (by simpa using key l p)
theorem sFrom_lt {ms : List Mt} {i : Nat} {p : Int} {s : Sp} (h : sFrom ms i p = some s) : i < ms.length := by
  unfold sFrom at h
  split at h
  · rename_i e; exact (List.getElem?_eq_some_iff.mp e).1
  · cases h
theorem places_on_ok (h2 : Has T "step_from" fstep_from) (hT : Has T "places_on" fplaces_on) {m : Int} {ms : List Mt} {p : Int} {ss : List Sp} (hl : ss.length ≤ 1000000) (h : Chn ms p ss) :
    callF T n (k + 2) "places_on" [netD m ms, .int p, .tup (ss.map fun s => .int s.k)] st = some (.tup ((p :: ss.map (·.b)).map D.int), st) := by
  refine callF_eq (callF_w hT rfl ?_)
  simp [fplaces_on, cplaces_on, wB_cons]
  refine for_map (fun s : Sp => D.int s.k) (plI ms p ss (netD m ms) (.int p) (.tup (ss.map fun s => .int s.k)) st) ?_ ?_ ss _ _ ⟨[], none, rfl, h, rfl, rfl⟩
  · rintro ρ s ⟨done, r4, e, _, rfl, rfl⟩
    simp at e
    subst e
    refine ⟨rfl, ?_⟩
    have hlow : D.lowL st.length (done.map (D.int ∘ fun x => x.b)) = true := by
      rw [lowL_all]; intro x hx; obtain ⟨y, _, rfl⟩ := List.mem_map.mp hx; rfl
    simp
    rw [tup_ref get_last]
    simp [gc_app, hlow]
  · rintro z zs ρ s ⟨done, r4, e, hc, rfl, rfl⟩
    refine ⟨rfl, _, rfl, ?_⟩
    obtain ⟨q1, q2⟩ := hc
    have hlen : done.length < 1000000 := by have := congrArg List.length e; simp at this; omega
    have hst := step_from_ok (n := n) (k := k) (st := st ++ [.lst ((p :: done.map (·.b)).map D.int)]) h2 (m := m) (sFrom_lt q1) (p := endP p done)
    rw [q1] at hst
    have hix : idxApp (st ++ [.lst ((p :: done.map (·.b)).map D.int)]) (.val (.ref st.length)) (.val (.int (-1))) = some (.val (.int (endP p done))) := by
      rw [idx_ref get_last, endP_last]; rfl
    show wB _ _ _ _ _ _
    simp only [wB_cons, wS_expr]
    simp only [List.map_cons, List.map_map] at hst hix
    simp [hix, hst, osD, spD]
    have hap := app_ref (st := st ++ [.lst ((p :: done.map (·.b)).map D.int)]) (r := .val (.int z.b)) get_last (by simp; omega)
    simp only [List.map_cons, List.map_map, mat_val] at hap
    simp [hap]
    exact ⟨done ++ [z], _, by simp [e], by rw [endP_snoc]; exact q2, by simp, rfl⟩
end
end Mw

set_option Elab.async false
set_option linter.all false
set_option autoImplicit false
set_option maxRecDepth 100000
/-! PyR1: the deck of the laws of ways and of plain forms. -/
namespace Mw
open PySem
def cB_law_deck : CSs := (.cons (.asg (.nm 2) (.cst (.int 0))) (.cons (.ite (.cmp .lt (.var 1) (.bi .len (.cons (.var 0) .nil))) (.cons (.asg (.nm 2) (.bi .max (.cons (.cst (.int 0)) (.cons (.idx (.var 0) (.var 1)) .nil)))) .nil) .nil) (.cons (.ret (.lst (.cons (.bin .mul (.var 2) (.bi .int (.cons (.cmp .ge (.var 2) (.bin .pow (.cst (.int 10)) (.cst (.int 18)))) .nil))) (.cons (.bin .add (.bin .mod (.var 2) (.cst (.int 2147483629))) (.bin .mul (.cst (.int 7919)) (.var 1))) (.cons (.cst (.int 0)) .nil))))) .nil)))
def fB_law_deck : Fd := ⟨2, 3, cB_law_deck⟩
def cB_law_draw : CSs := (.cons (.ite (.cmp .gt (.idx (.var 0) (.cst (.int 0))) (.cst (.int 0))) (.cons (.asg (.nm 2) (.bin .mod (.idx (.var 0) (.cst (.int 0))) (.var 1))) (.cons (.put (.var 0) (.cst (.int 0)) (.bin .fdiv (.idx (.var 0) (.cst (.int 0))) (.var 1))) (.cons (.ret (.var 2)) .nil))) .nil) (.cons (.put (.var 0) (.cst (.int 2)) (.bin .add (.idx (.var 0) (.cst (.int 2))) (.cst (.int 1)))) (.cons (.asg (.nm 3) (.bin .mod (.bin .mul (.bin .add (.bin .add (.idx (.var 0) (.cst (.int 1))) (.bin .mul (.cst (.int 65537)) (.idx (.var 0) (.cst (.int 2))))) (.cst (.int 101))) (.cst (.int 48271))) (.cst (.int 2147483647)))) (.cons (.asg (.nm 3) (.bin .mod (.bin .add (.bin .add (.bin .mul (.var 3) (.var 3)) (.bin .mul (.cst (.int 69621)) (.idx (.var 0) (.cst (.int 2))))) (.cst (.int 11))) (.cst (.int 2147483629)))) (.cons (.ret (.bin .mod (.bin .fdiv (.bin .mod (.bin .add (.bin .mul (.var 3) (.var 3)) (.cst (.int 32749))) (.cst (.int 2147483587))) (.cst (.int 64))) (.var 1))) .nil)))))
def fB_law_draw : Fd := ⟨2, 4, cB_law_draw⟩
def cB_law_far : CSs := (.cons (.asg (.nm 2) (.cst (.int 0))) (.cons (.for (.nm 3) (.rng (.cons (.cst (.int 3)) .nil)) (.cons (.asg (.nm 2) (.bin .add (.bin .mul (.var 2) (.bin .pow (.cst (.int 10)) (.cst (.int 6)))) (.call "_law_draw" (.cons (.var 0) (.cons (.bin .pow (.cst (.int 10)) (.cst (.int 6))) .nil))))) .nil)) (.cons (.ret (.bin .mod (.var 2) (.bin .add (.var 1) (.cst (.int 1))))) .nil)))
def fB_law_far : Fd := ⟨2, 4, cB_law_far⟩
def cB_law_begin : CSs := (.cons (.asg (.nm 3) (.call "_law_draw" (.cons (.var 0) (.cons (.cst (.int 31)) .nil)))) (.cons (.ite (.cmp .eq (.var 1) (.cst (.int 3))) (.cons (.ret (.bin .mul (.cst (.int 5)) (.call "_law_draw" (.cons (.var 0) (.cons (.cst (.int 2)) .nil))))) .nil) .nil) (.cons (.ite (.and (.cmp .ne (.var 2) (.lst .nil)) (.or (.cmp .eq (.var 1) (.cst (.int 2))) (.and (.cmp .eq (.var 1) (.cst (.int 1))) (.cmp .gt (.bin .mod (.var 3) (.cst (.int 3))) (.cst (.int 0)))))) (.cons (.asg (.nm 4) (.idx (.var 2) (.idx (.lst (.cons (.bin .sub (.bi .len (.cons (.var 2) .nil)) (.cst (.int 1))) (.cons (.call "_law_draw" (.cons (.var 0) (.cons (.bi .len (.cons (.var 2) .nil)) .nil))) .nil))) (.bi .int (.cons (.cmp .eq (.var 1) (.cst (.int 1))) .nil))))) (.cons (.ret (.bi .max (.cons (.cst (.int 0)) (.cons (.bin .add (.bin .sub (.bin .add (.idx (.var 4) (.cst (.int 3))) (.idx (.var 4) (.cst (.int 4)))) (.bi .int (.cons (.cmp .eq (.var 1) (.cst (.int 1))) .nil))) (.call "_law_draw" (.cons (.var 0) (.cons (.cst (.int 3)) .nil)))) .nil)))) .nil)) .nil) (.cons (.ret (.var 3)) .nil))))
def fB_law_begin : Fd := ⟨3, 5, cB_law_begin⟩
def cB_law_meeting : CSs := (.cons (.ite (.and (.cmp .eq (.var 1) (.cst (.int 5))) (.and (.cmp .ne (.var 3) (.lst .nil)) (.cmp .eq (.call "_law_draw" (.cons (.var 0) (.cons (.cst (.int 3)) .nil))) (.cst (.int 0))))) (.cons (.ret (.idx (.var 3) (.call "_law_draw" (.cons (.var 0) (.cons (.bi .len (.cons (.var 3) .nil)) .nil))))) .nil) .nil) (.cons (.asg (.nm 4) (.call "_law_draw" (.cons (.var 0) (.cons (.var 2) .nil)))) (.cons (.ite (.and (.cmp .eq (.var 1) (.cst (.int 2))) (.cmp .ne (.var 3) (.lst .nil))) (.cons (.asg (.nm 4) (.idx (.idx (.var 3) (.neg (.cst (.int 1)))) (.cst (.int 2)))) .nil) .nil) (.cons (.asg (.nm 5) (.bin .mod (.bin .add (.bin .add (.var 4) (.cst (.int 1))) (.call "_law_draw" (.cons (.var 0) (.cons (.bin .sub (.var 2) (.cst (.int 1))) .nil)))) (.var 2))) (.cons (.asg (.nm 6) (.idx (.lst (.cons (.cst (.str "to")) (.cons (.cst (.str "both")) .nil))) (.call "_law_draw" (.cons (.var 0) (.cons (.cst (.int 2)) .nil))))) (.cons (.asg (.nm 7) (.call "_law_begin" (.cons (.var 0) (.cons (.var 1) (.cons (.var 3) .nil))))) (.cons (.asg (.nm 8) (.bin .add (.cst (.int 1)) (.call "_law_draw" (.cons (.var 0) (.cons (.idx (.lst (.cons (.cst (.int 8)) (.cons (.cst (.int 2)) .nil))) (.bi .int (.cons (.cmp .eq (.var 1) (.cst (.int 3))) .nil))) .nil))))) (.cons (.ite (.cmp .eq (.var 1) (.cst (.int 4))) (.cons (.asg (.nm 9) (.call "_law_draw" (.cons (.var 0) (.cons (.cst (.int 3)) .nil)))) (.cons (.asg (.nm 7) (.idx (.lst (.cons (.call "_law_far" (.cons (.var 0) (.cons (.bin .sub (.bin .pow (.cst (.int 10)) (.cst (.int 13))) (.cst (.int 60))) .nil))) (.cons (.var 7) (.cons (.call "_law_far" (.cons (.var 0) (.cons (.bin .mul (.cst (.int 5)) (.bin .pow (.cst (.int 10)) (.cst (.int 12)))) .nil))) .nil)))) (.var 9))) (.cons (.asg (.nm 8) (.idx (.lst (.cons (.var 8) (.cons (.bin .add (.cst (.int 1)) (.call "_law_far" (.cons (.var 0) (.cons (.bin .sub (.bin .pow (.cst (.int 10)) (.cst (.int 13))) (.cst (.int 100))) .nil)))) (.cons (.bin .add (.cst (.int 1)) (.call "_law_far" (.cons (.var 0) (.cons (.bin .sub (.bin .mul (.cst (.int 5)) (.bin .pow (.cst (.int 10)) (.cst (.int 12)))) (.cst (.int 100))) .nil)))) .nil)))) (.var 9))) .nil))) .nil) (.cons (.ret (.tup (.cons (.var 6) (.cons (.var 4) (.cons (.var 5) (.cons (.var 7) (.cons (.var 8) .nil))))))) .nil)))))))))
def fB_law_meeting : Fd := ⟨4, 10, cB_law_meeting⟩
def cB_law_net : CSs := (.cons (.asg (.nm 2) (.idx (.lst (.cons (.cst (.int 0)) (.cons (.cst (.int 1)) (.cons (.cst (.int 2)) (.cons (.cst (.int 3)) (.cons (.cst (.int 4)) (.cons (.cst (.int 5)) (.cons (.cst (.int 1)) (.cons (.cst (.int 2)) .nil))))))))) (.call "_law_draw" (.cons (.var 0) (.cons (.cst (.int 8)) .nil))))) (.cons (.asg (.nm 3) (.bi .int (.cons (.cmp .eq (.call "_law_draw" (.cons (.var 0) (.cons (.cst (.int 8)) .nil))) (.cst (.int 5))) .nil))) (.cons (.asg (.nm 4) (.idx (.lst (.cons (.bin .add (.var 1) (.call "_law_draw" (.cons (.var 0) (.cons (.bin .sub (.cst (.int 7)) (.var 1)) .nil)))) (.cons (.cst (.int 10)) .nil))) (.var 3))) (.cons (.asg (.nm 5) (.idx (.lst (.cons (.call "_law_draw" (.cons (.var 0) (.cons (.cst (.int 13)) .nil))) (.cons (.bin .sub (.cst (.int 40)) (.call "_law_draw" (.cons (.var 0) (.cons (.cst (.int 9)) .nil)))) .nil))) (.var 3))) (.cons (.asg (.nm 6) (.lst .nil)) (.cons (.for (.nm 7) (.rng (.cons (.bin .mul (.var 5) (.bi .int (.cons (.cmp .gt (.var 4) (.cst (.int 1))) .nil))) .nil)) (.cons (.expr (.mt .append (.var 6) (.cons (.call "_law_meeting" (.cons (.var 0) (.cons (.var 2) (.cons (.var 4) (.cons (.var 6) .nil))))) .nil))) .nil)) (.cons (.ret (.tup (.cons (.var 4) (.cons (.bi .tuple (.cons (.var 6) .nil)) .nil)))) .nil)))))))
def fB_law_net : Fd := ⟨2, 8, cB_law_net⟩
def cB_law_moment : CSs := (.cons (.asg (.nm 2) (.call "_law_draw" (.cons (.var 0) (.cons (.cst (.int 6)) .nil)))) (.cons (.ite (.or (.cmp .eq (.idx (.var 1) (.cst (.int 1))) (.tup .nil)) (.cmp .eq (.var 2) (.cst (.int 0)))) (.cons (.ret (.idx (.lst (.cons (.cst (.int 0)) (.cons (.call "_law_draw" (.cons (.var 0) (.cons (.cst (.int 40)) .nil))) (.cons (.bin .pow (.cst (.int 10)) (.cst (.int 13))) .nil)))) (.call "_law_draw" (.cons (.var 0) (.cons (.cst (.int 3)) .nil))))) .nil) .nil) (.cons (.asg (.tp (.cons (.nm 3) (.cons (.nm 4) (.cons (.nm 5) (.cons (.nm 6) (.cons (.nm 7) .nil)))))) (.idx (.idx (.var 1) (.cst (.int 1))) (.call "_law_draw" (.cons (.var 0) (.cons (.bi .len (.cons (.idx (.var 1) (.cst (.int 1))) .nil)) .nil))))) (.cons (.ret (.bi .max (.cons (.cst (.int 0)) (.cons (.idx (.lst (.cons (.var 6) (.cons (.bin .add (.var 6) (.cst (.int 1))) (.cons (.bin .sub (.var 6) (.cst (.int 1))) (.cons (.bin .add (.var 6) (.var 7)) (.cons (.bin .sub (.bin .add (.var 6) (.var 7)) (.cst (.int 1))) .nil)))))) (.bin .sub (.var 2) (.cst (.int 1)))) .nil)))) .nil))))
def fB_law_moment : Fd := ⟨2, 8, cB_law_moment⟩
def cB_law_step : CSs := (.cons (.asg (.tp (.cons (.nm 3) (.cons (.nm 4) (.cons (.nm 5) (.cons (.nm 6) (.cons (.nm 7) .nil)))))) (.idx (.idx (.var 0) (.cst (.int 1))) (.var 1))) (.cons (.ite (.cmp .eq (.var 2) (.var 4)) (.cons (.ret (.tup (.cons (.var 5) (.cons (.var 6) (.cons (.bin .add (.var 6) (.var 7)) .nil))))) .nil) .nil) (.cons (.ite (.and (.cmp .eq (.var 3) (.cst (.str "both"))) (.cmp .eq (.var 2) (.var 5))) (.cons (.ret (.tup (.cons (.var 4) (.cons (.var 6) (.cons (.bin .add (.var 6) (.var 7)) .nil))))) .nil) .nil) (.cons (.ret (.cst .non)) .nil))))
def fB_law_step : Fd := ⟨3, 8, cB_law_step⟩
def cB_law_gone : CSs := (.cons (.asg (.nm 5) (.tup .nil)) (.cons (.asg (.nm 6) (.var 3)) (.cons (.while (.cmp .lt (.bi .len (.cons (.var 5) .nil)) (.var 4)) (.cons (.asg (.nm 7) (.lst .nil)) (.cons (.for (.nm 8) (.rng (.cons (.bi .len (.cons (.idx (.var 1) (.cst (.int 1))) .nil)) .nil)) (.cons (.asg (.nm 9) (.call "_law_step" (.cons (.var 1) (.cons (.var 8) (.cons (.var 2) .nil))))) (.cons (.ite (.and (.cmp .notN (.var 9) (.cst .non)) (.cmp .ge (.idx (.var 9) (.cst (.int 1))) (.var 6))) (.cons (.expr (.mt .append (.var 7) (.cons (.tup (.cons (.idx (.var 9) (.cst (.int 1))) (.cons (.var 8) .nil))) .nil))) .nil) .nil) .nil))) (.cons (.ite (.or (.cmp .eq (.var 7) (.lst .nil)) (.cmp .eq (.call "_law_draw" (.cons (.var 0) (.cons (.cst (.int 8)) .nil))) (.cst (.int 5)))) (.cons (.ret (.var 5)) .nil) .nil) (.cons (.asg (.nm 10) (.idx (.lst (.cons (.cst (.int 0)) (.cons (.call "_law_draw" (.cons (.var 0) (.cons (.bi .len (.cons (.var 7) .nil)) .nil))) .nil))) (.call "_law_draw" (.cons (.var 0) (.cons (.cst (.int 2)) .nil))))) (.cons (.asg (.nm 8) (.idx (.idx (.bi .sorted (.cons (.var 7) .nil)) (.var 10)) (.cst (.int 1)))) (.cons (.asg (.tp (.cons (.nm 2) (.cons (.nm 11) (.cons (.nm 6) .nil)))) (.call "_law_step" (.cons (.var 1) (.cons (.var 8) (.cons (.var 2) .nil))))) (.cons (.asg (.nm 5) (.bin .add (.var 5) (.tup (.cons (.var 8) .nil)))) .nil)))))))) (.cons (.ret (.var 5)) .nil))))
def fB_law_gone : Fd := ⟨5, 12, cB_law_gone⟩
def dk (o : O) : Prop := ∃ a b c : Int, o = deckO a b c
theorem dk.low {o : O} (h : dk o) {m : Nat} : o.low m = true := by
  obtain ⟨a, b, c, rfl⟩ := h
  exact deck_low
section
variable {st g : Sto} {r : Nat} {o o' : O}
theorem gc_o (hr : r < st.length) (ho : o'.low st.length = true) {d : D} (hd : d.low st.length = true) : gc (st.set r o) d (st.set r o') = (d, st.set r o') := by
  have e : st.set r o' = (st.set r o).set r o' := by rw [List.set_set]
  rw [e]
  exact gc_val' (Sta.refl.set (by simpa using ho)) (by simpa using hd)
theorem gc_oa (hr : r < st.length) (ho : o'.low st.length = true) {d : D} (hd : d.low st.length = true) : gc (st.set r o) d ((st ++ g).set r o') = (d, st.set r o') := by
  rw [← pull hr]
  have e : st.set r o' = (st.set r o).set r o' := by rw [List.set_set]
  rw [e]
  exact gc_val (Sta.refl.set (by simpa using ho)) (by simpa using hd)
theorem gc_on (hr : r < st.length) (ho : o'.low st.length = true) {j : Nat} {q : O} (hj : g[j]? = some q) (hq : q.low st.length = true) : gc (st.set r o) (.ref (st.length + j)) ((st ++ g).set r o') = (.ref st.length, (st ++ [q]).set r o') := by
  rw [← pull hr, ← pull hr]
  have e : st.set r o' = (st.set r o).set r o' := by rw [List.set_set]
  rw [e]
  have := gc_new (st := st.set r o) (s2 := (st.set r o).set r o') (g := g) (j := j) (o := q) (Sta.refl.set (by simpa using ho)) hj (by simpa using hq)
  simpa using this
end
def DrawB (T : Tab) (n : Nat) : Prop := ∀ (k : Nat) (st : Sto) (r : Nat) (o : O) (m : Int), r < st.length → dk o → 0 < m → m < 1073741824 →
  ∃ x o', callF T n (k + 1) "_law_draw" [.ref r, .int m] (st.set r o) = some (.int x, st.set r o') ∧ 0 ≤ x ∧ x < m ∧ dk o'
section
variable {T : Tab} {n k : Nat} {st g : Sto} {r : Nat} {o o' : O}
theorem drawB (hT : Has T "_law_draw" fB_law_draw) : DrawB T n := by
  intro k st r o m hr ho h1 h2
  obtain ⟨a, b, c, rfl⟩ := ho
  have e : (st.set r (deckO a b c))[r]? = some (.lst [.int a, .int b, .int c]) := List.getElem?_set_self hr
  by_cases ha : 0 < a
  · refine ⟨a % m, deckO (a / m) b c, callF_eq (callF_w hT rfl ?_), Int.emod_nonneg _ (by omega), Int.emod_lt_of_pos _ h1, ⟨_, _, _, rfl⟩⟩
    have := gc_o (st := st) (o := deckO a b c) (o' := deckO (a / m) b c) hr deck_low (d := .int (a % m)) rfl
    simp [fB_law_draw, cB_law_draw, wB_cons, idx_ref e, ha, h1, h2, put_ref e, L2.ixN]
    exact ⟨congrArg Prod.fst this, congrArg Prod.snd this⟩
  · have m1 : ∀ x : Int, mulOk 65537 x = true := fun x => mulOk_l (by decide) (by decide)
    have m2 : ∀ x : Int, mulOk 69621 x = true := fun x => mulOk_l (by decide) (by decide)
    have m3 : ∀ x : Int, mulOk x 48271 = true := fun x => mulOk_r (by decide) (by decide)
    have m4 : ∀ x y : Int, mulOk (x % 2147483647) y = true := fun x y => mulOk_l (by omega) (by omega)
    have m5 : ∀ x y : Int, mulOk (x % 2147483629) y = true := fun x y => mulOk_l (by omega) (by omega)
    have e2 : ∀ o2 : O, (st.set r o2)[r]? = some o2 := fun o2 => List.getElem?_set_self hr
    obtain ⟨y1, hy1⟩ : ∃ y1, y1 = (b + 65537 * (c + 1) + 101) * 48271 % 2147483647 := ⟨_, rfl⟩
    obtain ⟨y2, hy2⟩ : ∃ y2, y2 = (y1 * y1 + 69621 * (c + 1) + 11) % 2147483629 := ⟨_, rfl⟩
    refine ⟨(y2 * y2 + 32749) % 2147483587 / 64 % m, deckO a b (c + 1), callF_eq (callF_w hT rfl ?_), Int.emod_nonneg _ (by omega), Int.emod_lt_of_pos _ h1, ⟨_, _, _, rfl⟩⟩
    have := gc_o (st := st) (o := deckO a b c) (o' := deckO a b (c + 1)) hr deck_low (d := .int ((y2 * y2 + 32749) % 2147483587 / 64 % m)) rfl
    have m6 : mulOk y1 y1 = true := by rw [hy1]; exact m4 _ _
    have m7 : mulOk y2 y2 = true := by rw [hy2]; exact m5 _ _
    simp [fB_law_draw, cB_law_draw, wB_cons, idx_ref e, ha, h1, h2, put_ref e, L2.ixN, idx_ref (e2 _), m1, m2, m3, ← hy1, m6, ← hy2, m7]
    exact ⟨congrArg Prod.fst this, congrArg Prod.snd this⟩
theorem db_w (W : DrawB T n) (hr : r < st.length) (h : dk o) {m : Int} (h1 : 0 < m) (h2 : m < 1073741824) {Q : D → Sto → Prop}
    (q : ∀ x o', 0 ≤ x → x < m → dk o' → Q (.int x) (st.set r o')) : ok2 (callF T n (k + 1) "_law_draw" [.ref r, .int m] (st.set r o)) Q := by
  obtain ⟨x, o', e, a, b, c⟩ := W k st r o m hr h h1 h2
  rw [e]
  exact q x o' a b c
/-- the deck of a cell -/
theorem deckB (hT : Has T "_law_deck" fB_law_deck) {xs : List Int} {i : Nat} {Q : D → Sto → Prop} (q : ∀ (st' : Sto) (r : Nat) (o : O), r < st'.length → dk o → Q (.ref r) (st'.set r o)) : ok2 (callF T n (k + 1) "_law_deck" [.rol (xs.map .int), .int (i : Int)] st) Q := by
  have p1 : powOk 10 18 = true := by decide
  have g1 : ∀ a b c, gc st (.ref st.length) (st ++ [.lst [.int a, .int b, .int c]]) = (.ref st.length, st ++ [deckO a b c]) := fun a b c => gc_one (deck_low (a := a) (b := b) (c := c))
  have e2 : ∀ o, st ++ [o] = (st ++ [o]).set st.length o := fun o => by simp
  have fin : ∀ a b c, Q (.ref st.length) (st ++ [deckO a b c]) := fun a b c => by
    rw [e2]; exact q _ _ _ (by simp) ⟨a, b, c, rfl⟩
  have m1 : ∀ x : Int, mulOk 7919 x = true := fun x => mulOk_l (by decide) (by decide)
  have m2 : ∀ (x : Int) (b : Bool), mulOk x (if b then 1 else 0) = true := fun x b => mulOk_r (by split <;> decide) (by split <;> decide)
  refine callF_w hT rfl ?_
  by_cases hi : (i : Int) < xs.length
  · obtain ⟨y, _, ey⟩ := atI_int (ys := xs) (i := (i : Int)) (by omega) hi
    have m3 := fun x : Int => m2 x (decide ((1000000000000000000 : Int) ≤ (if 0 < y then y else 0)))
    simp [fB_law_deck, cB_law_deck, wB_cons, p1, hi, ey, g1, m1]
    simp at m3
    simp [m3]
    exact fin _ _ _
  · simp [fB_law_deck, cB_law_deck, wB_cons, p1, hi, g1, m1, show mulOk 0 0 = true by decide]
    exact fin _ _ _
def farBI (st : Sto) (r : Nat) (most : Int) (_ : Nat) (ρ : Env) (s : Sto) : Prop := ∃ (o : O) (v : Int) (r3 : Option D), dk o ∧ s = st.set r o ∧ ρ = [some (.ref r), some (.int most), some (.int v), r3]
theorem farB (W : DrawB T n) (hF : Has T "_law_far" fB_law_far) (hr : r < st.length) (h : dk o) {most : Int} (hm : 0 ≤ most) {Q : D → Sto → Prop}
    (q : ∀ x o', 0 ≤ x → x ≤ most → dk o' → Q (.int x) (st.set r o')) : ok2 (callF T n (k + 2) "_law_far" [.ref r, .int most] (st.set r o)) Q := by
  refine callF_w hF rfl ?_
  have p2 : powOk 10 6 = true := by decide
  have m1 : ∀ x : Int, mulOk x 1000000 = true := fun x => mulOk_r (by decide) (by decide)
  have e3 : rngOf [.val (.int 3)] = some ⟨rangeD 0 3, [], true⟩ := rngN (j := 3) (by decide)
  simp [fB_law_far, cB_law_far, wB_cons, e3]
  refine for_rng (farBI st r most) ?_ ?_ _ _ ⟨o, 0, none, h, rfl, rfl⟩
  · rintro ρ s ⟨o1, v, r3, h1, rfl, rfl⟩
    have hpos : 0 < most + 1 := by omega
    simp [hpos, gc_o hr h1.low (d := .int _) rfl]
    exact q _ _ (Int.emod_nonneg _ (by omega)) (by have := Int.emod_lt_of_pos v hpos; omega) h1
  · rintro i ρ s hi ⟨o1, v, r3, h1, rfl, rfl⟩
    refine ⟨_, rfl, ?_⟩
    show wB _ _ _ _ _ _
    simp [wB_cons, p2, m1]
    refine db_w W hr h1 (by decide) (by decide) fun x1 o2 a1 b1 h2 => ?_
    simp
    exact ⟨o2, _, _, h2, rfl, rfl⟩
end
end Mw

set_option Elab.async false
set_option linter.all false
set_option autoImplicit false
set_option maxRecDepth 100000
/-! PyR2: the nets of the laws of ways and of plain forms. -/
namespace Mw
open PySem
section
variable {T : Tab} {n k : Nat} {st g : Sto} {r : Nat} {o o' : O} {j : Nat} {ms : List Mt} {M : Int}
theorem begB (W : DrawB T n) (hB : Has T "_law_begin" fB_law_begin) (hr : r < st.length) (h : dk o) (hM : 30 ≤ M) (he : ∀ x ∈ ms, 0 ≤ x.t ∧ 1 ≤ x.l ∧ x.t + x.l ≤ M) (hl : ms.length < 1000000) (hj : st[j]? = some (.lst (ms.map mtD))) (hjr : j ≠ r) {w : Int} {Q : D → Sto → Prop}
    (q : ∀ x o', 0 ≤ x → x ≤ M + 2 → (w = 4 → x ≤ 30) → dk o' → Q (.int x) (st.set r o')) : ok2 (callF T n (k + 2) "_law_begin" [.ref r, .int w, .ref j] (st.set r o)) Q := by
  refine callF_w hB rfl ?_
  have hg : ∀ o, (st.set r o)[j]? = some (.lst (ms.map mtD)) := fun o => by rw [get_d hjr]; exact hj
  have hne : ∀ o, pyEq (st.set r o) (.val (.ref j)) (.tmp []) = some (decide (ms = [])) := fun o => ne_nil (hg o)
  have fin : ∀ x o', 0 ≤ x → x ≤ M + 2 → (w = 4 → x ≤ 30) → dk o' → Q (gc (st.set r o) (.int x) (st.set r o')).1 (gc (st.set r o) (.int x) (st.set r o')).2 := fun x o' h1 h2 h4 h3 => by
    rw [gc_o hr h3.low (d := .int x) rfl]; exact q x o' h1 h2 h4 h3
  have m5 : ∀ x : Int, mulOk 5 x = true := fun x => mulOk_l (by decide) (by decide)
  simp [fB_law_begin, cB_law_begin, wB_cons]
  refine db_w W hr h (by decide) (by decide) fun nr o1 a1 b1 h1 => ?_
  simp [hne]
  by_cases w3 : w = 3
  · simp [w3]
    refine db_w W hr h1 (by decide) (by decide) fun x2 o2 a2 b2 h2 => ?_
    simp [m5]
    exact fin _ _ (by omega) (by omega) (by omega) h2
  simp [w3]
  by_cases hms : ms = []
  · simp [hms]
    exact fin _ _ (by omega) (by omega) (by omega) h1
  have hpos : 0 < ms.length := List.length_pos_iff.mpr hms
  simp [hms]
  by_cases w2 : w = 2
  · simp [w2, len_ref (hg _)]
    refine db_w W hr h1 (by omega) (by omega) fun x2 o2 a2 b2 h2 => ?_
    obtain ⟨y, hy, ey⟩ := atI_map (f := mtD) (ys := ms) (i := (ms.length : Int) - 1) (by omega) (by omega)
    obtain ⟨e1, e2, e3⟩ := he y hy
    simp [idx_ref (hg _), ey, mtD]
    refine db_w W hr h2 (by decide) (by decide) fun x3 o3 a3 b3 h3 => ?_
    simp
    split <;> exact fin _ _ (by omega) (by omega) (by omega) h3
  simp [w2]
  by_cases w1 : w = 1
  · simp [w1]
    by_cases hn : 0 < nr % 3
    · simp [hn, len_ref (hg _)]
      refine db_w W hr h1 (by omega) (by omega) fun x2 o2 a2 b2 h2 => ?_
      obtain ⟨y, hy, ey⟩ := atI_map (f := mtD) (ys := ms) a2 b2
      obtain ⟨e1, e2, e3⟩ := he y hy
      simp [idx_ref (hg _), ey, mtD]
      refine db_w W hr h2 (by decide) (by decide) fun x3 o3 a3 b3 h3 => ?_
      simp
      split <;> exact fin _ _ (by omega) (by omega) (by omega) h3
    · simp [hn]
      exact fin _ _ (by omega) (by omega) (by omega) h1
  · simp [w1]
    exact fin _ _ (by omega) (by omega) (by omega) h1
def wd2 (i : Int) : Bool := decide (i = 1)
theorem atI_wd {i : Int} (h0 : 0 ≤ i) (h1 : i < 2) : L2.atI [D.str (Str.ofString "to"), D.str (Str.ofString "both")] i = some (wdD (wd2 i)) := by
  obtain rfl | rfl : i = 0 ∨ i = 1 := by omega
  · simp [wdD, wd2]
  · simp [wdD, wd2]
theorem atI_3s {a b c : Int} {i : Int} (h0 : 0 ≤ i) (h1 : i < 3) : ∃ z, z ∈ [a, b, c] ∧ L2.atI [D.int a, D.int b, D.int c] i = some (.int z) := atI_int (ys := [a, b, c]) h0 (by simp; omega)
theorem atI_3e {a b c : Int} {i : Int} (h0 : 0 ≤ i) (h1 : i < 3) : L2.atI [D.int a, D.int b, D.int c] i = some (.int (if i = 0 then a else if i = 1 then b else c)) := by
  obtain rfl | rfl | rfl : i = 0 ∨ i = 1 ∨ i = 2 := by omega
  · simp
  · simp
  · simp
theorem meetB (W : DrawB T n) (hF : Has T "_law_far" fB_law_far) (hB : Has T "_law_begin" fB_law_begin) (hT : Has T "_law_meeting" fB_law_meeting) (hr : r < st.length) (h : dk o) (hM : 30 ≤ M) {m : Nat} (hm : 2 ≤ m) (hm2 : m ≤ 1000) (hok : ∀ x ∈ ms, x.ok m) (he : ∀ x ∈ ms, x.t + x.l ≤ M) (hl : ms.length < 1000000) (hj : st[j]? = some (.lst (ms.map mtD))) (hjr : j ≠ r) {w : Int} {Q : D → Sto → Prop}
    (q : ∀ x o', Mt.ok m x → x.t + x.l ≤ (if w = 4 then 10 ^ 13 else M + 10) → dk o' → Q (mtD x) (st.set r o')) : ok2 (callF T n (k + 3) "_law_meeting" [.ref r, .int w, .int (m : Int), .ref j] (st.set r o)) Q := by
  refine callF_w hT rfl ?_
  have hg : ∀ o, (st.set r o)[j]? = some (.lst (ms.map mtD)) := fun o => by rw [get_d hjr]; exact hj
  have hne : ∀ o, pyEq (st.set r o) (.val (.ref j)) (.tmp []) = some (decide (ms = [])) := fun o => ne_nil (hg o)
  have fin : ∀ (x : Mt) o', x.ok m → x.t + x.l ≤ (if w = 4 then 10 ^ 13 else M + 10) → dk o' → Q (gc (st.set r o) (mtD x) (st.set r o')).1 (gc (st.set r o) (mtD x) (st.set r o')).2 := fun x o' h1 h2 h3 => by
    rw [gc_o hr h3.low (d := mtD x) (by simp [mtD, wdD])]; exact q x o' h1 h2 h3
  have p13 : powOk 10 13 = true := by decide
  have p12 : powOk 10 12 = true := by decide
  have m5 : mulOk 5 1000000000000 = true := by decide
  simp only [fB_law_meeting, cB_law_meeting]
  rw [wB_cons]
  refine st_cut (fun f ρ1 s1 => ∃ o', dk o' ∧ s1 = st.set r o' ∧ ((f = .nx ∧ ρ1 = [some (.ref r), some (.int w), some (.int (m : Int)), some (.ref j), none, none, none, none, none, none]) ∨ (¬w = 4 ∧ ∃ x ∈ ms, f = .rt (mtD x)))) ?_ ?_
  · simp [hne]
    by_cases w5 : w = 5
    · simp [w5]
      by_cases hms : ms = []
      · simp [hms]; exact ⟨o, h, rfl⟩
      · have hpos : 0 < ms.length := List.length_pos_iff.mpr hms
        simp [hms]
        refine db_w W hr h (by decide) (by decide) fun x1 o1 a1 b1 h1 => ?_
        simp
        by_cases hx : x1 = 0
        · simp [hx, len_ref (hg _), wB_cons]
          refine db_w W hr h1 (by omega) (by omega) fun x2 o2 a2 b2 h2 => ?_
          obtain ⟨y, hy, ey⟩ := atI_map (f := mtD) (ys := ms) a2 b2
          simp [idx_ref (hg _), ey]
          exact ⟨o2, h2, rfl, y, hy, rfl⟩
        · simp [hx]; exact ⟨o1, h1, rfl⟩
    · simp [w5]; exact ⟨o, h, rfl⟩
  rintro f ρ1 s1 ⟨o1, h1, rfl, ⟨rfl, rfl⟩ | ⟨hx5, x, hx, rfl⟩⟩
  rotate_left
  · exact fin x o1 (hok x hx) (by have := he x hx; rw [if_neg hx5]; omega) h1
  simp only
  rw [wB_cons]
  simp
  refine db_w W hr h1 (by omega) (by omega) fun x1 o2 a1 b1 h2 => ?_
  rw [wB_cons]
  refine st_cut (fun f ρ1 s1 => f = .nx ∧ s1 = st.set r o2 ∧ ∃ one : Int, 0 ≤ one ∧ one < m ∧ ρ1 = [some (.ref r), some (.int w), some (.int (m : Int)), some (.ref j), some (.int one), none, none, none, none, none]) ?_ ?_
  · simp [hne]
    by_cases w2 : w = 2
    · simp [w2]
      by_cases hms : ms = []
      · simp [hms]; exact ⟨a1, b1⟩
      · have hpos : 0 < ms.length := List.length_pos_iff.mpr hms
        have el : L2.atI (ms.map mtD) (-1) = some (mtD ms[ms.length - 1]) := atI_m1 (by rw [List.length_map, List.getElem?_map, List.getElem?_eq_getElem (by omega)]; rfl)
        obtain ⟨q1, q2, q3, q4, _⟩ := hok ms[ms.length - 1] (List.getElem_mem _)
        simp [hms, wB_cons, idx_ref (hg _), el, mtD]
        exact ⟨q3, q4⟩
    · simp [w2]; exact ⟨a1, b1⟩
  rintro f ρ1 s1 ⟨rfl, rfl, one, u1, u2, rfl⟩
  simp only
  rw [wB_cons]
  simp
  refine db_w W hr h2 (by omega) (by omega) fun x2 o3 a2 b2 h3 => ?_
  simp
  refine ⟨by omega, ?_⟩
  obtain ⟨b, eb⟩ : ∃ b, b = (one + 1 + x2) % (m : Int) := ⟨_, rfl⟩
  have hb : 0 ≤ b ∧ b < m ∧ one ≠ b := by
    refine ⟨by rw [eb]; exact Int.emod_nonneg _ (by omega), by rw [eb]; exact Int.emod_lt_of_pos _ (by omega), fun e => ?_⟩
    rw [← e] at eb
    by_cases hlt : one + 1 + x2 < m
    · rw [Int.emod_eq_of_lt (by omega) hlt] at eb; omega
    · have : (one + 1 + x2) % (m : Int) = one + 1 + x2 - m := by
        rw [← Int.sub_emod_right, Int.emod_eq_of_lt (by omega) (by omega)]
      omega
  rw [← eb]
  rw [wB_cons]
  simp
  refine db_w W hr h3 (by decide) (by decide) fun x3 o4 a3 b3 h4 => ?_
  simp [atI_wd a3 b3]
  rw [wB_cons]
  simp
  refine begB W hB hr h4 (M := M) (by omega) (fun x hx => ?_) hl hj hjr fun bg o5 a4 b4 g4 h5 => ?_
  · obtain ⟨_, _, _, _, _, q6, q7⟩ := hok x hx
    exact ⟨q6, q7, he x hx⟩
  rw [wB_cons]
  simp
  obtain ⟨c8, k1, k2, ek⟩ : ∃ c : Int, 0 < c ∧ c ≤ 8 ∧ L2.atI [D.int 8, D.int 2] (if w = 3 then 1 else 0) = some (.int c) := by
    by_cases hg : w = 3
    · exact ⟨2, by omega, by omega, by simp [hg]⟩
    · exact ⟨8, by omega, by omega, by simp [hg]⟩
  simp [ek]
  refine db_w W hr h5 k1 (by omega) fun x5 o6 a5 b5 h6 => ?_
  simp
  rw [wB_cons]
  refine st_cut (fun f ρ1 s1 => f = .nx ∧ ∃ o', dk o' ∧ s1 = st.set r o' ∧ ∃ (t l : Int) (r9 : Option D), 0 ≤ t ∧ 1 ≤ l ∧ t + l ≤ (if w = 4 then 10 ^ 13 else M + 10) ∧ ρ1 = [some (.ref r), some (.int w), some (.int (m : Int)), some (.ref j), some (.int one), some (.int b), some (wdD (wd2 x3)), some (.int t), some (.int l), r9]) ?_ ?_
  · simp
    by_cases w4 : w = 4
    · simp [w4, wB_cons]
      refine db_w W hr h6 (by decide) (by decide) fun x6 o7 a6 b6 h7 => ?_
      simp [p13, p12, m5]
      refine farB W hF hr h7 (by decide) fun f1 o8 c1 d1 h8 => ?_
      refine farB W hF hr h8 (by decide) fun f2 o9 c2 d2 h9 => ?_
      obtain ⟨t, ht⟩ : ∃ t, t = (if x6 = 0 then f1 else if x6 = 1 then bg else f2) := ⟨_, rfl⟩
      have et := atI_3e (a := f1) (b := bg) (c := f2) a6 b6
      rw [← ht] at et
      simp [et, p13, p12, m5]
      refine farB W hF hr h9 (by decide) fun f3 o10 c3 d3 h10 => ?_
      simp [p13, p12, m5]
      refine farB W hF hr h10 (by decide) fun f4 o11 c4 d4 h11 => ?_
      obtain ⟨l, hl'⟩ : ∃ l, l = (if x6 = 0 then 1 + x5 else if x6 = 1 then 1 + f3 else 1 + f4) := ⟨_, rfl⟩
      have el := atI_3e (a := 1 + x5) (b := 1 + f3) (c := 1 + f4) a6 b6
      rw [← hl'] at el
      simp [el]
      refine ⟨o11, h11, rfl, t, ?_, l, ?_, ?_, rfl, rfl⟩
      · rw [ht]; split; omega; split <;> omega
      · rw [hl']; split; omega; split <;> omega
      · have := g4 w4
        rw [ht, hl']; split; omega; split <;> omega
    · simp [w4]
      exact ⟨o6, h6, rfl, bg, by omega, 1 + x5, by omega, by omega, rfl, rfl⟩
  rintro f ρ1 s1 ⟨rfl, o7, h7, rfl, t, l, r9, v1, v2, v3, rfl⟩
  simp [wB_cons]
  exact fin ⟨wd2 x3, one, b, t, l⟩ o7 ⟨u1, u2, hb.1, hb.2.1, hb.2.2, v1, v2⟩ v3 h7
def netBI (st : Sto) (r : Nat) (least w : Int) (gr : D) (m : Nat) (c5 : D) (i : Nat) (ρ : Env) (s : Sto) : Prop :=
  ∃ (ms : List Mt) (g : Sto) (o : O) (r7 : Option D), ms.length = i ∧ (∀ x ∈ ms, x.ok m) ∧ (∀ x ∈ ms, x.t + x.l ≤ (if w = 4 then 10 ^ 13 else 30 + 10 * (i : Int))) ∧ dk o ∧ s = (st ++ (.lst (ms.map mtD) :: g)).set r o ∧
    ρ = [some (.ref r), some (.int least), some (.int w), some gr, some (.int m), some c5, some (.ref st.length), r7]
theorem netB (W : DrawB T n) (hF : Has T "_law_far" fB_law_far) (hB : Has T "_law_begin" fB_law_begin) (hT : Has T "_law_meeting" fB_law_meeting) (hN : Has T "_law_net" fB_law_net) (hr : r < st.length) (h : dk o) {least : Int} (h0 : 1 ≤ least) (hm : least ≤ 2) {Q : D → Sto → Prop}
    (q : ∀ (m : Nat) ms o', NetOk (10 ^ 13) m ms → least ≤ m → dk o' → Q (netD m ms) (st.set r o')) : ok2 (callF T n (k + 4) "_law_net" [.ref r, .int least] (st.set r o)) Q := by
  refine callF_w hN rfl ?_
  simp [fB_law_net, cB_law_net, wB_cons]
  refine db_w W hr h (by decide) (by decide) fun x0 o0 a0 b0 hh0 => ?_
  obtain ⟨w, hw, ew⟩ := atI_int (ys := [0, 1, 2, 3, 4, 5, 1, 2]) (i := x0) a0 (by simp; omega)
  have ew' : L2.atI [D.int 0, D.int 1, D.int 2, D.int 3, D.int 4, D.int 5, D.int 1, D.int 2] x0 = some (.int w) := ew
  simp [ew']
  refine db_w W hr hh0 (by decide) (by decide) fun gr o2 a2 b2 h2 => ?_
  simp
  refine db_w W hr h2 (by omega) (by omega) fun x3 o3 a3 b3 h3 => ?_
  obtain ⟨m, hm1, hm2, em⟩ : ∃ m : Nat, least ≤ m ∧ m ≤ 10 ∧ L2.atI [D.int (least + x3), D.int 10] (if gr = 5 then 1 else 0) = some (.int (m : Int)) := by
    by_cases hg : gr = 5
    · exact ⟨10, by omega, by omega, by simp [hg]⟩
    · exact ⟨(least + x3).toNat, by omega, by omega, by simp [hg]; omega⟩
  simp [em]
  refine db_w W hr h3 (by decide) (by decide) fun x4 o4 a4 b4 h4 => ?_
  refine db_w W hr h4 (by decide) (by decide) fun x5 o5 a5 b5 h5 => ?_
  obtain ⟨c5, hc1, hc2, ec⟩ : ∃ c : Int, 0 ≤ c ∧ c ≤ 40 ∧ L2.atI [D.int x4, D.int (40 - x5)] (if gr = 5 then 1 else 0) = some (.int c) := by
    by_cases hg : gr = 5
    · exact ⟨40 - x5, by omega, by omega, by simp [hg]⟩
    · exact ⟨x4, by omega, by omega, by simp [hg]⟩
  simp [ec, pull hr]
  obtain ⟨cnt, k1, k3, ek⟩ : ∃ cnt : Nat, cnt ≤ 40 ∧ (0 < cnt → 2 ≤ m) ∧ c5 * (if 1 < (m : Int) then 1 else 0) = (cnt : Int) := by
    by_cases h1 : 1 < (m : Int)
    · exact ⟨c5.toNat, by omega, fun _ => by omega, by simp [h1]; omega⟩
    · exact ⟨0, by omega, by omega, by simp [h1]⟩
  have mk : mulOk c5 (if 1 < (m : Int) then 1 else 0) = true := mulOk_r (by split <;> decide) (by split <;> decide)
  rw [ek]
  simp [mk, rngN (show cnt < 2 ^ 62 by omega)]
  refine for_rng (netBI st r least w (.int (if gr = 5 then 1 else 0)) m (.int c5)) ?_ ?_ _ _ ⟨[], [], o5, none, rfl, by simp, by simp, h5, rfl, rfl⟩
  · rintro ρ s ⟨ms, g, o', r7, e1, e2, e3, e4, rfl, rfl⟩
    simp [tup_ref (getd0 (o := o') (g := .lst (ms.map mtD) :: g) hr)]
    have hd : (D.tup [.int (m : Int), .tup (ms.map mtD)]).low st.length = true := by simp [lowL_mt]
    rw [gc_oa hr e4.low hd]
    exact q m ms o' ⟨by omega, hm2, e2, by omega, fun x hx => by have := e3 x hx; split at this <;> omega⟩ hm1 e4
  · rintro i ρ s hi ⟨ms, g, o', r7, e1, e2, e3, e4, rfl, rfl⟩
    refine ⟨_, rfl, ?_⟩
    have h2m := k3 (by omega)
    have hr2 : r < (st ++ (.lst (ms.map mtD) :: g)).length := by simp; omega
    show wB _ _ _ _ _ _
    simp [wB_cons]
    refine meetB (k := k) W hF hB hT hr2 e4 (ms := ms) (M := if w = 4 then 10 ^ 13 else 30 + 10 * (i : Int)) (by split <;> omega) h2m (by omega) e2 e3 (by omega) (by simp) (by omega) fun x o2 q1 q2 q3 => ?_
    have g0 := fun o => getd0 (o := o) (g := .lst (ms.map mtD) :: g) hr
    refine ⟨by rw [kdw_ref (g0 _), kdw_ref (g0 _)], ?_⟩
    rw [app_ref (g0 _) (by simp; omega)]
    simp [setd0 hr]
    refine ⟨ms ++ [x], g, o2, _, by simp [e1], fun y hy => ?_, fun y hy => ?_, q3, by simp, rfl⟩
    · rcases List.mem_append.mp hy with hy | hy
      · exact e2 y hy
      · rw [List.mem_singleton.mp hy]; exact q1
    · rcases List.mem_append.mp hy with hy | hy
      · have := e3 y hy; split at this <;> split <;> omega
      · rw [List.mem_singleton.mp hy]; split at q2 <;> split <;> omega
theorem momB (W : DrawB T n) (hM : Has T "_law_moment" fB_law_moment) (hr : r < st.length) (h : dk o) {m : Nat} (hl : ms.length < 1000000) (hok : ∀ x ∈ ms, 0 ≤ x.t ∧ 1 ≤ x.l ∧ x.t + x.l ≤ 10 ^ 16) {Q : D → Sto → Prop}
    (q : ∀ x o', 0 ≤ x → x ≤ 10 ^ 17 → dk o' → Q (.int x) (st.set r o')) : ok2 (callF T n (k + 2) "_law_moment" [.ref r, netD m ms] (st.set r o)) Q := by
  refine callF_w hM rfl ?_
  have fin : ∀ x o', 0 ≤ x → x ≤ 10 ^ 17 → dk o' → Q (gc (st.set r o) (.int x) (st.set r o')).1 (gc (st.set r o) (.int x) (st.set r o')).2 := fun x o' h1 h2 h3 => by
    rw [gc_o hr h3.low (d := .int x) rfl]; exact q x o' h1 h2 h3
  have p3 : powOk 10 13 = true := by decide
  have hE : ∀ s : Sto, pyEq s (.val (.tup (ms.map mtD))) (.val (.tup [])) = some (decide (ms = [])) := fun s => by
    rw [pyEq_val (by simpa [pl] using plL_mt) rfl (by simpa [nb] using nbL_mt) rfl]
    simp
  simp [fB_law_moment, cB_law_moment, wB_cons, netD]
  refine db_w W hr h (by decide) (by decide) fun w o1 a1 b1 h1 => ?_
  simp [hE]
  have one : ∀ o1, dk o1 → ok2 (callF T n (k + 1) "_law_draw" [.ref r, .int 40] (st.set r o1)) (fun d s2 => powOk 10 13 = true ∧ ok2 (callF T n (k + 1) "_law_draw" [.ref r, .int 3] s2) fun e s3 => okO (idxApp s3 (.tmp [.int 0, d, .int (10 ^ 13)]) (.val e)) fun z =>
      Q (gc (st.set r o) (mat z s3).1 (mat z s3).2).1 (gc (st.set r o) (mat z s3).1 (mat z s3).2).2) := fun o1 h1 => by
    refine db_w W hr h1 (by decide) (by decide) fun x2 o2 a2 b2 h2 => ⟨p3, ?_⟩
    refine db_w W hr h2 (by decide) (by decide) fun x3 o3 a3 b3 h3 => ?_
    obtain ⟨z, hz, ez⟩ := atI_3s (a := 0) (b := x2) (c := 10000000000000) a3 b3
    simp at hz
    simp [ez]
    exact fin _ _ (by omega) (by omega) h3
  have one' := one o1 h1
  simp at one'
  by_cases hms : ms = []
  · simp [hms]
    exact one'
  · simp [hms]
    by_cases hw : w = 0
    · simp [hw]
      exact one'
    · have hpos : 0 < ms.length := List.length_pos_iff.mpr hms
      simp [hw]
      refine db_w W hr h1 (by omega) (by omega) fun x2 o2 a2 b2 h2 => ?_
      obtain ⟨y, hy, ey⟩ := atI_map (f := mtD) (ys := ms) a2 b2
      obtain ⟨y1, y2, y3⟩ := hok y hy
      simp [ey, mtD]
      obtain ⟨z, hz, ez⟩ := atI_int (ys := [y.t, y.t + 1, y.t - 1, y.t + y.l, y.t + y.l - 1]) (i := w - 1) (by omega) (by simp; omega)
      simp at ez
      simp [ez]
      simp at hz
      split <;> exact fin _ _ (by omega) (by omega) h2
end
end Mw

set_option Elab.async false
set_option linter.all false
set_option autoImplicit false
set_option maxRecDepth 100000
/-! PyN8: papers of the earliest, read. -/
namespace Mw
open PySem
section
variable {T : Tab} {n k : Nat} {st : Sto}
theorem sFrom_u {ms : List Mt} {i : Nat} {p : Int} {s : Sp} (h : sFrom ms i p = some s) : ∃ x, ms[i]? = some x ∧ s.t = x.t ∧ s.u = x.t + x.l ∧ ((s.a = x.a ∧ s.b = x.b) ∨ (x.bo = true ∧ s.a = x.b ∧ s.b = x.a)) := by
  unfold sFrom at h
  split at h
  · rename_i x hx
    split at h
    · cases h; exact ⟨x, hx, rfl, rfl, .inl ⟨rfl, rfl⟩⟩
    · split at h
      · rename_i e; cases h; exact ⟨x, hx, rfl, rfl, .inr ⟨e.1, rfl, rfl⟩⟩
      · cases h
  · cases h
theorem last_of : ∀ {ss : List Sp} {p t : Int} {ms : List Mt}, Chn ms p ss → ss ≠ [] → ∃ s, (ss.map fun s => D.int s.k)[(ss.map fun s => D.int s.k).length - 1]? = some (.int s.k) ∧ endT t ss = s.u ∧ ∃ q, sFrom ms s.k q = some s
  | [], _, _, _, _, h => absurd rfl h
  | [s], p, t, ms, h, _ => ⟨s, rfl, rfl, p, h.1⟩
  | s :: s' :: ss, p, t, ms, h, _ => by
    obtain ⟨z, e1, e2, e3⟩ := last_of (t := s.u) h.2 (by simp)
    refine ⟨z, ?_, e2, e3⟩
    simpa using e1
theorem comes_at_ok (hT : Has T "comes_at" fcomes_at) {m : Int} {ms : List Mt} {p t : Int} {ss : List Sp} (h : Chn ms p ss) :
    callF T n (k + 1) "comes_at" [netD m ms, .int t, .tup (ss.map fun s => .int s.k)] st = some (.int (endT t ss), st) := by
  refine callF_eq (callF_w hT rfl ?_)
  have hpl : ∀ s : Sto, pyEq s (.val (.tup (ss.map fun s => D.int s.k))) (.val (.tup [])) = some (decide (ss = [])) := fun s => by
    have e : (ss.map fun s => D.int s.k) = (ss.map fun s => (s.k : Int)).map D.int := by simp
    rw [e, pyEq_val (by show plL 59 _ = true; exact pl_ints 59 _) rfl (by simp only [nb]; rw [nbL_all]; intro x hx; obtain ⟨y, _, rfl⟩ := List.mem_map.mp hx; rfl) rfl]
    simp
  simp [fcomes_at, ccomes_at, wB_cons, hpl]
  by_cases hs : ss = []
  · subst hs; simp [endT]
  · obtain ⟨s, e1, e2, q, e3⟩ := last_of (t := t) h hs
    obtain ⟨x, hx, _, hu, _⟩ := sFrom_u e3
    have ei : L2.atI (ms.map mtD) (s.k : Int) = some (mtD x) := atI_n (by rw [List.getElem?_map, hx]; rfl)
    simp [hs, idx_net1, atI_m1 e1, ei, mtD]
    rw [e2, hu]
theorem strEq {a b : Str} (h1 : stOk a = true) (h2 : stOk b = true) : pyEq st (.val (.str a)) (.val (.str b)) = some (decide (a = b)) := pyEq_str h1 h2
theorem isTyD_str {d : D} (h : tyOk st d = true) : isTy st .str (.val d) = some (match d with | .str _ => true | _ => false) := by
  cases d with
  | ref n =>
    simp only [tyOk] at h
    rcases e : st[n]? with _ | (xs | kvs | ⟨lk, kvs⟩ | ⟨c, fs⟩)
    · rw [e] at h; cases h
    · simp only [isTy, e]; rfl
    · simp only [isTy, e]; rfl
    · rw [e] at h; cases h
    · rw [e] at h; cases h
  | _ => rfl
def wordB (x : D) (w : Str) (sz : Int) : Bool := match x with
  | .tup (.str v :: r) => decide ((r.length : Int) + 1 = sz) && decide (v = w)
  | _ => false
theorem is_word_ok (hT : Has T "is_word" fis_word) {x : D} {w : Str} {sz : Int} (hx : okV st x = true) (hw : stOk w = true) (hsz : 1 ≤ sz) : callF T n (k + 1) "is_word" [x, .str w, .int sz] st = some (.bl (wordB x w sz), st) := by
  refine callF_eq (callF_w hT rfl ?_)
  simp [fis_word, cis_word, wB_cons, isTyD_tuple (okV_ty hx)]
  cases x with
  | tup xs =>
    cases xs with
    | nil =>
      have : ¬ (0 : Int) = sz := by omega
      simp [wordB, this]
    | cons y ys =>
      simp only [okV, okVL, Bool.and_eq_true] at hx
      by_cases hl : (ys.length : Int) + 1 = sz
      · simp [hl, isTyD_str (okV_ty hx.1)]
        cases y with
        | str v => simp [wordB, hl, strEq (show stOk v = true from hx.1) hw]
        | _ => simp [wordB]
      · simp [hl]
        cases y <;> simp [wordB, hl]
  | _ => simp [wordB]
structure HWay (T : Tab) : Prop where
  whole : Has T "is_whole" fis_whole
  sfrom : Has T "step_from" fstep_from
  nexts : Has T "next_step" fnext_step
  isway : Has T "is_way" fis_way
  places : Has T "places_on" fplaces_on
  comes : Has T "comes_at" fcomes_at
def leadsB (ms : List Mt) (p t q : Int) (x : D) : Bool := match x with
  | .tup ds => match wayGo ms p t ds with
    | some ss => decide (endP p ss = q)
    | none => false
  | _ => false
theorem wayGo_len {ms : List Mt} : ∀ {ds : List D} {p t : Int} {ss : List Sp}, wayGo ms p t ds = some ss → ds.length = ss.length := fun h => by
  rw [(wayGo_some h).1, List.length_map]
theorem comes_to_ok (H : HWay T) (hT : Has T "comes_to" fcomes_to) {m : Int} {ms : List Mt} {p t q : Int} {x : D} (hx : thOk st x = true) (hl : ∀ ds, x = .tup ds → ds.length ≤ 1000000) :
    callF T n (k + 4) "comes_to" [netD m ms, .int p, .int t, .int q, x] st = some (.bl (leadsB ms p t q x), st) := by
  refine callF_eq (callF_w hT rfl ?_)
  have h1 := is_way_ok (n := n) (k := k) H.whole H.sfrom H.nexts H.isway (m := m) (ms := ms) (p := p) (t := t) hx
  simp [fcomes_to, ccomes_to, wB_cons, h1]
  cases x with
  | tup ds =>
    by_cases hs : (wayGo ms p t ds).isSome = true
    rotate_left
    · have hw : wayGo ms p t ds = none := by simpa using hs
      simp [isWayB, leadsB, hw]
    · obtain ⟨ss, hw⟩ := Option.isSome_iff_exists.mp hs
      obtain ⟨e, hc⟩ := wayGo_some hw
      have h2 := places_on_ok (n := n) (k := k + 1) (st := st) H.sfrom H.places (m := m) (ms := ms) (p := p) (ss := ss) (by rw [← wayGo_len hw]; exact hl ds rfl) hc
      rw [← e] at h2
      have h3 := endP_last ss p
      simp only [List.map_cons, List.map_map] at h2 h3
      simp [isWayB, leadsB, hw, h2, h3]
  | _ => simp [isWayB, leadsB]
def markAt (x : D) (q : Int) : Option Int := match x with
  | .tup xs => match marksOf xs with
    | some l => tf l q
    | none => none
  | _ => none
def endsB (ms : List Mt) (p t : Int) (x : D) (o : Option Int) : Bool := match x with
  | .tup ds => match wayGo ms p t ds with
    | some ss => decide (o = some (endT t ss))
    | none => false
  | _ => false
def earlyB (S : List Sp) (m : Nat) (ms : List Mt) (p t q : Int) (x : D) : Bool := match x with
  | .tup [.str w, f] => decide (w = Str.ofString "never") && (floorD S m p t f && decide (markAt f q = none))
  | .tup [.str w, y, f] => decide (w = Str.ofString "comes") && (floorD S m p t f && (leadsB ms p t q y && endsB ms p t y (markAt f q)))
  | _ => false
theorem floorD_some {S : List Sp} {m : Nat} {p t : Int} {x : D} (h : floorD S m p t x = true) : ∃ l : List (Option Int), l.length = m ∧ x = .tup (l.map oiD) := by
  cases x with
  | tup xs =>
    simp only [floorD] at h
    by_cases hl : xs.length = m
    · rw [if_pos hl] at h
      cases hm : marksOf xs with
      | none => rw [hm] at h; cases h
      | some l =>
        have e := marks_eq hm
        subst e
        exact ⟨l, by simpa using hl, rfl⟩
    · rw [if_neg hl] at h; cases h
  | _ => cases h
theorem markAt_oi {l : List (Option Int)} {q : Int} : markAt (.tup (l.map oiD)) q = tf l q := by simp [markAt, marks_map]
theorem oi_eq {a : Int} {o : Option Int} : pyEq st (.val (.int a)) (.val (oiD o)) = some (decide (o = some a)) := by
  cases o with
  | none => rw [pyEq_val rfl rfl rfl rfl]; simp [oiD]
  | some b =>
    simp [oiD]
    exact eq_comm
structure HEp (T : Tab) : Prop where
  word : Has T "is_word" fis_word
  way : HWay T
  cto : Has T "comes_to" fcomes_to
  fl : HFl T
  sof : Has T "steps_of" fsteps_of
  fh : Has T "floor_holds" ffloor_holds
  eph : Has T "early_paper_holds" fearly_paper_holds
theorem early_holds_ok (H : HEp T) {m : Nat} {ms : List Mt} (hl : ms.length ≤ 1000000) {p t q : Int} (hp : 0 ≤ p ∧ p.toNat < m) (hq : 0 ≤ q ∧ q.toNat < m) (hok : ∀ x ∈ ms, x.ok m) {x : D} (hx : okV st x = true) (hlen : ∀ w ds f, x = .tup [w, .tup ds, f] → ds.length ≤ 1000000) :
    callF T n (k + 5) "early_paper_holds" [netD m ms, .int p, .int t, .int q, x] st = some (.bl (earlyB (stepsF 0 ms) m ms p t q x), st) := by
  refine callF_eq (callF_w H.eph rfl ?_)
  have w1 : stOk (Str.ofString "never") = true := by decide +kernel
  have w2 : stOk (Str.ofString "comes") = true := by decide +kernel
  have fh : ∀ f : D, okV st f = true → callF T n (k + 4) "floor_holds" [netD m ms, .int p, .int t, f] st = some (.bl (floorD (stepsF 0 ms) m p t f), st) := fun f hf => floor_holds_ok H.fl H.sof H.fh hl hp hok (okV_th hf)
  have ix : ∀ l : List (Option Int), l.length = m → L2.atI (l.map oiD) q = some (oiD (tf l q)) := fun l h => idx_oi hq.1 (by rw [h]; exact hq.2)
  simp [fearly_paper_holds, cearly_paper_holds, wB_cons, is_word_ok (k := k + 3) H.word hx w1 (by decide : (1 : Int) ≤ 2), is_word_ok (k := k + 3) H.word hx w2 (by decide : (1 : Int) ≤ 3)]
  have hnever : wordB x (Str.ofString "never") 2 = true → ∃ f, x = .tup [.str (Str.ofString "never"), f] := fun h => by
    unfold wordB at h
    split at h
    · rename_i v r
      simp only [Bool.and_eq_true, decide_eq_true_eq] at h
      obtain ⟨h1, rfl⟩ := h
      match r, h1 with
      | [f], _ => exact ⟨f, rfl⟩
      | [], h1 => simp at h1
      | _ :: _ :: _, h1 => simp at h1; omega
    · cases h
  have hcomes : wordB x (Str.ofString "comes") 3 = true → ∃ y f, x = .tup [.str (Str.ofString "comes"), y, f] := fun h => by
    unfold wordB at h
    split at h
    · rename_i v r
      simp only [Bool.and_eq_true, decide_eq_true_eq] at h
      obtain ⟨h1, rfl⟩ := h
      match r, h1 with
      | [y, f], _ => exact ⟨y, f, rfl⟩
      | [], h1 => simp at h1
      | [_], h1 => simp at h1
      | _ :: _ :: _ :: _, h1 => simp at h1; omega
    · cases h
  cases hn : wordB x (Str.ofString "never") 2 with
  | true =>
    obtain ⟨f, rfl⟩ := hnever hn
    simp only [okV, okVL, Bool.and_eq_true] at hx
    have e1 : earlyB (stepsF 0 ms) m ms p t q (.tup [.str (Str.ofString "never"), f]) = (floorD (stepsF 0 ms) m p t f && decide (markAt f q = none)) := by simp [earlyB]
    rw [e1]
    simp [fh f hx.2.1]
    cases hf : floorD (stepsF 0 ms) m p t f with
    | false => simp
    | true =>
      obtain ⟨l, hl2, rfl⟩ := floorD_some hf
      simp [ix l hl2, markAt_oi]
      cases tf l q <;> simp
  | false =>
    simp
    cases hc : wordB x (Str.ofString "comes") 3 with
    | false =>
      have e1 : earlyB (stepsF 0 ms) m ms p t q x = false := by
        unfold earlyB
        split
        · rename_i w f
          simp only [wordB, Bool.and_eq_false_iff, decide_eq_false_iff_not] at hn
          have : ¬ w = Str.ofString "never" := by
            rcases hn with h | h
            · simp at h
            · exact h
          simp [this]
        · rename_i w y f
          simp only [wordB, Bool.and_eq_false_iff, decide_eq_false_iff_not] at hc
          have : ¬ w = Str.ofString "comes" := by
            rcases hc with h | h
            · simp at h
            · exact h
          simp [this]
        · rfl
      simp [e1]
    | true =>
      obtain ⟨y, f, rfl⟩ := hcomes hc
      simp only [okV, okVL, Bool.and_eq_true] at hx
      have e1 : earlyB (stepsF 0 ms) m ms p t q (.tup [.str (Str.ofString "comes"), y, f]) = (floorD (stepsF 0 ms) m p t f && (leadsB ms p t q y && endsB ms p t y (markAt f q))) := by simp [earlyB]
      rw [e1]
      simp [fh f hx.2.2.1]
      cases hf : floorD (stepsF 0 ms) m p t f with
      | false => simp
      | true =>
        obtain ⟨l, hl2, rfl⟩ := floorD_some hf
        have hct := comes_to_ok (n := n) (k := k) H.way H.cto (m := m) (ms := ms) (p := p) (t := t) (q := q) (okV_th hx.2.1) (fun ds e => hlen _ ds _ (by rw [e]))
        simp [hct]
        cases hld : leadsB ms p t q y with
        | false => simp
        | true =>
          unfold leadsB at hld
          split at hld
          · rename_i ds
            split at hld
            · rename_i ss hw
              obtain ⟨e, hch⟩ := wayGo_some hw
              have hca := comes_at_ok (n := n) (k := k + 3) (st := st) H.way.comes (m := m) (t := t) hch
              rw [← e] at hca
              simp [hca, ix l hl2, oi_eq, endsB, hw, markAt_oi]
            · cases hld
          · cases hld
end
end Mw

set_option Elab.async false
set_option linter.all false
set_option autoImplicit false
set_option maxRecDepth 100000
/-! PyR3: ways drawn; waits. -/
namespace Mw
open PySem
def cwaits_on : CSs := (.cons (.asg (.nm 3) (.lst .nil)) (.cons (.asg (.nm 4) (.var 1)) (.cons (.for (.nm 5) (.ex (.var 2)) (.cons (.asg (.tp (.cons (.nm 6) (.cons (.nm 7) (.cons (.nm 8) (.cons (.nm 9) (.cons (.nm 10) .nil)))))) (.idx (.idx (.var 0) (.cst (.int 1))) (.var 5))) (.cons (.expr (.mt .append (.var 3) (.cons (.bin .sub (.var 9) (.var 4)) .nil))) (.cons (.asg (.nm 4) (.bin .add (.var 9) (.var 10))) .nil)))) (.cons (.ret (.bi .tuple (.cons (.var 3) .nil))) .nil))))
def fwaits_on : Fd := ⟨3, 11, cwaits_on⟩
def o3D : Option Sp → D
  | none => .non
  | some s => .tup [.int s.b, .int s.t, .int s.u]
def waitsF : Int → List Sp → List Int
  | _, [] => []
  | t, s :: ss => (s.t - t) :: waitsF s.u ss
section
variable {T : Tab} {n k : Nat} {st g : Sto} {r : Nat} {o o' : O} {j : Nat} {ms : List Mt} {m : Int}
theorem stepB_ok (hT : Has T "_law_step" fB_law_step) {i : Nat} (hi : i < ms.length) {p : Int} : callF T n (k + 1) "_law_step" [netD m ms, .int i, .int p] st = some (o3D (sFrom ms i p), st) := by
  refine callF_eq (callF_w hT rfl ?_)
  have e : ms[i]? = some ms[i] := List.getElem?_eq_getElem hi
  have ei : L2.atI (ms.map mtD) (i : Int) = some (mtD ms[i]) := atI_n (by rw [List.getElem?_map, e]; rfl)
  have es : sFrom ms i p = if p = ms[i].a then some ⟨i, ms[i].a, ms[i].b, ms[i].t, ms[i].t + ms[i].l⟩ else if ms[i].bo = true ∧ p = ms[i].b then some ⟨i, ms[i].b, ms[i].a, ms[i].t, ms[i].t + ms[i].l⟩ else none := by
    unfold sFrom; rw [e]
  simp [fB_law_step, cB_law_step, wB_cons, idx_net1, ei]
  rw [es]
  simp [mtD, wd_both]
  by_cases h1 : p = ms[i].a
  · simp [h1, o3D]
  · simp [h1]
    cases hb : ms[i].bo with
    | false => simp [o3D]
    | true =>
      simp
      by_cases h2 : p = ms[i].b <;> simp [h2, o3D]
def wtI (ms : List Mt) (t : Int) (ss0 : List Sp) (a b c : D) (st0 : Sto) (ss : List Sp) (ρ : Env) (s : Sto) : Prop :=
  ∃ (done : List Int) (now p : Int) (r5 r6 r7 r8 r9 r10 : Option D), done ++ waitsF now ss = waitsF t ss0 ∧ Chn ms p ss ∧ done.length + ss.length ≤ 1000000 ∧ s = st0 ++ [.lst (done.map D.int)] ∧ ρ = [some a, some b, some c, some (.ref st0.length), some (.int now), r5, r6, r7, r8, r9, r10]
theorem waits_on_ok (hT : Has T "waits_on" fwaits_on) {p t : Int} {ss : List Sp} (hl : ss.length ≤ 1000000) (h : Chn ms p ss) :
    callF T n (k + 1) "waits_on" [netD m ms, .int t, .tup (ss.map fun s => .int s.k)] st = some (.tup ((waitsF t ss).map D.int), st) := by
  refine callF_eq (callF_w hT rfl ?_)
  simp [fwaits_on, cwaits_on, wB_cons]
  refine for_map (fun s : Sp => D.int s.k) (wtI ms t ss (netD m ms) (.int t) (.tup (ss.map fun s => .int s.k)) st) ?_ ?_ ss _ _ ⟨[], t, p, none, none, none, none, none, none, rfl, h, by simpa using hl, rfl, rfl⟩
  · rintro ρ s ⟨done, now, p', r5, r6, r7, r8, r9, r10, e, _, _, rfl, rfl⟩
    simp [waitsF] at e
    subst e
    refine ⟨rfl, ?_⟩
    have hlow : D.lowL st.length ((waitsF t ss).map D.int) = true := by
      rw [lowL_all]; intro x hx; obtain ⟨y, _, rfl⟩ := List.mem_map.mp hx; rfl
    simp
    rw [tup_ref get_last]
    simp [gc_app, hlow]
  · rintro z zs ρ s ⟨done, now, p', r5, r6, r7, r8, r9, r10, e, hc, hd, rfl, rfl⟩
    refine ⟨rfl, _, rfl, ?_⟩
    obtain ⟨q1, q2⟩ := hc
    obtain ⟨x, hx, ht, hu, _⟩ := sFrom_u q1
    have ei : L2.atI (ms.map mtD) (z.k : Int) = some (mtD x) := atI_n (by rw [List.getElem?_map, hx]; rfl)
    show wB _ _ _ _ _ _
    simp at hd
    simp [wB_cons, idx_net1, ei, mtD]
    have hap := app_ref (st := st ++ [.lst (done.map D.int)]) (r := .val (.int (x.t - now))) get_last (by simp; omega)
    simp [hap]
    refine ⟨done ++ [x.t - now], _, _, _, _, _, _, _, _, ?_, q2, by simp; omega, by simp, rfl⟩
    rw [← e]
    simp [waitsF, ht, hu]
/-! ### a way drawn -/
def prD (x : Int × Nat) : D := .tup [.int x.1, .int x.2]
def gnI (st : Sto) (r : Nat) (o : O) (g : Sto) (ms : List Mt) (p now : Int) (a b d e f : D) (i : Nat) (ρ : Env) (s : Sto) : Prop :=
  ∃ (L : List (Int × Nat)) (r8 r9 r10 r11 : Option D), L.length ≤ i ∧ (∀ x ∈ L, ∃ s, sFrom ms x.2 p = some s ∧ now ≤ s.t ∧ x.1 = s.t) ∧ s = (st ++ (g ++ [O.lst (L.map prD)])).set r o ∧
    ρ = [some a, some b, some (.int p), some d, some e, some f, some (.int now), some (.ref (st.length + g.length)), r8, r9, r10, r11]
def goI' (st : Sto) (r : Nat) (ms : List Mt) (p0 t0 most : Int) (a b d : D) (j : Nat) (ρ : Env) (s : Sto) : Prop :=
  ∃ (o : O) (g : Sto) (ss : List Sp) (p now : Int) (r7 r8 r9 r10 r11 : Option D), dk o ∧ Chn ms p0 ss ∧ wayGo ms p0 t0 (ss.map fun s => .int s.k) = some ss ∧ p = endP p0 ss ∧ now = endT t0 ss ∧ (ss.length : Int) + j = most ∧ s = (st ++ g).set r o ∧
    ρ = [some a, some b, some (.int p), some d, some (.int most), some (.tup (ss.map fun s => .int s.k)), some (.int now), r7, r8, r9, r10, r11]
theorem endT_snoc {s : Sp} : ∀ (l : List Sp) (t : Int), endT t (l ++ [s]) = s.u
  | [], _ => rfl
  | x :: l, _ => endT_snoc l x.u
theorem wayGo_app {ss' : List Sp} {ds' : List D} : ∀ {ss : List Sp} {ds : List D} {p t : Int}, wayGo ms p t ds = some ss → wayGo ms (endP p ss) (endT t ss) ds' = some ss' → wayGo ms p t (ds ++ ds') = some (ss ++ ss')
  | ss, [], p, t, h, h' => by cases h; exact h'
  | ss, d :: ds, p, t, h, h' => by
    simp only [wayGo, List.cons_append] at h ⊢
    cases hd : nextS ms p t d with
    | none => rw [hd] at h; cases h
    | some s =>
      rw [hd] at h
      simp only [Option.map_eq_some_iff] at h
      obtain ⟨l, h1, rfl⟩ := h
      simp only [endP, endT] at h'
      simp [wayGo_app h1 h']
theorem nextS_of {p t : Int} {i : Nat} {s : Sp} (h : sFrom ms i p = some s) (ht : t ≤ s.t) : nextS ms p t (.int (i : Int)) = some s := by
  have := sFrom_lt h
  unfold nextS
  have e : ((i : Int)).toNat = i := Int.toNat_natCast i
  simp only [e, h]
  rw [if_pos ⟨by omega, by omega⟩, if_neg (by omega)]
theorem goneB (W : DrawB T n) (hS : Has T "_law_step" fB_law_step) (hT : Has T "_law_gone" fB_law_gone) (hn : 1000 < n) (hr : r < st.length) (h : dk o) (hl : ms.length ≤ 10000) {p t most : Int} (h0 : 0 ≤ most) (h1 : most ≤ 900) {Q : D → Sto → Prop}
    (q : ∀ ss o', wayGo ms p t (ss.map fun s => .int s.k) = some ss → (ss.length : Int) ≤ most → dk o' → Q (.tup (ss.map fun s => .int s.k)) (st.set r o')) :
    ok2 (callF T n (k + 2) "_law_gone" [.ref r, netD m ms, .int p, .int t, .int most] (st.set r o)) Q := by
  refine callF_w hT rfl ?_
  have fin : ∀ (ss : List Sp) (g : Sto) o', wayGo ms p t (ss.map fun s => .int s.k) = some ss → (ss.length : Int) ≤ most → dk o' → Q (gc (st.set r o) (.tup (ss.map fun s => .int s.k)) ((st ++ g).set r o')).1 (gc (st.set r o) (.tup (ss.map fun s => .int s.k)) ((st ++ g).set r o')).2 := fun ss g o' h1 h2 h3 => by
    have hlow : (D.tup (ss.map fun s => D.int s.k)).low st.length = true := by
      rw [low_tup, lowL_all]; intro x hx; obtain ⟨y, _, rfl⟩ := List.mem_map.mp hx; rfl
    rw [gc_oa hr h3.low hlow]; exact q ss o' h1 h2 h3
  simp [fB_law_gone, cB_law_gone, wB_cons]
  refine while_w (goI' st r ms p t most (.ref r) (netD m ms) (.int t)) ?_ n most.toNat _ _ (by omega) ⟨o, [], [], p, t, none, none, none, none, none, h, trivial, rfl, rfl, rfl, by simp; omega, by simp, rfl⟩
  rintro j ρ s ⟨o1, g, ss, p', now, r7, r8, r9, r10, r11, d1, d2, d3, rfl, rfl, d6, rfl, rfl⟩
  refine ⟨decide ((ss.length : Int) < most), by simp [evT, ev, evR], fun hf => ?_, fun ht => ?_⟩
  · simp
    exact fin ss g o1 d3 (by omega) d1
  · have hlt : (ss.length : Int) < most := by simpa using ht
    have hr2 : ∀ g' : Sto, r < (st ++ g').length := fun g' => by simp; omega
    show wB _ _ _ _ _ _
    rw [wB_cons]
    simp [pull (hr2 g)]
    rw [wB_cons]
    simp [idx_net1, rngN (show ms.length < 2 ^ 62 by omega)]
    refine for_rng (gnI st r o1 g ms (endP p ss) (endT t ss) (.ref r) (netD m ms) (.int t) (.int most) (.tup (ss.map fun s => .int s.k))) ?_ ?_ _ _ ⟨[], r8, r9, r10, r11, by simp, by simp, by simp [List.append_assoc], by simp⟩
    · rintro ρ s ⟨L, r8, r9, r10, r11, l1, l2, rfl, rfl⟩
      have gL : ∀ o, ((st ++ (g ++ [O.lst (L.map prD)])).set r o)[st.length + g.length]? = some (.lst (L.map prD)) := fun o => by
        have := getd0 (o := o) (g := [O.lst (L.map prD)]) (hr2 g)
        simpa using this
      have hne : ∀ o, pyEq ((st ++ (g ++ [O.lst (L.map prD)])).set r o) (.val (.ref (st.length + g.length))) (.tmp []) = some (decide (L = [])) := fun o => by
        rw [pyEq_list (xs := L.map prD) (ys := []) (listOf_ref (gL o)) rfl (by rw [plL_all]; intro x hx; obtain ⟨y, _, rfl⟩ := List.mem_map.mp hx; rfl) rfl (by rw [nbL_all]; intro x hx; obtain ⟨y, _, rfl⟩ := List.mem_map.mp hx; rfl) rfl]
        simp
      have hrL : r < (st ++ (g ++ [O.lst (L.map prD)])).length := by simp; omega
      simp only
      rw [wB_cons]
      refine st_cut (fun f ρ1 s1 => ∃ o', dk o' ∧ s1 = (st ++ (g ++ [O.lst (L.map prD)])).set r o' ∧ (f = .rt (.tup (ss.map fun s => .int s.k)) ∨ f = .nx ∧ L ≠ [] ∧ ρ1 = [some (.ref r), some (netD m ms), some (.int (endP p ss)), some (.int t), some (.int most), some (.tup (ss.map fun s => .int s.k)), some (.int (endT t ss)), some (.ref (st.length + g.length)), r8, r9, r10, r11])) ?_ ?_
      · simp [hne]
        by_cases hL : L = []
        · simp [hL, wB_cons]
          exact ⟨o1, d1, rfl⟩
        · simp [hL]
          refine db_w W hrL d1 (by decide) (by decide) fun x1 o2 a1 b1 h2 => ?_
          simp
          by_cases hx : x1 = 5
          · simp [hx, wB_cons]; exact ⟨o2, h2, rfl⟩
          · simp [hx, hL]; exact ⟨o2, h2, rfl⟩
      rintro f ρ1 s1 ⟨o2, h2, rfl, rfl | ⟨rfl, hL, rfl⟩⟩
      · exact fin ss _ o2 d3 (by omega) h2
      have hpos : 0 < L.length := List.length_pos_iff.mpr hL
      simp only
      rw [wB_cons]
      simp [len_ref (gL _)]
      refine db_w W hrL h2 (by omega) (by omega) fun x2 o3 a3 b3 h3 => ?_
      refine db_w W hrL h3 (by decide) (by decide) fun x3 o4 a4 b4 h4 => ?_
      obtain ⟨at', w1, w2, ew⟩ : ∃ a : Int, 0 ≤ a ∧ a < L.length ∧ L2.atI [D.int 0, D.int x2] x3 = some (.int a) := by
        obtain rfl | rfl : x3 = 0 ∨ x3 = 1 := by omega
        · exact ⟨0, by omega, by omega, by simp⟩
        · exact ⟨x2, by omega, by omega, by simp⟩
      simp [ew]
      have hsort := sort_ints (st := (st ++ (g ++ [O.lst (L.map prD)])).set r o4) (enc := prD) (fun x : Int × Nat => [x.1, (x.2 : Int)]) (fun _ => rfl) (fun a => by simp) (l := L) (by omega)
      obtain ⟨L', hL', hmem⟩ : ∃ L' : List (Int × Nat), L.mergeSort (fun a b => decide ([a.1, (a.2 : Int)] ≤ [b.1, (b.2 : Int)])) = L' ∧ L'.Perm L := ⟨_, rfl, List.mergeSort_perm _ _⟩
      rw [hL'] at hsort
      rw [wB_cons]
      have hso := sorted_ref (gL o4) hsort
      simp [hso]
      obtain ⟨y, hy, ey⟩ := atI_map (f := prD) (ys := L') w1 (by rw [hmem.length_eq]; exact w2)
      obtain ⟨s, e1, e2, e3⟩ := l2 y (hmem.mem_iff.mp hy)
      have ey' : L2.atI (L'.map prD) at' = some (.tup [.int y.1, .int y.2]) := ey
      simp [ey']
      rw [wB_cons]
      have hst := fun s0 : Sto => stepB_ok (T := T) (n := n) (k := k) (st := s0) hS (m := m) (sFrom_lt e1) (p := endP p ss)
      simp only [e1, o3D] at hst
      simp [hst]
      rw [wB_cons]
      have hz : szOk (ss.length + 1) = true := decide_eq_true (by omega)
      simp [hz]
      have hk := (sFrom_k e1).1
      have hgo : wayGo ms p t ((ss ++ [s]).map fun s => D.int s.k) = some (ss ++ [s]) := by
        rw [List.map_append]
        refine wayGo_app d3 ?_
        simp [wayGo, hk, nextS_of e1 e2]
      have henv : (ss.map fun s => D.int s.k) ++ [D.int y.2] = (ss ++ [s]).map fun s => D.int s.k := by simp [hk]
      exact ⟨j - 1, by omega, o4, g ++ [O.lst (L.map prD)], ss ++ [s], s.b, s.u, some (.ref (st.length + g.length)), some (.int y.2), r9, some (.int at'), some (.int s.t), h4, (wayGo_some hgo).2, hgo, (endP_snoc _ _).symm, (endT_snoc _ _).symm, by simp; omega, by simp, by rw [henv]⟩
    · rintro i ρ s hi ⟨L, r8, r9, r10, r11, l1, l2, rfl, rfl⟩
      refine ⟨_, rfl, ?_⟩
      have hst := fun s0 : Sto => stepB_ok (T := T) (n := n) (k := k) (st := s0) hS (m := m) hi (p := endP p ss)
      have gL : ∀ o, ((st ++ (g ++ [O.lst (L.map prD)])).set r o)[st.length + g.length]? = some (.lst (L.map prD)) := fun o => by
        have := getd0 (o := o) (g := [O.lst (L.map prD)]) (hr2 g)
        simpa using this
      show wB _ _ _ _ _ _
      rw [wB_cons]
      simp [hst]
      rw [wB_cons]
      cases hs : sFrom ms i (endP p ss) with
      | none =>
        simp [o3D]
        exact ⟨L, _, _, _, _, by omega, l2, by simp, rfl⟩
      | some s =>
        simp [o3D]
        by_cases hge : endT t ss ≤ s.t
        · have hap := app_ref (st := (st ++ (g ++ [O.lst (L.map prD)])).set r o1) (r := .val (prD (s.t, i))) (gL o1) (by simp; omega)
          have hse := setd0 (o := o1) (g := [O.lst (L.map prD)]) (q := .lst (L.map prD ++ [prD (s.t, i)])) (hr2 g)
          simp [prD] at hap hse
          simp [hge, wB_cons, hap, hse]
          refine ⟨L ++ [(s.t, i)], _, _, _, _, by simp; omega, fun x hx => ?_, by simp [prD], rfl⟩
          rcases List.mem_append.mp hx with hx | hx
          · exact l2 x hx
          · rw [List.mem_singleton.mp hx]; exact ⟨s, hs, hge, rfl⟩
        · simp [hge]
          exact ⟨L, _, _, _, _, by omega, l2, by simp, rfl⟩
end
end Mw

set_option Elab.async false
set_option linter.all false
set_option autoImplicit false
set_option maxRecDepth 100000
/-! PyR4: ways, cut and joined; what the laws of ways ask of the defs. -/
namespace Mw
open PySem
def kD (ss : List Sp) : D := .tup (ss.map fun s => .int s.k)
def plcD (p : Int) (ss : List Sp) : D := .tup ((p :: ss.map (·.b)).map D.int)
def wtsD (t : Int) (ss : List Sp) : D := .tup ((waitsF t ss).map D.int)
section
variable {ms : List Mt} {p t : Int}
theorem wayGo_split {ds' : List D} : ∀ {ds : List D} {p t : Int} {l : List Sp}, wayGo ms p t (ds ++ ds') = some l → ∃ a b, l = a ++ b ∧ wayGo ms p t ds = some a ∧ wayGo ms (endP p a) (endT t a) ds' = some b
  | [], p, t, l, h => ⟨[], l, rfl, rfl, h⟩
  | d :: ds, p, t, l, h => by
    simp only [wayGo, List.cons_append] at h ⊢
    cases hd : nextS ms p t d with
    | none => rw [hd] at h; cases h
    | some s =>
      rw [hd] at h
      simp only [Option.map_eq_some_iff] at h
      obtain ⟨l', h1, rfl⟩ := h
      obtain ⟨a, b, rfl, h2, h3⟩ := wayGo_split h1
      exact ⟨s :: a, b, rfl, by simp [h2], h3⟩
theorem wayGo_cut {ss : List Sp} (h : wayGo ms p t (ss.map fun s => D.int s.k) = some ss) (j : Nat) :
    wayGo ms p t ((ss.take j).map fun s => D.int s.k) = some (ss.take j) ∧ wayGo ms (endP p (ss.take j)) (endT t (ss.take j)) ((ss.drop j).map fun s => D.int s.k) = some (ss.drop j) := by
  have e : ss.map (fun s => D.int s.k) = (ss.take j).map (fun s => D.int s.k) ++ (ss.drop j).map fun s => D.int s.k := by
    rw [← List.map_append, List.take_append_drop]
  rw [e] at h
  obtain ⟨a, b, hab, h1, h2⟩ := wayGo_split h
  have l1 : a.length = (ss.take j).length := by
    have := congrArg List.length (wayGo_some h1).1
    simpa using this.symm
  have ea : a = ss.take j := by
    have : ss.take j ++ ss.drop j = a ++ b := by rw [List.take_append_drop]; exact hab
    exact (List.append_inj this l1.symm).1.symm
  have eb : b = ss.drop j := by
    have : ss.take j ++ ss.drop j = a ++ b := by rw [List.take_append_drop]; exact hab
    exact (List.append_inj this l1.symm).2.symm
  subst ea eb
  exact ⟨h1, h2⟩
theorem endP_app : ∀ (a b : List Sp) (p : Int), endP p (a ++ b) = endP (endP p a) b
  | [], _, _ => rfl
  | s :: a, b, _ => endP_app a b s.b
theorem endT_app : ∀ (a b : List Sp) (t : Int), endT t (a ++ b) = endT (endT t a) b
  | [], _, _ => rfl
  | s :: a, b, _ => endT_app a b s.u
theorem waits_app : ∀ (a b : List Sp) (t : Int), waitsF t (a ++ b) = waitsF t a ++ waitsF (endT t a) b
  | [], _, _ => rfl
  | s :: a, b, _ => by simp [waitsF, waits_app a b s.u, endT]
theorem waits_len : ∀ (a : List Sp) (t : Int), (waitsF t a).length = a.length
  | [], _ => rfl
  | s :: a, _ => by simp [waitsF, waits_len a s.u]
theorem waits_sum : ∀ (a : List Sp) (t : Int), t + (a.map fun s => s.u - s.t).sum + (waitsF t a).sum = endT t a
  | [], t => by simp [waitsF, endT]
  | s :: a, t => by
    have := waits_sum a s.u
    simp only [waitsF, List.map_cons, List.sum_cons, endT]
    omega
def goesAt (t : Int) : List Sp → Bool
  | [] => true
  | s :: _ => decide (t ≤ s.t)
/-- a way of one moment, at another one -/
theorem wayGo_at {t' : Int} {ds : List D} {ss : List Sp} (h : wayGo ms p t ds = some ss) : (wayGo ms p t' ds).isSome = goesAt t' ss := by
  cases ds with
  | nil => cases h; rfl
  | cons d ds =>
    simp only [wayGo] at h ⊢
    cases hd : nextS ms p t d with
    | none => rw [hd] at h; cases h
    | some s =>
      rw [hd] at h
      simp only [Option.map_eq_some_iff] at h
      obtain ⟨l, h1, rfl⟩ := h
      obtain ⟨e1, e2, e3, e4⟩ := nextS_some hd
      subst e1
      by_cases hle : t' ≤ s.t
      · rw [nextS_of e2 hle]; simp [h1, hle, goesAt]
      · have : nextS ms p t' (.int (s.k : Int)) = none := by
          unfold nextS
          have e : ((s.k : Int)).toNat = s.k := Int.toNat_natCast _
          simp only [e, e2]
          split
          · rw [if_pos (by omega)]
          · rfl
        rw [this]; simp [hle, goesAt]
theorem isWay_k {ss : List Sp} (h : wayGo ms p t (ss.map fun s => D.int s.k) = some ss) : isWayB ms p t (kD ss) = true := by
  simp [isWayB, kD, h]
theorem kD_app (a b : List Sp) : kD (a ++ b) = .tup ((a.map fun s => D.int s.k) ++ b.map fun s => D.int s.k) := by simp [kD]
theorem th_k {st : Sto} (ss : List Sp) : thOk st (kD ss) = true := by
  refine okV_th ?_
  simp only [kD, okV]
  rw [okVL_all]; intro x hx; obtain ⟨y, _, rfl⟩ := List.mem_map.mp hx; rfl
theorem kD_ints (ss : List Sp) : kD ss = .tup ((ss.map fun s => (s.k : Int)).map D.int) := by simp [kD]
theorem eq_ints {st : Sto} (a b : List Int) : pyEq st (.val (.tup (a.map D.int))) (.val (.tup (b.map D.int))) = some (decide (a = b)) := by
  rw [pyEq_val (by show plL 59 _ = true; exact pl_ints _ _) (by show plL 59 _ = true; exact pl_ints _ _) (nb_ints2 a) (nb_ints2 b)]
  congr 1
  have : (D.tup (a.map D.int) = D.tup (b.map D.int)) ↔ a = b := by
    constructor
    · intro h
      simp only [D.tup.injEq] at h
      exact (List.map_inj_right (fun x y e => by cases e; rfl)).mp h
    · intro h; rw [h]
  simp [this]
where
  nb_ints2 (l : List Int) : nb (.tup (l.map D.int)) = true := by
    simp only [nb]; rw [nbL_all]; intro x hx; obtain ⟨y, _, rfl⟩ := List.mem_map.mp hx; rfl
end
section
variable {st : Sto} {ss a b : List Sp}
@[simp] theorem len_kD : biApp st .len [.val (kD ss)] = some (.val (.int ss.length)) := by simp [kD]
@[simp] theorem sli_kD_to {j : Nat} : sliApp st (.val (kD ss)) none (some (j : Int)) = some (.val (kD (ss.take j))) := by simp only [kD, sli_tup, cutD_to, List.map_take]
@[simp] theorem sli_kD_from {j : Nat} : sliApp st (.val (kD ss)) (some (j : Int)) none = some (.val (kD (ss.drop j))) := by simp only [kD, sli_tup, cutD_from, List.map_drop]
@[simp] theorem src_kD : srcOf st (.val (kD ss)) = some ⟨ss.map fun s => .int s.k, [], false⟩ := rfl
@[simp] theorem low_kD {j : Nat} : D.low j (kD ss) = true := by
  simp only [kD, low_tup, lowL_all]; intro x hx; obtain ⟨y, _, rfl⟩ := List.mem_map.mp hx; rfl
theorem add_kD (h : a.length + b.length ≤ 16777216) : binApp st .add (.val (kD a)) (.val (kD b)) = some (.val (kD (a ++ b))) := by
  simp only [kD, bin_addT, List.map_append]
  rw [if_pos]
  exact decide_eq_true (by simpa using h)
theorem eq_kD : pyEq st (.val (kD a)) (.val (kD b)) = some (decide (a.map (·.k) = b.map (·.k))) := by
  rw [kD_ints, kD_ints, eq_ints]
  congr 1
  have : (a.map fun s => (s.k : Int)) = (a.map (·.k)).map Int.ofNat := by simp
  have h2 : (b.map fun s => (s.k : Int)) = (b.map (·.k)).map Int.ofNat := by simp
  rw [this, h2]
  have : ((a.map (·.k)).map Int.ofNat = (b.map (·.k)).map Int.ofNat) ↔ a.map (·.k) = b.map (·.k) := List.map_inj_right fun x y e => Int.ofNat.inj e
  simp only [this]
theorem eq_kD_nil : pyEq st (.val (kD a)) (.val (.tup [])) = some (decide (a = [])) := by
  rw [show (D.tup []) = kD [] from rfl, eq_kD]; simp
theorem kk (l : List Sp) : D.tup (l.map fun s => D.int s.k) = kD l := rfl
end
theorem rng_len {n : Nat} : (rangeD 0 n).length = n := by simp [rangeD]
theorem sz_ok {n : Nat} (h : n ≤ 16777216) : szOk n = true := decide_eq_true h
theorem if_sz {α : Type} {n : Nat} {x y : α} (h : n ≤ 16777216) : (if szOk n = true then x else y) = x := if_pos (decide_eq_true h)
structure HWy (T : Tab) : Prop where
  whole : Has T "is_whole" fis_whole
  sfrom : Has T "step_from" fstep_from
  next : Has T "next_step" fnext_step
  way : Has T "is_way" fis_way
  pls : Has T "places_on" fplaces_on
  com : Has T "comes_at" fcomes_at
  wts : Has T "waits_on" fwaits_on
structure HB (T : Tab) (n : Nat) : Prop where
  draw : DrawB T n
  far : Has T "_law_far" fB_law_far
  beg : Has T "_law_begin" fB_law_begin
  meet : Has T "_law_meeting" fB_law_meeting
  net : Has T "_law_net" fB_law_net
  mom : Has T "_law_moment" fB_law_moment
  n0 : 1000 < n
section
variable {T : Tab} {n k : Nat} {st : Sto} {ms : List Mt} {m p t : Int} {ss : List Sp}
theorem HWy.is (H : HWy T) {x : D} (hx : thOk st x = true) : callF T n (k + 3) "is_way" [netD m ms, .int p, .int t, x] st = some (.bl (isWayB ms p t x), st) := is_way_ok H.whole H.sfrom H.next H.way hx
theorem HWy.pl (H : HWy T) (hl : ss.length ≤ 1000000) (h : Chn ms p ss) : callF T n (k + 2) "places_on" [netD m ms, .int p, kD ss] st = some (plcD p ss, st) := places_on_ok H.sfrom H.pls hl h
theorem HWy.co (H : HWy T) (h : Chn ms p ss) : callF T n (k + 1) "comes_at" [netD m ms, .int t, kD ss] st = some (.int (endT t ss), st) := comes_at_ok H.com h
theorem HWy.wt (H : HWy T) (hl : ss.length ≤ 1000000) (h : Chn ms p ss) : callF T n (k + 1) "waits_on" [netD m ms, .int t, kD ss] st = some (wtsD t ss, st) := waits_on_ok H.wts hl h
theorem idx_pl_last : L2.atI ((p :: ss.map (·.b)).map D.int) (-1) = some (.int (endP p ss)) := endP_last ss p
end
section
variable {T : Tab} {n k : Nat} {st : Sto} {r : Nat} {o : O} {ms : List Mt} {m p t most : Int}
theorem goneK (W : DrawB T n) (hS : Has T "_law_step" fB_law_step) (hT : Has T "_law_gone" fB_law_gone) (hn : 1000 < n) (hr : r < st.length) (h : dk o) (hl : ms.length ≤ 10000) (h0 : 0 ≤ most) (h1 : most ≤ 900) {Q : D → Sto → Prop}
    (q : ∀ ss o', wayGo ms p t (ss.map fun s => .int s.k) = some ss → (ss.length : Int) ≤ most → dk o' → Q (kD ss) (st.set r o')) :
    ok2 (callF T n (k + 2) "_law_gone" [.ref r, netD m ms, .int p, .int t, .int most] (st.set r o)) Q := goneB W hS hT hn hr h hl h0 h1 q
end
/-- the number of turns -/
theorem turns {a b c : Int} (ha : 0 ≤ a) (hb : 0 ≤ b) (hc : 0 ≤ c) (h : a ≤ 1000 ∧ b ≤ 1000 ∧ c ≤ 1000) : ∃ j : Nat, (if (if c < b then c else b) > a then (if c < b then c else b) else a) = (j : Int) ∧ j ≤ 1000 := by
  refine ⟨(if (if c < b then c else b) > a then (if c < b then c else b) else a).toNat, ?_, ?_⟩
  · split <;> split <;> omega
  · split <;> split <;> omega
end Mw

set_option Elab.async false
set_option linter.all false
set_option autoImplicit false
set_option maxRecDepth 100000
/-! PyR5: nets read of texts by the laws of ways. -/
namespace Mw
open PySem
def cB_law_far_read : CSs := (.cons (.asg (.nm 2) (.lst (.cons (.bin .add (.cst (.str "places ")) (.bi .str (.cons (.bin .add (.idx (.var 0) (.cst (.int 0))) (.cst (.int 2))) .nil))) .nil))) (.cons (.for (.tp (.cons (.nm 3) (.cons (.nm 4) (.cons (.nm 5) (.cons (.nm 6) (.cons (.nm 7) .nil)))))) (.ex (.idx (.var 0) (.cst (.int 1)))) (.cons (.expr (.mt .append (.var 2) (.cons (.mt .join (.cst (.str " ")) (.cons (.lst (.cons (.var 3) (.cons (.bi .str (.cons (.var 4) .nil)) (.cons (.bi .str (.cons (.var 5) .nil)) (.cons (.bi .str (.cons (.bin .add (.var 6) (.var 1)) .nil)) (.cons (.bi .str (.cons (.var 7) .nil)) .nil)))))) .nil)) .nil))) .nil)) (.cons (.ret (.call "read_net" (.cons (.mt .join (.cst (.str "\n")) (.cons (.var 2) .nil)) .nil))) .nil)))
def fB_law_far_read : Fd := ⟨2, 8, cB_law_far_read⟩
def cB_law_long_read : CSs := (.cons (.asg (.nm 1) (.call "_law_draw" (.cons (.var 0) (.cons (.cst (.int 9)) .nil)))) (.cons (.asg (.nm 2) (.lst (.cons (.cst (.str "places 2")) .nil))) (.cons (.for (.nm 3) (.rng (.cons (.bin .add (.cst (.int 100)) (.call "_law_draw" (.cons (.var 0) (.cons (.cst (.int 141)) .nil)))) .nil)) (.cons (.asg (.nm 4) (.idx (.lst (.cons (.cst (.str "both 0 1")) (.cons (.bin .add (.bin .add (.bin .add (.cst (.str "to ")) (.bi .str (.cons (.bin .mod (.var 3) (.cst (.int 2))) .nil))) (.cst (.str " "))) (.bi .str (.cons (.bin .sub (.cst (.int 1)) (.bin .mod (.var 3) (.cst (.int 2)))) .nil))) .nil))) (.call "_law_draw" (.cons (.var 0) (.cons (.cst (.int 2)) .nil))))) (.cons (.expr (.mt .append (.var 2) (.cons (.bin .add (.bin .add (.bin .add (.var 4) (.cst (.str " "))) (.bi .str (.cons (.bin .add (.var 1) (.var 3)) .nil))) (.cst (.str " 1"))) .nil))) .nil))) (.cons (.ret (.call "read_net" (.cons (.mt .join (.cst (.str "\n")) (.cons (.var 2) .nil)) .nil))) .nil))))
def fB_law_long_read : Fd := ⟨1, 5, cB_law_long_read⟩
structure HRd (T : Tab) : Prop where
  isn : Has T "is_number_word" fis_number_word
  rnum : Has T "read_number" fread_number
  rmee : Has T "read_meeting" fread_meeting
  whole : Has T "is_whole" fis_whole
  place : Has T "is_place" fis_place
  meet : Has T "is_meeting" fis_meeting
  net : Has T "is_net" fis_net
  rnet : Has T "read_net" fread_net
def shM (d : Int) (x : Mt) : Mt := ⟨x.bo, x.a, x.b, x.t + d, x.l⟩
section
variable {T : Tab} {n k : Nat} {st : Sto} {m : Nat} {ms : List Mt}
theorem EarOk.tx (h : EarOk m ms) : ∀ x ∈ ms, x.tx := fun x hx => by
  have e : (10 : Nat) ^ 200 ≤ 10 ^ 300 := Nat.pow_le_pow_right (by decide) (by decide)
  have e1 : (1000 : Nat) < 10 ^ 300 := Nat.lt_of_lt_of_le (show 1000 < 10 ^ 4 by decide) (Nat.pow_le_pow_right (by decide) (by decide))
  have := h.m2
  obtain ⟨h1, h2, h3, h4, h5, h6, h7⟩ := h.ok x hx
  have := h.bd x hx
  exact ⟨⟨h1, by omega⟩, ⟨h3, by omega⟩, ⟨h6, by omega⟩, ⟨by omega, by omega⟩⟩
theorem EarOk.m300 (h : EarOk m ms) : m < 10 ^ 300 := by
  have e1 : (1000 : Nat) < 10 ^ 300 := Nat.lt_of_lt_of_le (show 1000 < 10 ^ 4 by decide) (Nat.pow_le_pow_right (by decide) (by decide))
  have := h.m2
  omega
theorem HRd.read (H : HRd T) (h : EarOk m ms) : callF T n (k + 5) "read_net" [.str (netS m ms)] st = some (netD m ms, st) := by
  have := h.len
  exact read_net_ok H.isn H.rnum H.rmee H.whole H.place H.meet H.net H.rnet h.m1 h.m300 (by omega) h.tx h.ok
theorem net_join {j : Nat} (h : EarOk m ms) (hj : st[j]? = some (.lst ((netP m ms).map .str))) : mtApp st .join (.val (.str "\n")) [.val (.ref j)] = some (.val (.str (netS m ms)), st) := by
  have hnb : ∀ x ∈ netP m ms, x.length ≤ 1505 := by
    intro x hx
    rcases List.mem_cons.mp hx with rfl | hx
    · exact head_len h.m300
    · obtain ⟨y, hy, rfl⟩ := List.mem_map.mp hx
      exact lineS_len (h.tx y hy)
  have hsum := sum_le hnb
  have hone : (Str.ofString "\n").length = 1 := by decide +kernel
  have hnl : (netP m ms).length = ms.length + 1 := by simp [netP]
  have hl := h.len
  have hmul : (netP m ms).length * 1505 ≤ 5001 * 1505 := Nat.mul_le_mul_right _ (by omega)
  have h0 := join_app (s := st) (y := Str.ofString "\n") (ys := netP m ms) (by rw [hone]; omega)
  have hsq : seqOf st (.val (.ref j)) = some ((netP m ms).map .str) := by simp only [seqOf, hj]
  simp only [mtApp, mtJoin, hsq] at h0 ⊢
  exact h0
theorem head_sz (hm : m < 10 ^ 300) : szOk ((Str.ofString "places ").length + (numS m).length) = true := by
  have h1 : (Str.ofString "places ").length = 7 := by decide +kernel
  have h2 : (numS m).length ≤ 300 := by rw [TL.len_tl, numS_tl]; exact TL.numL_len (by decide) hm
  exact decide_eq_true (by omega)
def frI (st : Sto) (m : Nat) (d : Int) (ms : List Mt) (a : D) (zs : List Mt) (ρ : Env) (s : Sto) : Prop :=
  ∃ (done : List Mt) (r3 r4 r5 r6 r7 : Option D), done ++ zs = ms ∧ s = st ++ [.lst ((netP (m + 2) (done.map (shM d))).map .str)] ∧ ρ = [some a, some (.int d), some (.ref st.length), r3, r4, r5, r6, r7]
theorem farReadB (HR : HRd T) (hT : Has T "_law_far_read" fB_law_far_read) {d : Int} (h : EarOk (m + 2) (ms.map (shM d))) : callF T n (k + 6) "_law_far_read" [netD m ms, .int d] st = some (netD ((m + 2 : Nat) : Int) (ms.map (shM d)), st) := by
  refine callF_eq (callF_w hT rfl ?_)
  have htx : ∀ x ∈ ms, (shM d x).tx := fun x hx => h.tx _ (List.mem_map_of_mem hx)
  have hs1 : ∀ s : Sto, biApp s .str [.val (.int ((m : Int) + 2))] = some (.val (.str (numS (m + 2)))) := fun s => by
    have := str_nat (st := s) h.m300
    simpa using this
  have hr := fun s : Sto => HR.read (n := n) (k := k) (st := s) h
  simp [fB_law_far_read, cB_law_far_read, wB_cons, idx_net0, idx_net1, hs1, head_sz h.m300, head_txt]
  refine for_map mtD (frI st m d ms (netD m ms)) ?_ ?_ ms _ _ ⟨[], none, none, none, none, none, rfl, rfl, rfl⟩
  · rintro ρ s ⟨done, r3, r4, r5, r6, r7, e, rfl, rfl⟩
    simp at e
    subst e
    refine ⟨rfl, ?_⟩
    have hj := net_join (st := st ++ [.lst ((netP (m + 2) (done.map (shM d))).map .str)]) h get_last
    simp only [netP, List.map_cons, List.map_map] at hj
    simp [netP, hj]
    simp at hr
    simp [hr]
    have hlow := lowL_mt (j := st.length) (ms := done.map (shM d))
    rw [gc_app (by simp [netD]; simpa using hlow)]
    exact ⟨rfl, rfl⟩
  · rintro z zs ρ s ⟨done, r3, r4, r5, r6, r7, e, rfl, rfl⟩
    refine ⟨rfl, _, rfl, ?_⟩
    have hz := htx z (by rw [← e]; simp)
    obtain ⟨t1, t2, t3, t4⟩ := id hz
    have s1 := fun s : Sto => str_z (st := s) t1
    have s2 := fun s : Sto => str_z (st := s) t2
    have s3 := fun s : Sto => str_z (st := s) t3
    have s4 := fun s : Sto => str_z (st := s) t4
    have hj : ∀ s : Sto, mtApp s .join (.val (.str " ")) [.tmp [wdD z.bo, .str (numS z.a.toNat), .str (numS z.b.toNat), .str (numS (z.t + d).toNat), .str (numS z.l.toNat)]] = some (.val (.str (lineS (shM d z))), s) := fun s => line_join (m := shM d z) hz
    have hlen : done.length + 1 ≤ 5000 := by
      have := h.len
      have := congrArg List.length e
      simp at *
      omega
    simp only [shM] at s1 s2 s3 s4
    show wB _ _ _ _ _ _
    have hap := app_ref (st := st ++ [.lst ((netP (m + 2) (done.map (shM d))).map .str)]) (r := .val (.str (lineS (shM d z)))) get_last (by simp [netP]; omega)
    simp [wB_cons, mtD, s1, s2, s3, s4, hj, hap, kdOf]
    exact ⟨done ++ [z], _, _, _, _, _, by simp [e], by simp [netP], rfl⟩
end
/-! ### rows to and fro -/
def rowM (f : Int) (b : Bool) (k : Nat) : Mt := if b then ⟨true, 0, 1, f + k, 1⟩ else ⟨false, (k : Int) % 2, 1 - (k : Int) % 2, f + k, 1⟩
def LongOk (f : Int) (ms : List Mt) : Prop := ∀ (k : Nat) (x : Mt), ms[k]? = some x → ∃ b, x = rowM f b k
theorem LongOk.snoc {f : Int} {ms : List Mt} (h : LongOk f ms) (b : Bool) : LongOk f (ms ++ [rowM f b ms.length]) := fun k x hx => by
  by_cases hk : k < ms.length
  · rw [List.getElem?_append_left hk] at hx; exact h k x hx
  · rw [List.getElem?_append_right (by omega)] at hx
    have : k = ms.length := by
      have := (List.getElem?_eq_some_iff.mp hx).1
      simp at this; omega
    subst this
    simp at hx
    exact ⟨b, hx.symm⟩
theorem LongOk.ear {f : Int} {ms : List Mt} (h : LongOk f ms) (hf : 0 ≤ f ∧ f < 1000) (hl : ms.length ≤ 1000) : EarOk 2 ms := by
  refine ⟨fun x hx => ?_, by decide, by decide, by omega, fun x hx => ?_⟩
  · obtain ⟨k, hk⟩ := List.getElem?_of_mem hx
    obtain ⟨b, rfl⟩ := h k x hk
    have h1 : (k : Int) % 2 = 0 ∨ (k : Int) % 2 = 1 := by omega
    cases b <;> simp only [rowM, Mt.ok, if_true, Bool.false_eq_true, if_false] <;> omega
  · obtain ⟨k, hk⟩ := List.getElem?_of_mem hx
    have hkl := (List.getElem?_eq_some_iff.mp hk).1
    obtain ⟨b, rfl⟩ := h k x hk
    cases b <;> simp only [rowM, if_true, Bool.false_eq_true, if_false] <;> omega
theorem long_from {f : Int} {ms : List Mt} (h : LongOk f ms) {k : Nat} (hk : k < ms.length) : sFrom ms k ((k : Int) % 2) = some ⟨k, (k : Int) % 2, 1 - (k : Int) % 2, f + k, f + k + 1⟩ := by
  obtain ⟨b, hb⟩ := h k ms[k] (List.getElem?_eq_getElem hk)
  unfold sFrom
  rw [List.getElem?_eq_getElem hk, hb]
  have h1 : (k : Int) % 2 = 0 ∨ (k : Int) % 2 = 1 := by omega
  cases b with
  | false => simp [rowM]
  | true =>
    rcases h1 with h1 | h1
    · simp [rowM, h1]
    · simp [rowM, h1]
def longS (f : Int) (j c : Nat) : List Sp := (List.range' j c).map fun (k : Nat) => ⟨k, (k : Int) % 2, 1 - (k : Int) % 2, f + k, f + k + 1⟩
theorem long_chn {f : Int} {ms : List Mt} (h : LongOk f ms) : ∀ (c j : Nat), j + c ≤ ms.length → Chn ms ((j : Int) % 2) (longS f j c)
  | 0, _, _ => trivial
  | c + 1, j, hl => by
    refine ⟨long_from (k := j) h (by omega), ?_⟩
    have := long_chn h c (j + 1) (by omega)
    have e : ((j + 1 : Nat) : Int) % 2 = 1 - (j : Int) % 2 := by omega
    rw [e] at this
    exact this
theorem two_txt : Str.ofString "places 2" = Txt.join " " (headP 2) := by decide +kernel
theorem both_txt (t : Nat) : Str.ofString "both 0 1" ++ Str.ofString " " ++ numS t ++ Str.ofString " 1" = Txt.join " " [wdS true, numS 0, numS 1, numS t, numS 1] := by
  refine TL.ext_tl ?_
  rw [TL.tl_append, TL.tl_append, TL.tl_append, join_tl]
  have h1 : TL.tl (Str.ofString "both 0 1") = TL.tl (wdS true) ++ [32] ++ TL.tl (numS 0) ++ [32] ++ TL.tl (numS 1) := by decide +kernel
  have h2 : TL.tl (Str.ofString " ") = [32] := by decide +kernel
  have h3 : TL.tl (Str.ofString " 1") = [32] ++ TL.tl (numS 1) := by decide +kernel
  rw [h1, h2, h3]
  simp [TL.joinL]
theorem to_txt (a b t : Nat) : Str.ofString "to " ++ numS a ++ Str.ofString " " ++ numS b ++ Str.ofString " " ++ numS t ++ Str.ofString " 1" = Txt.join " " [wdS false, numS a, numS b, numS t, numS 1] := by
  refine TL.ext_tl ?_
  simp only [TL.tl_append, join_tl]
  have h1 : TL.tl (Str.ofString "to ") = TL.tl (wdS false) ++ [32] := by decide +kernel
  have h2 : TL.tl (Str.ofString " ") = [32] := by decide +kernel
  have h3 : TL.tl (Str.ofString " 1") = [32] ++ TL.tl (numS 1) := by decide +kernel
  rw [h1, h2, h3]
  simp [TL.joinL]
section
variable {T : Tab} {n k : Nat} {st : Sto} {r : Nat} {o : O}
def lgI (st : Sto) (r : Nat) (f : Int) (c : Nat) (i : Nat) (ρ : Env) (s : Sto) : Prop :=
  ∃ (ms : List Mt) (o' : O) (r3 r4 : Option D), ms.length = i ∧ LongOk f ms ∧ dk o' ∧ s = (st ++ [O.lst ((netP 2 ms).map .str)]).set r o' ∧ ρ = [some (.ref r), some (.int f), some (.ref st.length), r3, r4]
theorem num_len {v : Nat} (h : v < 10 ^ 300) : (numS v).length ≤ 300 := by rw [TL.len_tl, numS_tl]; exact TL.numL_len (by decide) h
theorem longReadB (W : DrawB T n) (HR : HRd T) (hT : Has T "_law_long_read" fB_law_long_read) (hr : r < st.length) (h : dk o) {Q : D → Sto → Prop}
    (q : ∀ f ms o', 0 ≤ f → f < 9 → LongOk f ms → 100 ≤ ms.length → ms.length ≤ 240 → dk o' → Q (netD 2 ms) (st.set r o')) : ok2 (callF T n (k + 6) "_law_long_read" [.ref r] (st.set r o)) Q := by
  refine callF_w hT rfl ?_
  simp [fB_law_long_read, cB_law_long_read, wB_cons]
  refine db_w W hr h (by decide) (by decide) fun f o1 a1 b1 h1 => ?_
  simp [pull hr]
  have hr2 : ∀ l : Sto, r < (st ++ l).length := fun l => by simp; omega
  refine db_w W (hr2 _) h1 (by decide) (by decide) fun x o2 a2 b2 h2 => ?_
  obtain ⟨c, ec⟩ : ∃ c : Nat, 100 + x = (c : Int) := ⟨(100 + x).toNat, by omega⟩
  have hc : 100 ≤ c ∧ c ≤ 240 := by omega
  simp [ec, rngN (show c < 2 ^ 62 by omega)]
  refine for_rng (lgI st r f c) ?_ ?_ _ _ ⟨[], o2, none, none, rfl, fun k x hx => by simp at hx, h2, by rw [two_txt]; rfl, rfl⟩
  · rintro ρ s ⟨ms, o', r3, r4, e1, e2, e3, rfl, rfl⟩
    have hE := e2.ear ⟨a1, by omega⟩ (by omega)
    have g0 := getd0 (o := o') (g := [O.lst ((netP 2 ms).map .str)]) hr
    have hj := net_join (st := (st ++ [O.lst ((netP 2 ms).map .str)]).set r o') hE g0
    have hr' := fun s : Sto => HR.read (n := n) (k := k) (st := s) hE
    simp at hr'
    simp [hj, hr', kdOf]
    rw [gc_oa hr e3.low (by simp [netD, lowL_mt])]
    exact q f ms o' a1 b1 e2 (by omega) (by omega) e3
  · rintro i ρ s hi ⟨ms, o', r3, r4, e1, e2, e3, rfl, rfl⟩
    refine ⟨_, rfl, ?_⟩
    have p300 : (1000 : Nat) < 10 ^ 300 := Nat.lt_of_lt_of_le (show 1000 < 10 ^ 4 by decide) (Nat.pow_le_pow_right (by decide) (by decide))
    obtain ⟨v, ev⟩ : ∃ v : Nat, (i : Int) % 2 = (v : Int) := ⟨((i : Int) % 2).toNat, by omega⟩
    obtain ⟨u, eu⟩ : ∃ u : Nat, 1 - (i : Int) % 2 = (u : Int) := ⟨(1 - (i : Int) % 2).toNat, by omega⟩
    obtain ⟨t, et⟩ : ∃ t : Nat, f + i = (t : Int) := ⟨(f + i).toNat, by omega⟩
    have s1 := fun s : Sto => str_nat (st := s) (v := v) (by omega)
    have s2 := fun s : Sto => str_nat (st := s) (v := u) (by omega)
    have s3 := fun s : Sto => str_nat (st := s) (v := t) (by omega)
    have l1 := num_len (v := v) (by omega)
    have l2 := num_len (v := u) (by omega)
    have l3 := num_len (v := t) (by omega)
    have k1 : (Str.ofString "to ").length = 3 := by decide +kernel
    have k2 : (Str.ofString " ").length = 1 := by decide +kernel
    have k3 : (Str.ofString " 1").length = 2 := by decide +kernel
    have k4 : (Str.ofString "both 0 1").length = 8 := by decide +kernel
    have ha : ∀ (a b : Str) (s : Sto), a.length + b.length ≤ 5000 → binApp s .add (.val (.str a)) (.val (.str b)) = some (.val (.str (a ++ b))) := fun a b s h => by rw [bin_addS, if_sz (by omega)]
    have la : ∀ a b : Str, (a ++ b).length = a.length + b.length := fun a b => by rw [TL.len_tl, TL.tl_append, List.length_append, ← TL.len_tl, ← TL.len_tl]
    show wB _ _ _ _ _ _
    have eu' : (1 : Int) - v = u := by omega
    rw [wB_cons]
    simp only [wS_asg, wE_idx, wE_lst, wA_cons, wA_nil, wE_cst, wE_bin, wE_bi, wR_cons, wR_nil, wE_var]
    simp only [mat_val]
    simp [ev, eu', s1, s2]
    simp [ha, la, k1, k2, l1, l2]
    refine ⟨by simp [szOk]; omega, by simp [szOk]; omega, by simp [szOk]; omega, ?_⟩
    have g0 := fun o' : O => getd0 (o := o') (g := [O.lst ((netP 2 ms).map .str)]) hr
    have fin : ∀ (ln : Str) (bb : Bool) (o2 : O), ln.length ≤ 1000 → ln ++ Str.ofString " " ++ numS t ++ Str.ofString " 1" = lineS (rowM f bb i) → dk o2 → ∀ Q', wB (callF T n (k + 5)) n (.cons (.expr (.mt .append (.var 2) (.cons (.bin .add (.bin .add (.bin .add (.var 4) (.cst (.str " "))) (.bi .str (.cons (.bin .add (.var 1) (.var 3)) .nil))) (.cst (.str " 1"))) .nil))) .nil)
        [some (.ref r), some (.int f), some (.ref st.length), some (.int i), some (.str ln)] ((st ++ [O.lst ((netP 2 ms).map .str)]).set r o2) (nxt (lgI st r f c (i + 1)) Q') := fun ln bb o2 hl heq hd Q' => by
      have hap := app_ref (st := (st ++ [O.lst ((netP 2 ms).map .str)]).set r o2) (r := .val (.str (lineS (rowM f bb i)))) (g0 o2) (by simp [netP]; omega)
      have hse := setd0 (o := o2) (g := [O.lst ((netP 2 ms).map .str)]) (q := .lst ((netP 2 ms).map .str ++ [.str (lineS (rowM f bb i))])) hr
      rw [wB_cons]
      simp only [mat_val] at hap
      simp only [wS_expr, wE_mt, wR_cons, wR_nil, wE_bin, wE_bi, wE_var, wE_cst]
      simp [et, s3]
      simp [ha, la, k2, k3, heq, hap, hse]
      refine ⟨by simp [szOk]; omega, by simp [szOk]; omega, by simp [szOk]; omega, ?_⟩
      exact ⟨ms ++ [rowM f bb i], o2, _, _, by simp [e1], by rw [← e1]; exact e2.snoc bb, hd, by simp [netP], rfl⟩
    refine db_w W (hr2 _) e3 (by decide) (by decide) ?_
    intro b o2 a3 b3 h3
    obtain rfl | rfl : b = 0 ∨ b = 1 := by omega
    · simp
      refine fin _ true o2 (by omega) ?_ h3 _
      rw [both_txt]
      simp [lineS, lineP, rowM, et]
    · simp
      refine fin _ false o2 (by simp [la]; omega) ?_ h3 _
      rw [to_txt]
      have e1' : ((i : Int) % 2).toNat = v := by omega
      have e2' : (1 - (i : Int) % 2).toNat = u := by omega
      have e3' : (f + (i : Int)).toNat = t := by omega
      simp [lineS, lineP, rowM, e1', e2', e3']
end
/-! ### moved on -/
def shS (d : Int) (s : Sp) : Sp := ⟨s.k, s.a, s.b, s.t + d, s.u + d⟩
theorem sFrom_sh {ms : List Mt} {d : Int} {i : Nat} {p : Int} : sFrom (ms.map (shM d)) i p = (sFrom ms i p).map (shS d) := by
  unfold sFrom
  rw [List.getElem?_map]
  cases ms[i]? with
  | none => rfl
  | some x =>
    simp only [Option.map_some, shM]
    split
    · simp [shS]; omega
    · split
      · simp [shS]; omega
      · rfl
theorem wayGo_sh {ms : List Mt} {d : Int} : ∀ {ds : List D} {p t t' : Int} {ss : List Sp}, wayGo ms p t ds = some ss → t' ≤ t + d → wayGo (ms.map (shM d)) p t' ds = some (ss.map (shS d))
  | [], _, _, _, _, h, _ => by cases h; rfl
  | x :: ds, p, t, t', ss, h, ht => by
    simp only [wayGo] at h ⊢
    cases hd : nextS ms p t x with
    | none => rw [hd] at h; cases h
    | some s =>
      rw [hd] at h
      simp only [Option.map_eq_some_iff] at h
      obtain ⟨l, h1, rfl⟩ := h
      obtain ⟨rfl, e2, e3, e4⟩ := nextS_some hd
      have e5 : sFrom (ms.map (shM d)) s.k p = some (shS d s) := by rw [sFrom_sh, e2]; rfl
      rw [nextS_of e5 (by simp only [shS]; omega)]
      simp only [List.map_cons, Option.map_eq_some_iff]
      exact ⟨_, wayGo_sh h1 (Int.le_refl _), rfl⟩
theorem kD_sh {d : Int} {ss : List Sp} : kD (ss.map (shS d)) = kD ss := by
  simp [kD, shS]
theorem NetOk.sh {B : Int} {m : Nat} {ms : List Mt} (h : NetOk B m ms) (hB : B ≤ 10 ^ 100) {d : Int} (h0 : 0 ≤ d) (h1 : d ≤ 10 ^ 100) : EarOk (m + 2) (ms.map (shM d)) := by
  have e2 : (10 : Int) ^ 100 + 10 ^ 100 < 10 ^ 200 := by decide
  have := h.m1; have := h.m2; have := h.len
  refine ⟨fun x hx => ?_, by omega, by omega, by simp; omega, fun x hx => ?_⟩
  · obtain ⟨y, hy, rfl⟩ := List.mem_map.mp hx
    obtain ⟨q1, q2, q3, q4, q5, q6, q7⟩ := h.ok y hy
    exact ⟨q1, by simp only [shM]; omega, q3, by simp only [shM]; omega, q5, by simp only [shM]; omega, q7⟩
  · obtain ⟨y, hy, rfl⟩ := List.mem_map.mp hx
    have := h.bd y hy
    simp only [shM]; omega
theorem plc_at {p : Int} : ∀ {ss : List Sp} {j : Nat}, j ≤ ss.length → (p :: ss.map (·.b))[j]? = some (endP p (ss.take j))
  | ss, 0, _ => rfl
  | [], j + 1, h => by simp at h
  | s :: ss, j + 1, h => by
    have := plc_at (p := s.b) (ss := ss) (j := j) (by simp at h; omega)
    simpa [endP] using this
theorem whole_nm {T : Tab} {n k : Nat} {st : Sto} {f : Str} (hT : T.lookup f = some fis_whole) {i : Int} : callF T n (k + 1) f [.int i] st = some (.bl true, st) := by
  refine callF_eq (callF_w hT rfl ?_)
  simp [fis_whole, cis_whole, wB_cons]
theorem los_len {f : Int} {c : Nat} (h : c ≤ 1000) : losOf true (.val (.int (c : Int))) = some (.val (kD (longS f 0 c))) := by
  have hz : szOk (rangeD 0 c).length = true := by rw [rng_len]; exact sz_ok (by omega)
  unfold losOf
  rw [rngN (show c < 2 ^ 62 by omega)]
  simp only
  rw [if_pos hz]
  simp [kD, longS, rangeD, List.range_eq_range']
end Mw

set_option Elab.async false
set_option linter.all false
set_option autoImplicit false
set_option maxRecDepth 100000
/-! PyR6: nets and ways turned about. -/
namespace Mw
open PySem
def cturned_net : CSs := (.cons (.asg (.nm 2) (.lst .nil)) (.cons (.for (.tp (.cons (.nm 3) (.cons (.nm 4) (.cons (.nm 5) (.cons (.nm 6) (.cons (.nm 7) .nil)))))) (.ex (.idx (.var 0) (.cst (.int 1)))) (.cons (.expr (.mt .append (.var 2) (.cons (.tup (.cons (.var 3) (.cons (.var 5) (.cons (.var 4) (.cons (.bin .sub (.bin .sub (.var 1) (.var 6)) (.var 7)) (.cons (.var 7) .nil)))))) .nil))) .nil)) (.cons (.ret (.tup (.cons (.idx (.var 0) (.cst (.int 0))) (.cons (.bi .tuple (.cons (.var 2) .nil)) .nil)))) .nil)))
def fturned_net : Fd := ⟨2, 8, cturned_net⟩
def cturned_way : CSs := (.cons (.ret (.rev (.var 0))) .nil)
def fturned_way : Fd := ⟨1, 1, cturned_way⟩
def ctop_of : CSs := (.cons (.ret (.mm true (.comp (.tp (.cons (.nm 1) (.cons (.nm 2) (.cons (.nm 3) (.cons (.nm 4) (.cons (.nm 5) .nil)))))) (.ex (.idx (.var 0) (.cst (.int 1)))) .nil (.bin .add (.var 4) (.var 5)) [1, 2, 3, 4, 5]) (.cst (.int 0)))) .nil)
def ftop_of : Fd := ⟨1, 6, ctop_of⟩
def cB_law_ends : CSs := (.cons (.asg (.nm 2) (.lst .nil)) (.cons (.for (.nm 3) (.rng (.cons (.idx (.var 0) (.cst (.int 0))) .nil)) (.cons (.ite (.call "is_way" (.cons (.var 0) (.cons (.var 3) (.cons (.cst (.int 0)) (.cons (.var 1) .nil))))) (.cons (.expr (.mt .append (.var 2) (.cons (.tup (.cons (.var 3) (.cons (.idx (.call "places_on" (.cons (.var 0) (.cons (.var 3) (.cons (.var 1) .nil)))) (.neg (.cst (.int 1)))) .nil))) .nil))) .nil) .nil) .nil)) (.cons (.ret (.var 2)) .nil)))
def fB_law_ends : Fd := ⟨2, 4, cB_law_ends⟩
def tuM (top : Int) (x : Mt) : Mt := ⟨x.bo, x.b, x.a, top - x.t - x.l, x.l⟩
def tuS (top : Int) (s : Sp) : Sp := ⟨s.k, s.b, s.a, top - s.u, top - s.t⟩
def leaveT (t : Int) : List Sp → Int
  | [] => t
  | s :: _ => s.t
def gaps : List Sp → List Int
  | s :: s' :: r => (s'.t - s.u) :: gaps (s' :: r)
  | _ => []
def topF (ms : List Mt) : Int := (maxI (ms.map fun x => x.t + x.l)).getD 0
section
variable {ms : List Mt} {top p t : Int} {m : Nat}
theorem tuM_tuM (x : Mt) : tuM top (tuM top x) = x := by
  simp only [tuM]
  have : top - (top - x.t - x.l) - x.l = x.t := by omega
  rw [this]
theorem tuMs : (ms.map (tuM top)).map (tuM top) = ms := by
  rw [List.map_map]
  have : tuM top ∘ tuM top = id := funext fun x => tuM_tuM x
  rw [this, List.map_id]
theorem sFrom_tu (hok : ∀ x ∈ ms, x.a ≠ x.b) {i : Nat} {s : Sp} (h : sFrom ms i p = some s) : sFrom (ms.map (tuM top)) i s.b = some (tuS top s) := by
  unfold sFrom at h ⊢
  rw [List.getElem?_map]
  cases hx : ms[i]? with
  | none => rw [hx] at h; cases h
  | some x =>
    rw [hx] at h
    have hne := hok x (List.mem_of_getElem? hx)
    simp only [Option.map_some, tuM] at h ⊢
    split at h
    · cases h
      simp only [tuS, if_true]
      have e1 : top - x.t - x.l = top - (x.t + x.l) := by omega
      have e2 : top - x.t - x.l + x.l = top - x.t := by omega
      rw [e2, e1]
    · split at h
      · rename_i h1 h2
        cases h
        simp only [tuS]
        rw [if_neg hne, if_pos ⟨h2.1, trivial⟩]
        have e1 : top - x.t - x.l = top - (x.t + x.l) := by omega
        have e2 : top - x.t - x.l + x.l = top - x.t := by omega
        rw [e2, e1]
      · cases h
theorem endP_tu : ∀ {l : List Sp} {p : Int}, Chn ms p l → endP (endP p l) (l.reverse.map (tuS top)) = p
  | [], _, _ => rfl
  | s :: l, p, h => by
    rw [List.reverse_cons, List.map_append, endP_app]
    exact (sFrom_k h.1).2
theorem endT_tu : ∀ (l : List Sp) (t : Int), endT (top - endT t l) (l.reverse.map (tuS top)) = top - leaveT t l
  | [], _ => rfl
  | s :: l, t => by
    rw [List.reverse_cons, List.map_append, endT_app]
    rfl
theorem ks_rev (l : List Sp) : (l.reverse.map (tuS top)).map (fun s => D.int s.k) = (l.map fun s => D.int s.k).reverse := by
  rw [List.map_map, List.map_reverse]
  rfl
theorem wayGo_tu (hok : ∀ x ∈ ms, x.a ≠ x.b) : ∀ {l : List Sp} {p t : Int}, wayGo ms p t (l.map fun s => D.int s.k) = some l → wayGo (ms.map (tuM top)) (endP p l) (top - endT t l) (l.map fun s => D.int s.k).reverse = some (l.reverse.map (tuS top))
  | [], _, _, _ => rfl
  | s :: l, p, t, h => by
    have hc := wayGo_cut h 1
    obtain ⟨h1, h2⟩ := hc
    simp only [List.take_succ_cons, List.take_zero, List.drop_succ_cons, List.drop_zero, endP, endT] at h1 h2
    have ih := wayGo_tu hok h2
    have hch := (wayGo_some h).2
    have hch2 := (wayGo_some h2).2
    rw [List.map_cons, List.reverse_cons, List.reverse_cons, List.map_append]
    refine wayGo_app ih ?_
    show wayGo _ (endP (endP s.b l) (l.reverse.map (tuS top))) (endT (top - endT s.u l) (l.reverse.map (tuS top))) _ = _
    rw [endP_tu hch2, endT_tu]
    have hs := sFrom_tu (top := top) hok hch.1
    have hle : top - leaveT s.u l ≤ top - s.u := by
      cases l with
      | nil => exact Int.le_refl _
      | cons s' l =>
        have := (wayGo_cut h2 1).1
        simp only [List.take_succ_cons, List.take_zero, List.map_cons, List.map_nil, wayGo] at this
        cases hn : nextS ms s.b s.u (.int s'.k) with
        | none => rw [hn] at this; cases this
        | some z =>
          rw [hn] at this
          simp at this
          subst this
          obtain ⟨_, _, h3, _⟩ := nextS_some hn
          simp only [leaveT]; omega
    simp only [wayGo, nextS_of (ms := ms.map (tuM top)) hs (show top - leaveT s.u l ≤ (tuS top s).t from hle), Option.map_some, List.map_cons, List.map_nil]
theorem plc_tu : ∀ {l : List Sp} {p : Int}, Chn ms p l → endP p l :: (l.reverse.map (tuS top)).map (·.b) = (p :: l.map (·.b)).reverse
  | [], _, _ => rfl
  | s :: l, p, h => by
    have := plc_tu (l := l) (p := s.b) h.2
    rw [List.reverse_cons, List.map_append, List.map_append, ← List.cons_append, show endP p (s :: l) = endP s.b l from rfl, this]
    simp [tuS, (sFrom_k h.1).2]
theorem waits_gap : ∀ (l : List Sp) (t : Int), (waitsF t l).drop 1 = gaps l
  | [], _ => rfl
  | [s], _ => rfl
  | s :: s' :: r, t => by
    have := waits_gap (s' :: r) s.u
    simp only [waitsF, gaps, List.drop_succ_cons, List.drop_zero] at this ⊢
    rw [← this]
theorem gaps_snoc (x y : Sp) : ∀ l : List Sp, gaps (l ++ [y, x]) = gaps (l ++ [y]) ++ [x.t - y.u]
  | [] => rfl
  | [s] => rfl
  | s :: s' :: l => by
    have := gaps_snoc x y (s' :: l)
    simp only [List.cons_append, gaps] at this ⊢
    rw [this]
theorem gaps_tu : ∀ l : List Sp, gaps (l.reverse.map (tuS top)) = (gaps l).reverse
  | [] => rfl
  | [s] => rfl
  | s :: s' :: l => by
    have := gaps_tu (s' :: l)
    simp only [List.reverse_cons, List.map_append, List.map_cons, List.map_nil, List.append_assoc, List.cons_append, List.nil_append] at this ⊢
    rw [gaps_snoc, this]
    simp only [gaps, List.reverse_cons, tuS]
    congr 2
    omega
theorem top_le : ∀ x ∈ ms, x.t + x.l ≤ topF ms := by
  intro x hx
  have : ∀ (l : List Int) (y z : Int), y ∈ z :: l → y ≤ l.foldl (fun m y => if y > m then y else m) z := by
    intro l
    induction l with
    | nil => intro y z h; simp at h; subst h; exact Int.le_refl _
    | cons w l ih =>
      intro y z h
      rw [List.foldl_cons]
      rcases List.mem_cons.mp h with rfl | h
      · refine Int.le_trans ?_ (ih _ _ List.mem_cons_self)
        split <;> omega
      · rcases List.mem_cons.mp h with rfl | h
        · refine Int.le_trans ?_ (ih _ _ List.mem_cons_self)
          split <;> omega
        · exact ih _ _ (List.mem_cons_of_mem _ h)
  unfold topF
  have hm : x.t + x.l ∈ ms.map fun x => x.t + x.l := List.mem_map_of_mem (f := fun x : Mt => x.t + x.l) hx
  cases e : ms.map fun x => x.t + x.l with
  | nil => rw [e] at hm; cases hm
  | cons z l =>
    rw [e] at hm
    exact this l _ z hm
theorem top_mem (h : ms ≠ []) : ∃ x ∈ ms, topF ms = x.t + x.l := by
  have : ∀ (l : List Int) (z : Int), l.foldl (fun m y => if y > m then y else m) z ∈ z :: l := by
    intro l
    induction l with
    | nil => intro z; simp
    | cons w l ih =>
      intro z
      rw [List.foldl_cons]
      rcases List.mem_cons.mp (ih (if w > z then w else z)) with h | h
      · rw [h]; split <;> simp
      · exact List.mem_cons_of_mem _ (List.mem_cons_of_mem _ h)
  unfold topF
  cases e : ms.map fun x => x.t + x.l with
  | nil => simp at e; exact absurd e h
  | cons z l =>
    have h1 := this l z
    rw [← e] at h1
    obtain ⟨x, hx, he⟩ := List.mem_map.mp h1
    exact ⟨x, hx, he.symm⟩
end
section
variable {T : Tab} {n k : Nat} {st : Sto} {ms : List Mt} {m top : Int}
theorem turned_way_ok (hT : Has T "turned_way" fturned_way) {xs : List D} (hl : D.lowL st.length xs = true) : callF T n (k + 1) "turned_way" [.tup xs] st = some (.tup xs.reverse, st) := by
  refine callF_eq (callF_w hT rfl ?_)
  have : D.lowL st.length xs.reverse = true := by
    rw [lowL_all] at hl ⊢
    exact fun x hx => hl x (List.mem_reverse.mp hx)
  have hr : revApp st (.val (.tup xs)) = some (.val (.tup xs.reverse)) := rfl
  simp [fturned_way, cturned_way, wB_cons, hr, this]
theorem top_of_ok (hT : Has T "top_of" ftop_of) : callF T n (k + 1) "top_of" [netD m ms] st = some (.int (topF ms), st) := by
  refine callF_eq (callF_w hT rfl ?_)
  simp [ftop_of, ctop_of, wB_cons, idx_net1]
  refine compL_ok ms mtD (fun x => .int (x.t + x.l)) rfl (fun x hx => ⟨_, rfl, rfl, ev_eq ?_⟩) ?_
  · simp [wipeD, mtD]
  have e : (ms.map fun x => D.int (x.t + x.l)) = (ms.map fun x => x.t + x.l).map D.int := by simp
  have hm : mmApp true st (.tmp (ms.map fun x => D.int (x.t + x.l))) (.val (.int 0)) = some (.val (.int (topF ms))) := by
    rw [e]
    simp only [mmApp, listOf, Option.bind_some, intsOf_map, if_true, topF]
    cases maxI (ms.map fun x => x.t + x.l) <;> rfl
  simp [hm]
def tnI (ms : List Mt) (top : Int) (a : D) (st0 : Sto) (zs : List Mt) (ρ : Env) (s : Sto) : Prop :=
  ∃ (done : List Mt) (r3 r4 r5 r6 r7 : Option D), done ++ zs = ms ∧ s = st0 ++ [.lst ((done.map (tuM top)).map mtD)] ∧ ρ = [some a, some (.int top), some (.ref st0.length), r3, r4, r5, r6, r7]
theorem turned_net_ok (hT : Has T "turned_net" fturned_net) (hl : ms.length ≤ 1000000) : callF T n (k + 1) "turned_net" [netD m ms, .int top] st = some (netD m (ms.map (tuM top)), st) := by
  refine callF_eq (callF_w hT rfl ?_)
  simp [fturned_net, cturned_net, wB_cons, idx_net1]
  refine for_map mtD (tnI ms top (netD m ms) st) ?_ ?_ ms _ _ ⟨[], none, none, none, none, none, rfl, rfl, rfl⟩
  · rintro ρ s ⟨done, r3, r4, r5, r6, r7, e, rfl, rfl⟩
    simp only [List.append_nil] at e
    subst e
    refine ⟨rfl, ?_⟩
    have hlow := lowL_mt (j := st.length) (ms := done.map (tuM top))
    simp [idx_net0, tup_ref get_last]
    rw [gc_app (by simpa using hlow)]
    exact ⟨by simp [netD], rfl⟩
  · rintro z zs ρ s ⟨done, r3, r4, r5, r6, r7, e, rfl, rfl⟩
    refine ⟨rfl, _, rfl, ?_⟩
    have hlen : done.length + 1 ≤ 1000000 := by have := congrArg List.length e; simp at this; omega
    have hap := app_ref (st := st ++ [.lst ((done.map (tuM top)).map mtD)]) (r := .val (mtD (tuM top z))) get_last (by simp; omega)
    simp [mtD, tuM] at hap
    show wB _ _ _ _ _ _
    simp [wB_cons, mtD, tuM, hap]
    exact ⟨done ++ [z], _, _, _, _, _, by simp [e], by simp [mtD, tuM], rfl⟩
end
/-! ### from where a row of numbers can be gone -/
def pr2D (x : Int × Int) : D := .tup [.int x.1, .int x.2]
def endsF (m : Nat) (ms : List Mt) (ds : List D) : List (Int × Int) := (List.range m).filterMap fun (i : Nat) => (wayGo ms (i : Int) 0 ds).map fun ss => ((i : Int), endP (i : Int) ss)
theorem mem_ends {m : Nat} {ms : List Mt} {ds : List D} {x : Int × Int} : x ∈ endsF m ms ds ↔ 0 ≤ x.1 ∧ x.1 < m ∧ ∃ ss, wayGo ms x.1 0 ds = some ss ∧ x.2 = endP x.1 ss := by
  simp only [endsF, List.mem_filterMap, List.mem_range, Option.map_eq_some_iff]
  constructor
  · rintro ⟨i, hi, ss, h, rfl⟩
    exact ⟨by simp only; omega, by simp only; omega, ss, h, rfl⟩
  · rintro ⟨h0, h1, ss, h, e⟩
    refine ⟨x.1.toNat, by omega, ss, ?_, ?_⟩
    · rw [Int.toNat_of_nonneg h0]; exact h
    · rw [Int.toNat_of_nonneg h0, ← e]
theorem ends_pw {m : Nat} {ms : List Mt} {ds : List D} : (endsF m ms ds).Pairwise fun a b => a.1 < b.1 := by
  unfold endsF
  rw [List.pairwise_filterMap]
  refine List.pairwise_lt_range.imp ?_
  intro i j hij a ha b hb
  simp only [Option.map_eq_some_iff] at ha hb
  obtain ⟨_, _, rfl⟩ := ha
  obtain ⟨_, _, rfl⟩ := hb
  simp only; omega
section
variable {T : Tab} {n k : Nat} {st : Sto} {ms : List Mt} {m : Nat}
def enI (m : Nat) (ms : List Mt) (ds : List D) (a b : D) (st0 : Sto) (i : Nat) (ρ : Env) (s : Sto) : Prop :=
  ∃ (r3 : Option D), s = st0 ++ [.lst ((endsF i ms ds).map pr2D)] ∧ ρ = [some a, some b, some (.ref st0.length), r3]
theorem ends_ok (H : HWy T) (hT : Has T "_law_ends" fB_law_ends) (hm : m ≤ 1000) {js : List Int} (hj : js.length ≤ 1000) : callF T n (k + 4) "_law_ends" [netD m ms, .tup (js.map .int)] st = some (.ref st.length, st ++ [.lst ((endsF m ms (js.map .int)).map pr2D)]) := by
  refine callF_eq (callF_w hT rfl ?_)
  simp [fB_law_ends, cB_law_ends, wB_cons, idx_net0, rngN (show m < 2 ^ 62 by omega)]
  refine for_rng (enI m ms (js.map .int) (netD m ms) (.tup (js.map .int)) st) ?_ ?_ _ _ ⟨none, by simp [endsF], rfl⟩
  · rintro ρ s ⟨r3, rfl, rfl⟩
    have hlow : O.low st.length (.lst ((endsF m ms (js.map .int)).map pr2D)) = true := by
      simp only [O.low, lowL_all]; intro x hx; obtain ⟨y, _, rfl⟩ := List.mem_map.mp hx; rfl
    simp [gc_one hlow]
  · rintro i ρ s hi ⟨r3, rfl, rfl⟩
    refine ⟨_, rfl, ?_⟩
    have hth : ∀ s : Sto, thOk s (.tup (js.map D.int)) = true := fun s => by
      refine okV_th ?_
      simp only [okV]
      rw [okVL_all]; intro x hx; obtain ⟨y, _, rfl⟩ := List.mem_map.mp hx; rfl
    have hi' := fun s : Sto => H.is (n := n) (k := k) (m := (m : Int)) (ms := ms) (p := (i : Int)) (t := 0) (hth s)
    have hle : (endsF i ms (js.map D.int)).length ≤ i := by
      have := List.length_filterMap_le (fun i : Nat => (wayGo ms (i : Int) 0 (js.map D.int)).map fun ss => ((i : Int), endP (i : Int) ss)) (List.range i)
      simpa [endsF] using this
    have es : endsF (i + 1) ms (js.map D.int) = endsF i ms (js.map D.int) ++ ((wayGo ms (i : Int) 0 (js.map D.int)).map fun ss => ((i : Int), endP (i : Int) ss)).toList := by
      simp only [endsF, List.range_succ, List.filterMap_append, List.filterMap_cons, List.filterMap_nil]
      cases wayGo ms (i : Int) 0 (js.map D.int) <;> rfl
    show wB _ _ _ _ _ _
    simp only [isWayB] at hi'
    simp [wB_cons, hi']
    cases hw : wayGo ms (i : Int) 0 (js.map D.int) with
    | none =>
      simp
      exact ⟨_, by rw [es, hw]; simp, rfl⟩
    | some ss =>
      obtain ⟨e1, e2⟩ := wayGo_some hw
      have hlen : ss.length ≤ 1000 := by have := congrArg List.length e1; simp at this; omega
      have hp := fun s : Sto => H.pl (n := n) (k := k + 1) (m := (m : Int)) (st := s) (by omega : ss.length ≤ 1000000) e2
      have ek : kD ss = .tup (js.map D.int) := by simp only [kD, e1]
      rw [ek] at hp
      have hlast : ∀ s : Sto, idxApp s (.val (plcD (i : Int) ss)) (.val (.int (-1))) = some (.val (.int (endP (i : Int) ss))) := fun s => by
        simp only [plcD, idx_tup, idx_pl_last]; rfl
      have hap := app_ref (st := st ++ [.lst ((endsF i ms (js.map D.int)).map pr2D)]) (r := .val (pr2D ((i : Int), endP (i : Int) ss))) get_last (by simp; omega)
      simp [pr2D] at hap
      simp [hp, hlast, wB_cons, hap]
      exact ⟨_, by rw [es, hw]; simp [pr2D], rfl⟩
end
/-- the swapped row, sorted, is the row of the turned net -/
theorem ends_tu {m : Nat} {ms : List Mt} {top : Int} {js : List Int} (hok : ∀ x ∈ ms, x.ok m) (ht : ∀ x ∈ ms, x.t + x.l ≤ top) :
    ((endsF m (ms.map (tuM top)) (js.map D.int).reverse).map fun x => (x.2, x.1)).mergeSort (fun a b => decide ([a.1, a.2] ≤ [b.1, b.2])) = endsF m ms (js.map D.int) := by
  have key : ∀ {ms : List Mt}, (∀ x ∈ ms, x.a ≠ x.b ∧ 0 ≤ x.a ∧ x.a < m ∧ 0 ≤ x.b ∧ x.b < m) → (∀ x ∈ ms, x.t + x.l ≤ top) → ∀ {ds : List D} {x : Int × Int}, x ∈ endsF m ms ds → (x.2, x.1) ∈ endsF m (ms.map (tuM top)) ds.reverse := by
    intro ms hok ht ds x hx
    obtain ⟨h0, h1, ss, h2, h3⟩ := mem_ends.mp hx
    obtain ⟨e1, e2⟩ := wayGo_some h2
    subst e1
    have hg := wayGo_tu (top := top) (fun x hx => (hok x hx).1) h2
    have hend : 0 ≤ endP x.1 ss ∧ endP x.1 ss < m := by
      cases hss : ss with
      | nil => exact ⟨h0, h1⟩
      | cons s l =>
        have : ∀ (l : List Sp) (p : Int), Chn ms p l → (0 ≤ p ∧ p < m) → 0 ≤ endP p l ∧ endP p l < m := by
          intro l
          induction l with
          | nil => intro p _ h; exact h
          | cons s l ih =>
            intro p hc _
            refine ih s.b hc.2 ?_
            obtain ⟨y, hy, _, _, h⟩ := sFrom_u hc.1
            obtain ⟨q1, q2, q3, q4, q5⟩ := hok y (List.mem_of_getElem? hy)
            rcases h with ⟨_, e⟩ | ⟨_, _, e⟩ <;> rw [e]
            · exact ⟨q4, q5⟩
            · exact ⟨q2, q3⟩
        rw [← hss]
        exact this ss x.1 e2 ⟨h0, h1⟩
    have hs0 := wayGo_at (t' := 0) hg
    have hgo : goesAt 0 (ss.reverse.map (tuS top)) = true := by
      cases hr : ss.reverse with
      | nil => rfl
      | cons s l =>
        have hm : s ∈ ss := by rw [← List.mem_reverse, hr]; exact List.mem_cons_self
        have : ∀ (l : List Sp) (p : Int), Chn ms p l → ∀ s ∈ l, s.u ≤ top := by
          intro l
          induction l with
          | nil => intro p _ s hs; cases hs
          | cons z l ih =>
            intro p hc s hs
            rcases List.mem_cons.mp hs with rfl | hs
            · obtain ⟨y, hy, _, h2, _⟩ := sFrom_u hc.1
              rw [h2]; exact ht y (List.mem_of_getElem? hy)
            · exact ih _ hc.2 s hs
        have := this ss x.1 e2 s hm
        simp only [List.map_cons, goesAt, tuS, decide_eq_true_eq]; omega
    rw [hgo] at hs0
    obtain ⟨ss', hss'⟩ := Option.isSome_iff_exists.mp hs0
    refine mem_ends.mpr ⟨by rw [h3]; exact hend.1, by rw [h3]; exact hend.2, ss', by simp only [h3]; exact hss', ?_⟩
    have hk : ss' = ss.reverse.map (tuS top) := by
      have : ∀ {ms : List Mt} {ds : List D} {p t t' : Int} {a b : List Sp}, wayGo ms p t ds = some a → wayGo ms p t' ds = some b → a = b := by
        intro ms ds
        induction ds with
        | nil => intro p t t' a b h h'; cases h; cases h'; rfl
        | cons d ds ih =>
          intro p t t' a b h h'
          simp only [wayGo] at h h'
          cases hd : nextS ms p t d with
          | none => rw [hd] at h; cases h
          | some s =>
            cases hd' : nextS ms p t' d with
            | none => rw [hd'] at h'; cases h'
            | some s' =>
              rw [hd] at h; rw [hd'] at h'
              simp only [Option.map_eq_some_iff] at h h'
              obtain ⟨l, h1, rfl⟩ := h
              obtain ⟨l', h1', rfl⟩ := h'
              obtain ⟨e1, e2, _⟩ := nextS_some hd
              obtain ⟨e1', e2', _⟩ := nextS_some hd'
              rw [e1] at e1'
              have : s.k = s'.k := by simp at e1'; omega
              rw [this] at e2
              rw [e2] at e2'
              cases e2'
              rw [ih h1 h1']
      exact this hss' hg
    rw [hk, h3]
    exact (endP_tu e2).symm
  have hok1 : ∀ x ∈ ms, x.a ≠ x.b ∧ 0 ≤ x.a ∧ x.a < m ∧ 0 ≤ x.b ∧ x.b < m := fun x hx => by
    obtain ⟨q1, q2, q3, q4, q5, _⟩ := hok x hx
    exact ⟨q5, q1, q2, q3, q4⟩
  have hok2 : ∀ x ∈ ms.map (tuM top), x.a ≠ x.b ∧ 0 ≤ x.a ∧ x.a < m ∧ 0 ≤ x.b ∧ x.b < m := fun x hx => by
    obtain ⟨y, hy, rfl⟩ := List.mem_map.mp hx
    obtain ⟨q1, q2, q3, q4, q5⟩ := hok1 y hy
    exact ⟨fun e => q1 e.symm, q4, q5, q2, q3⟩
  have ht2 : ∀ x ∈ ms.map (tuM top), x.t + x.l ≤ top := fun x hx => by
    obtain ⟨y, hy, rfl⟩ := List.mem_map.mp hx
    obtain ⟨_, _, _, _, _, q6, q7⟩ := hok y hy
    simp only [tuM]; omega
  have nd1 : (endsF m ms (js.map D.int)).Nodup := ends_pw.imp fun {a b} h e => by rw [e] at h; omega
  have nd2 : ((endsF m (ms.map (tuM top)) (js.map D.int).reverse).map fun x => (x.2, x.1)).Nodup := by
    rw [List.Nodup, List.pairwise_map]
    exact ends_pw.imp fun {a b} h e => by
      have := congrArg Prod.snd e
      simp only at this; omega
  have pm : ((endsF m (ms.map (tuM top)) (js.map D.int).reverse).map fun x => (x.2, x.1)).Perm (endsF m ms (js.map D.int)) := by
    refine (List.perm_ext_iff_of_nodup nd2 nd1).mpr fun x => ?_
    constructor
    · intro hx
      obtain ⟨y, hy, rfl⟩ := List.mem_map.mp hx
      have := key hok2 ht2 hy
      rw [tuMs, List.reverse_reverse] at this
      exact this
    · intro hx
      have := key hok1 ht hx
      exact List.mem_map.mpr ⟨(x.2, x.1), this, rfl⟩
  have p1 := sort_pairs (fun x : Int × Int => [x.1, x.2]) ((endsF m (ms.map (tuM top)) (js.map D.int).reverse).map fun x => (x.2, x.1))
  refine List.Perm.eq_of_pairwise (le := fun a b : Int × Int => [a.1, a.2] ≤ [b.1, b.2]) (fun a b _ _ h1 h2 => ?_) p1 ?_ ((List.mergeSort_perm _ _).trans pm)
  · have := List.le_antisymm h1 h2
    simp at this
    exact Prod.ext this.1 this.2
  · exact ends_pw.imp fun {a b} h => by
      refine List.le_of_lt ?_
      exact List.cons_lt_cons_iff.mpr (.inl h)
end Mw

set_option Elab.async false
set_option linter.all false
set_option autoImplicit false
set_option maxRecDepth 100000
/-! PyJ1: all ways of at most four meetings, as a table by rows (deck B). -/
namespace Mw
open PySem
/-- a row of numbers -/
def rowN (xs : List Nat) : D := .tup (xs.map fun i : Nat => D.int (i : Int))
abbrev RT4 : Type := List (List Nat × (Int × Int))
def kvW (L : RT4) : List (D × D) := L.map fun e => (rowN e.1, .tup [.int e.2.1, .int e.2.2])
def lookW : RT4 → List Nat → Option (Int × Int)
  | [], _ => none
  | e :: L, xs => if e.1 = xs then some e.2 else lookW L xs
def putW (xs : List Nat) (v : Int × Int) (L : RT4) : RT4 := if (L.any fun p => decide (p.1 = xs)) = true then L.map (fun p => if p.1 = xs then (p.1, v) else p) else L ++ [(xs, v)]
theorem rowN_inj {xs ys : List Nat} (h : rowN xs = rowN ys) : xs = ys := by
  unfold rowN at h
  simp only [D.tup.injEq] at h
  induction xs generalizing ys with
  | nil => cases ys with
    | nil => rfl
    | cons y ys => cases h
  | cons x xs ih => cases ys with
    | nil => cases h
    | cons y ys =>
      simp only [List.map_cons, List.cons.injEq, D.int.injEq] at h
      rw [ih h.2]
      have : x = y := by omega
      rw [this]
theorem rowN_iff {xs ys : List Nat} : rowN xs = rowN ys ↔ xs = ys := ⟨rowN_inj, fun h => by rw [h]⟩
theorem tk_rowN (xs : List Nat) : tkOk (rowN xs) = true := by
  unfold rowN tkOk
  rw [List.all_eq_true]
  intro x hx
  obtain ⟨i, _, rfl⟩ := List.mem_map.mp hx
  rfl
theorem get_kvW : ∀ (L : RT4) (xs : List Nat), dicGet (rowN xs) (kvW L) = (lookW L xs).map fun v => .tup [.int v.1, .int v.2]
  | [], xs => rfl
  | e :: L, xs => by
    have ih := get_kvW L xs
    by_cases he : e.1 = xs
    · simp [kvW, dicGet, lookW, he]
    · have : rowN e.1 ≠ rowN xs := fun h => he (rowN_inj h)
      simp only [kvW, List.map_cons, dicGet, if_neg this, lookW, if_neg he]
      exact ih
theorem put_kvW (L : RT4) (xs : List Nat) (v : Int × Int) : dicPut (rowN xs) (.tup [.int v.1, .int v.2]) (kvW L) = kvW (putW xs v L) := by
  have ha : ((kvW L).any fun p => decide (p.1 = rowN xs)) = (L.any fun p => decide (p.1 = xs)) := by
    unfold kvW
    rw [List.any_map]
    congr 1
    funext p
    simp [rowN_iff]
  unfold dicPut putW
  rw [ha]
  split
  · unfold kvW
    rw [List.map_map, List.map_map]
    apply List.map_congr_left
    intro e _
    simp only [Function.comp, rowN_iff]
    by_cases he : e.1 = xs
    · simp [he]
    · simp [he]
  · simp [kvW]
theorem kvW_len {L : RT4} : (kvW L).length = L.length := by simp [kvW]
theorem look_put (xs : List Nat) (v : Int × Int) (ys : List Nat) : ∀ (L : RT4), lookW (putW xs v L) ys = if xs = ys then some v else lookW L ys := by
  have e1 : ∀ L : RT4, xs ≠ ys → lookW (L.map fun p => if p.1 = xs then (p.1, v) else p) ys = lookW L ys := by
    intro L hy
    induction L with
    | nil => rfl
    | cons e L ih =>
      rw [List.map_cons]
      by_cases he : e.1 = xs
      · have h2 : e.1 ≠ ys := fun z => hy (he.symm.trans z)
        rw [if_pos he]
        simp only [lookW, if_neg h2, ih]
      · rw [if_neg he]
        simp only [lookW, ih]
  have e2 : ∀ L : RT4, (L.any fun p => decide (p.1 = xs)) = true → lookW (L.map fun p => if p.1 = xs then (p.1, v) else p) xs = some v := by
    intro L h
    induction L with
    | nil => simp at h
    | cons e L ih =>
      rw [List.map_cons]
      by_cases he : e.1 = xs
      · rw [if_pos he]; simp only [lookW, if_pos he]
      · rw [if_neg he]
        simp only [lookW, if_neg he]
        exact ih (by simpa [he] using h)
  have e3 : ∀ L : RT4, (L.any fun p => decide (p.1 = xs)) = false → lookW (L ++ [(xs, v)]) ys = if xs = ys then some v else lookW L ys := by
    intro L h
    induction L with
    | nil => rfl
    | cons e L ih =>
      rw [List.any_cons, Bool.or_eq_false_iff] at h
      have he : e.1 ≠ xs := of_decide_eq_false h.1
      rw [List.cons_append]
      simp only [lookW]
      rw [ih h.2]
      by_cases hy : xs = ys
      · have h2 : e.1 ≠ ys := fun z => he (z.trans hy.symm)
        rw [if_neg h2]; simp only [if_pos hy]
      · simp only [if_neg hy]
  intro L
  unfold putW
  cases ha : L.any fun p => decide (p.1 = xs) with
  | true =>
    rw [if_pos rfl]
    by_cases hy : xs = ys
    · subst hy; rw [if_pos rfl]; exact e2 L ha
    · rw [if_neg hy]; exact e1 L hy
  | false =>
    rw [if_neg (by decide)]
    exact e3 L ha
theorem put_nd {xs : List Nat} {v : Int × Int} {L : RT4} (h : (L.map (·.1)).Nodup) : ((putW xs v L).map (·.1)).Nodup := by
  unfold putW
  split
  · rw [List.map_map]
    have : ((fun e : List Nat × (Int × Int) => e.1) ∘ fun p => if p.1 = xs then (p.1, v) else p) = fun e => e.1 := by
      funext p; simp only [Function.comp]; split <;> rfl
    rw [this]; exact h
  · rename_i hn
    rw [List.map_append, List.nodup_append]
    refine ⟨h, by simp, fun a ha b hb => ?_⟩
    simp only [List.map_cons, List.map_nil, List.mem_singleton] at hb
    subst hb
    rintro rfl
    obtain ⟨e, he, rfl⟩ := List.mem_map.mp ha
    exact hn (List.any_eq_true.mpr ⟨e, he, by simp⟩)
theorem put_len {xs : List Nat} {v : Int × Int} {L : RT4} : (putW xs v L).length ≤ L.length + 1 := by
  unfold putW
  split <;> simp
theorem look_mem {xs : List Nat} : ∀ {L : RT4}, (lookW L xs).isSome = true ↔ xs ∈ L.map (·.1)
  | [] => by simp [lookW]
  | e :: L => by
    have ih := look_mem (xs := xs) (L := L)
    rw [List.map_cons, List.mem_cons]
    by_cases he : e.1 = xs
    · simp [lookW, he]
    · simp only [lookW, if_neg he, ih]
      constructor
      · exact .inr
      · rintro (z | z)
        · exact absurd z.symm he
        · exact z
/-! ### ways by rows -/
section
variable {ms : List Mt} {p t : Int}
def goN (ms : List Mt) (p t : Int) (xs : List Nat) : Option (List Sp) := wayGo ms p t (xs.map fun i : Nat => D.int (i : Int))
def isN (ms : List Mt) (p t : Int) (xs : List Nat) : Bool := (goN ms p t xs).isSome
def valN (ms : List Mt) (p t : Int) (xs : List Nat) : Int × Int := match goN ms p t xs with
  | some ss => (endP p ss, endT t ss)
  | none => (0, 0)
theorem goN_k {xs : List Nat} {ss : List Sp} (h : goN ms p t xs = some ss) : xs = ss.map (·.k) := by
  obtain ⟨e, _⟩ := wayGo_some h
  apply rowN_inj
  unfold rowN
  rw [e, List.map_map]; rfl
theorem goN_row {xs : List Nat} {ss : List Sp} (h : goN ms p t xs = some ss) : rowN xs = kD ss := by
  rw [goN_k h]; simp [rowN, kD]
theorem goN_nil : goN ms p t [] = some [] := rfl
theorem goN_snoc {xs : List Nat} {i : Nat} {ss : List Sp} (h : goN ms p t xs = some ss) :
    goN ms p t (xs ++ [i]) = (nextS ms (endP p ss) (endT t ss) (.int i)).map fun s => ss ++ [s] := by
  have key : ∀ (xs : List Nat) (p t : Int) (ss : List Sp), goN ms p t xs = some ss → goN ms p t (xs ++ [i]) = (nextS ms (endP p ss) (endT t ss) (.int i)).map fun s => ss ++ [s] := by
    intro xs
    induction xs with
    | nil =>
      intro p t ss h
      cases h
      simp only [goN, List.nil_append, List.map_cons, List.map_nil, wayGo, endP, endT]
      cases nextS ms p t (.int i) <;> rfl
    | cons x xs ih =>
      intro p t ss h
      simp only [goN, List.map_cons, wayGo] at h
      cases hs : nextS ms p t (.int x) with
      | none => rw [hs] at h; cases h
      | some s =>
        rw [hs] at h
        simp only [Option.map_eq_some_iff] at h
        obtain ⟨l, hl, rfl⟩ := h
        have := ih s.b s.u l hl
        simp only [goN, List.cons_append, List.map_cons, wayGo, hs, endP, endT] at this ⊢
        rw [this]
        cases nextS ms (endP s.b l) (endT s.u l) (.int i) <;> rfl
  exact key xs p t ss h
theorem goN_pre {xs : List Nat} {i : Nat} {l : List Sp} (h : goN ms p t (xs ++ [i]) = some l) : ∃ ss, goN ms p t xs = some ss := by
  unfold goN at h ⊢
  rw [List.map_append] at h
  obtain ⟨a, _, _, h1, _⟩ := wayGo_split h
  exact ⟨a, h1⟩
theorem next_nat {i : Nat} (hi : i < ms.length) : nextS ms p t (.int i) = match sFrom ms i p with
    | some s => if s.t < t then none else some s
    | none => none := by
  simp only [nextS]
  rw [if_pos ⟨by omega, by omega⟩]
  rfl
theorem next_lt {i : Nat} {s : Sp} (h : nextS ms p t (.int i) = some s) : i < ms.length := by
  have := nextS_some h
  obtain ⟨e, _, _, h2⟩ := this
  simp only [D.int.injEq] at e
  omega
/-- a way holds no meeting twice, and begins later and later -/
theorem goN_inc (hl : ∀ x ∈ ms, 1 ≤ x.l) : ∀ (xs : List Nat) (p t : Int) (ss : List Sp), goN ms p t xs = some ss → xs.Nodup ∧ ∀ i ∈ xs, i < ms.length ∧ ∃ x, ms[i]? = some x ∧ t ≤ x.t
  | [], _, _, _, _ => ⟨List.nodup_nil, fun i hi => by cases hi⟩
  | x :: xs, p, t, ss, h => by
    simp only [goN, List.map_cons, wayGo] at h
    cases hs : nextS ms p t (.int x) with
    | none => rw [hs] at h; cases h
    | some s =>
      rw [hs] at h
      simp only [Option.map_eq_some_iff] at h
      obtain ⟨l, hl', rfl⟩ := h
      obtain ⟨h1, h2⟩ := goN_inc hl xs s.b s.u l hl'
      obtain ⟨e1, e2, e3, e4⟩ := nextS_some hs
      simp only [D.int.injEq] at e1
      have ek : x = s.k := by omega
      obtain ⟨y, hy, ht, hu, _⟩ := sFrom_u e2
      have hly := hl y (List.mem_of_getElem? hy)
      refine ⟨List.nodup_cons.mpr ⟨fun hm => ?_, h1⟩, fun i hi => ?_⟩
      · obtain ⟨_, z, hz, htz⟩ := h2 x hm
        rw [ek, hy] at hz
        simp only [Option.some.injEq] at hz
        subst hz
        omega
      · rcases List.mem_cons.mp hi with rfl | hi
        · exact ⟨by omega, y, by rw [ek]; exact hy, by omega⟩
        · obtain ⟨q1, z, hz, htz⟩ := h2 i hi
          exact ⟨q1, z, hz, by omega⟩
/-! ### levels -/
def addN (ms : List Mt) (p t : Int) (xs : List Nat) : List (List Nat) := ((List.range ms.length).filter fun i => isN ms p t (xs ++ [i])).map fun i => xs ++ [i]
def levN (ms : List Mt) (p t : Int) : Nat → List (List Nat)
  | 0 => [[]]
  | i + 1 => (levN ms p t i).flatMap (addN ms p t)
def totN (ms : List Mt) (p t : Int) : Nat → List (List Nat)
  | 0 => [[]]
  | i + 1 => totN ms p t i ++ levN ms p t (i + 1)
theorem lev_iff : ∀ (j : Nat) (xs : List Nat), xs ∈ levN ms p t j ↔ isN ms p t xs = true ∧ xs.length = j
  | 0, xs => by
    simp only [levN, List.mem_singleton]
    constructor
    · rintro rfl; exact ⟨rfl, rfl⟩
    · intro h; exact List.length_eq_zero_iff.mp h.2
  | j + 1, xs => by
    simp only [levN, List.mem_flatMap, addN, List.mem_map, List.mem_filter, List.mem_range]
    constructor
    · rintro ⟨ys, hy, i, ⟨_, h2⟩, rfl⟩
      refine ⟨h2, ?_⟩
      rw [List.length_append, ((lev_iff j ys).mp hy).2]; rfl
    · rintro ⟨h1, h2⟩
      have hne : xs ≠ [] := fun z => by rw [z] at h2; cases h2
      obtain ⟨ys, i, rfl⟩ : ∃ ys i, xs = ys ++ [i] := ⟨xs.dropLast, xs.getLast hne, (List.dropLast_concat_getLast hne).symm⟩
      unfold isN at h1
      obtain ⟨l, hl⟩ := Option.isSome_iff_exists.mp h1
      obtain ⟨ss, hss⟩ := goN_pre hl
      refine ⟨ys, (lev_iff j ys).mpr ⟨by unfold isN; rw [hss]; rfl, by simpa using h2⟩, i, ⟨?_, h1⟩, rfl⟩
      rw [goN_snoc hss] at hl
      simp only [Option.map_eq_some_iff] at hl
      obtain ⟨s, hs, _⟩ := hl
      exact next_lt hs
theorem tot_iff : ∀ (j : Nat) (xs : List Nat), xs ∈ totN ms p t j ↔ isN ms p t xs = true ∧ xs.length ≤ j
  | 0, xs => by
    rw [totN, show [[]] = levN ms p t 0 from rfl, lev_iff]
    simp
  | j + 1, xs => by
    rw [totN, List.mem_append, tot_iff j, lev_iff]
    constructor
    · rintro (h | h)
      · exact ⟨h.1, by omega⟩
      · exact ⟨h.1, by omega⟩
    · rintro ⟨h1, h2⟩
      by_cases h : xs.length ≤ j
      · exact .inl ⟨h1, h⟩
      · exact .inr ⟨h1, by omega⟩
theorem add_len {xs : List Nat} : (addN ms p t xs).length ≤ ms.length := by
  unfold addN
  rw [List.length_map]
  exact Nat.le_trans (List.length_filter_le _ _) (by simp)
theorem flat_len {α β : Type} {f : α → List β} {b : Nat} : ∀ {l : List α}, (∀ x ∈ l, (f x).length ≤ b) → (l.flatMap f).length ≤ l.length * b
  | [], _ => by simp
  | x :: l, h => by
    have h1 := h x (by simp)
    have h2 := flat_len (l := l) fun y hy => h y (by simp [hy])
    rw [List.flatMap_cons, List.length_append, List.length_cons, Nat.add_mul]
    omega
theorem lev_len (hm : ms.length ≤ 5) : ∀ (j : Nat), (levN ms p t j).length ≤ 5 ^ j
  | 0 => by simp [levN]
  | j + 1 => by
    have h1 := flat_len (f := addN ms p t) (b := 5) (l := levN ms p t j) fun x _ => Nat.le_trans add_len hm
    have h2 := lev_len hm j
    show ((levN ms p t j).flatMap _).length ≤ 5 ^ j * 5
    omega
/-- what is in the table -/
structure DcW (ms : List Mt) (p t : Int) (L : RT4) (Z : List (List Nat)) : Prop where
  nd : (L.map (·.1)).Nodup
  at_ : ∀ xs, lookW L xs = if xs ∈ Z then some (valN ms p t xs) else none
  len : L.length ≤ Z.length
theorem DcW.put {L : RT4} {Z : List (List Nat)} (h : DcW ms p t L Z) (xs : List Nat) : DcW ms p t (putW xs (valN ms p t xs) L) (Z ++ [xs]) := by
  refine ⟨put_nd h.nd, fun ys => ?_, ?_⟩
  · rw [look_put, h.at_]
    by_cases hy : xs = ys
    · subst hy; simp
    · simp only [if_neg hy, List.mem_append, List.mem_singleton]
      by_cases hz : ys ∈ Z
      · simp [hz]
      · rw [if_neg hz, if_neg]
        rintro (z | z)
        · exact hz z
        · exact hy z.symm
  · have := put_len (xs := xs) (v := valN ms p t xs) (L := L)
    have := h.len
    rw [List.length_append, List.length_singleton]
    omega
theorem DcW.keys {L : RT4} {Z : List (List Nat)} (h : DcW ms p t L Z) (xs : List Nat) : xs ∈ L.map (·.1) ↔ xs ∈ Z := by
  rw [← look_mem, h.at_]
  by_cases hz : xs ∈ Z <;> simp [hz]
/-! ### all rows -/
def exR (n : Nat) (xs : List Nat) : List (List Nat) := ((List.range n).filter fun i => !(xs.contains i)).map fun i => xs ++ [i]
def rlev (n : Nat) : Nat → List (List Nat)
  | 0 => [[]]
  | i + 1 => (rlev n i).flatMap (exR n)
def rtot (n : Nat) : Nat → List (List Nat)
  | 0 => [[]]
  | i + 1 => rtot n i ++ rlev n (i + 1)
def rowsN (n : Nat) : List (List Nat) := rtot n 4 ++ (List.range n).map fun i => [i, i]
theorem rlev_len {n : Nat} (hm : n ≤ 5) : ∀ (j : Nat), (rlev n j).length ≤ 5 ^ j
  | 0 => by simp [rlev]
  | j + 1 => by
    have h1 := flat_len (f := exR n) (b := 5) (l := rlev n j) fun x _ => by
      unfold exR
      rw [List.length_map]
      exact Nat.le_trans (List.length_filter_le _ _) (by simpa using hm)
    have h2 := rlev_len hm j
    show ((rlev n j).flatMap _).length ≤ 5 ^ j * 5
    omega
theorem rlev_mem {n : Nat} : ∀ (j : Nat) (xs : List Nat), xs.Nodup → (∀ i ∈ xs, i < n) → xs.length = j → xs ∈ rlev n j
  | 0, xs, _, _, h => by rw [List.length_eq_zero_iff.mp h]; simp [rlev]
  | j + 1, xs, hn, hi, h => by
    have hne : xs ≠ [] := fun z => by rw [z] at h; cases h
    obtain ⟨ys, i, rfl⟩ : ∃ ys i, xs = ys ++ [i] := ⟨xs.dropLast, xs.getLast hne, (List.dropLast_concat_getLast hne).symm⟩
    rw [List.nodup_append] at hn
    simp only [rlev, List.mem_flatMap, exR, List.mem_map, List.mem_filter, List.mem_range]
    refine ⟨ys, rlev_mem j ys hn.1 (fun x hx => hi x (by simp [hx])) (by simpa using h), i, ⟨hi i (by simp), ?_⟩, rfl⟩
    simp only [Bool.not_eq_true', List.contains_eq_mem, decide_eq_false_iff_not]
    exact fun z => hn.2.2 i z i (by simp) rfl
theorem rtot_mem {n : Nat} : ∀ (j : Nat) (xs : List Nat), xs.Nodup → (∀ i ∈ xs, i < n) → xs.length ≤ j → xs ∈ rtot n j
  | 0, xs, h1, h2, h => by
    have := rlev_mem (n := n) 0 xs h1 h2 (by omega)
    exact this
  | j + 1, xs, h1, h2, h => by
    rw [rtot, List.mem_append]
    by_cases hj : xs.length ≤ j
    · exact .inl (rtot_mem j xs h1 h2 hj)
    · exact .inr (rlev_mem (j + 1) xs h1 h2 (by omega))
theorem rlev_l {n : Nat} : ∀ (j : Nat) (xs : List Nat), xs ∈ rlev n j → xs.length = j
  | 0, xs, h => by simp only [rlev, List.mem_singleton] at h; subst h; rfl
  | j + 1, xs, h => by
    simp only [rlev, List.mem_flatMap, exR, List.mem_map] at h
    obtain ⟨ys, hy, i, _, rfl⟩ := h
    rw [List.length_append, rlev_l j ys hy]; rfl
theorem rtot_l {n : Nat} : ∀ (j : Nat) (xs : List Nat), xs ∈ rtot n j → xs.length ≤ j
  | 0, xs, h => by rw [rlev_l (n := n) 0 xs h]; omega
  | j + 1, xs, h => by
    rw [rtot, List.mem_append] at h
    rcases h with h | h
    · have := rtot_l j xs h; omega
    · rw [rlev_l _ xs h]; omega
theorem rtot_nd {n : Nat} (h : n ≤ 5) : (rtot n 4).Nodup := by
  have : ∀ n : Fin 6, (rtot n 4).Nodup := by decide +kernel
  exact this ⟨n, by omega⟩
/-- of all rows just the ways of the table -/
theorem count_rows {L : RT4} (hl : ∀ x ∈ ms, 1 ≤ x.l) (hm : ms.length ≤ 5) (h : DcW ms p t L (totN ms p t 4)) : ((rowsN ms.length).filter (isN ms p t)).length = L.length := by
  have h2 : ((List.range ms.length).map fun i => [i, i]).filter (isN ms p t) = [] := by
    rw [List.filter_eq_nil_iff]
    intro xs hx hi
    obtain ⟨i, _, rfl⟩ := List.mem_map.mp hx
    unfold isN at hi
    obtain ⟨ss, hs⟩ := Option.isSome_iff_exists.mp hi
    have := (goN_inc hl _ _ _ _ hs).1
    simp at this
  unfold rowsN
  rw [List.filter_append, h2, List.append_nil]
  have pe : List.Perm ((rtot ms.length 4).filter (isN ms p t)) (L.map (·.1)) := by
    rw [List.perm_ext_iff_of_nodup ((rtot_nd hm).filter _) h.nd]
    intro xs
    rw [h.keys, tot_iff, List.mem_filter]
    constructor
    · rintro ⟨a, b⟩; exact ⟨b, rtot_l 4 xs a⟩
    · rintro ⟨a, b⟩
      have a' := a
      unfold isN at a'
      obtain ⟨ss, hs⟩ := Option.isSome_iff_exists.mp a'
      obtain ⟨q1, q2⟩ := goN_inc hl _ _ _ _ hs
      exact ⟨rtot_mem 4 xs q1 (fun i hi => (q2 i hi).1) b, a⟩
  rw [pe.length_eq, List.length_map]
theorem rows_l {n : Nat} {xs : List Nat} (h : xs ∈ rowsN n) : xs.length ≤ 4 := by
  unfold rowsN at h
  rcases List.mem_append.mp h with h | h
  · exact rtot_l 4 xs h
  · obtain ⟨i, _, rfl⟩ := List.mem_map.mp h
    show 2 ≤ 4; decide
end
end Mw

set_option Elab.async false
set_option linter.all false
set_option autoImplicit false
set_option maxRecDepth 100000
/-! PyS2: what spreads; the table is the only one that is least by itself. -/
namespace Mw
open PySem
def coffers_to : CSs := (.cons (.asg (.nm 4) (.comp (.nm 10) (.rng (.cons (.bi .len (.cons (.var 1) .nil)) .nil)) (.cons (.cmp .eq (.idx (.idx (.var 1) (.var 10)) (.cst (.int 0))) (.var 3)) .nil) (.tup (.cons (.idx (.idx (.var 1) (.var 10)) (.cst (.int 1))) (.cons (.var 10) (.cons (.neg (.cst (.int 1))) .nil)))) [10])) (.cons (.for (.tp (.cons (.nm 5) (.cons (.nm 6) (.cons (.nm 7) (.cons (.nm 8) (.cons (.nm 9) .nil)))))) (.ex (.var 0)) (.cons (.ite (.and (.cmp .eq (.var 7) (.var 3)) (.and (.cmp .notN (.idx (.var 2) (.var 6)) (.cst .non)) (.cmp .le (.idx (.idx (.var 2) (.var 6)) (.cst (.int 0))) (.var 8)))) (.cons (.expr (.mt .append (.var 4) (.cons (.tup (.cons (.var 9) (.cons (.idx (.idx (.var 2) (.var 6)) (.cst (.int 1))) (.cons (.var 5) .nil)))) .nil))) .nil) .nil) .nil)) (.cons (.ret (.var 4)) .nil)))
def foffers_to : Fd := ⟨4, 11, coffers_to⟩
def cspread : CSs := (.cons (.asg (.nm 2) (.call "steps_of" (.cons (.var 0) .nil))) (.cons (.asg (.nm 3) (.bin .mul (.lst (.cons (.cst .non) .nil)) (.idx (.var 0) (.cst (.int 0))))) (.cons (.asg (.nm 4) (.cst (.bl true))) (.cons (.while (.var 4) (.cons (.asg (.nm 5) (.lst .nil)) (.cons (.for (.nm 6) (.rng (.cons (.idx (.var 0) (.cst (.int 0))) .nil)) (.cons (.ite (.cmp .isN (.idx (.var 3) (.var 6)) (.cst .non)) (.cons (.expr (.mt .extend (.var 5) (.cons (.comp (.nm 7) (.ex (.call "offers_to" (.cons (.var 2) (.cons (.var 1) (.cons (.var 3) (.cons (.var 6) .nil)))))) .nil (.tup (.cons (.var 7) (.cons (.var 6) .nil))) [7]) .nil))) .nil) .nil) .nil)) (.cons (.asg (.nm 4) (.cmp .ne (.var 5) (.lst .nil))) (.cons (.ite (.var 4) (.cons (.asg (.tp (.cons (.nm 7) (.cons (.nm 6) .nil))) (.bi .min (.cons (.var 5) .nil))) (.cons (.put (.var 3) (.var 6) (.var 7)) .nil)) .nil) .nil))))) (.cons (.ret (.bi .tuple (.cons (.var 3) .nil))) .nil)))))
def fspread : Fd := ⟨2, 8, cspread⟩
structure Ofr where
  t : Int
  h : Int
  k : Int
def Ofr.key (x : Ofr) : List Int := [x.t, x.h, x.k]
def ofD (x : Ofr) : D := .tup [.int x.t, .int x.h, .int x.k]
def tbD : Option Ofr → D
  | none => .non
  | some x => ofD x
def hnD (h : Int × Int) : D := .tup [.int h.1, .int h.2]
def tg (tab : List (Option Ofr)) (p : Int) : Option Ofr := if 0 ≤ p then (tab[p.toNat]?).join else none
def handO (hs : List (Int × Int)) (p : Int) : List Ofr := ((List.range hs.length).filter fun i => decide ((hs.getD i (0, 0)).1 = p)).map fun i => ⟨(hs.getD i (0, 0)).2, i, -1⟩
def goes (tab : List (Option Ofr)) (p : Int) (s : Sp) : Option Ofr := if s.b = p then (match tg tab s.a with
  | some x => if x.t ≤ s.t then some ⟨s.u, x.h, s.k⟩ else none
  | none => none) else none
def offers (hs : List (Int × Int)) (S : List Sp) (tab : List (Option Ofr)) (p : Int) : List Ofr := handO hs p ++ S.filterMap (goes tab p)
structure RT (S : List Sp) (hs : List (Int × Int)) (m : Nat) (tab : List (Option Ofr)) : Prop where
  len : tab.length = m
  no : ∀ p : Int, 0 ≤ p → p < m → tg tab p = none → offers hs S tab p = []
  yes : ∀ (p : Int) (x : Ofr), tg tab p = some x → x ∈ offers hs S tab p ∧ ∀ y ∈ offers hs S tab p, x.key ≤ y.key
section
variable {S : List Sp} {hs : List (Int × Int)} {m : Nat} {tab tab' : List (Option Ofr)}
theorem Ofr.key_inj {x y : Ofr} (h : x.key = y.key) : x = y := by
  cases x; cases y; simp [Ofr.key] at h; simp [h]
theorem key_t {x y : Ofr} (h : x.key ≤ y.key) : x.t ≤ y.t := by
  rcases Int.lt_or_le y.t x.t with h1 | h1
  · exact absurd (List.cons_lt_cons_iff.mpr (.inl h1) : y.key < x.key) (List.not_lt.mpr h)
  · exact h1
theorem key_of_t {x y : Ofr} (h : x.t < y.t) : x.key ≤ y.key := List.le_of_lt (List.cons_lt_cons_iff.mpr (.inl h))
theorem tg_lt {p : Int} {x : Ofr} (h : tg tab p = some x) : 0 ≤ p ∧ p < tab.length := by
  unfold tg at h
  split at h
  · rename_i h0
    refine ⟨h0, ?_⟩
    cases e : tab[p.toNat]? with
    | none => rw [e] at h; cases h
    | some y => have := (List.getElem?_eq_some_iff.mp e).1; omega
  · cases h
theorem mem_offers {p : Int} {y : Ofr} : y ∈ offers hs S tab p ↔ y ∈ handO hs p ∨ ∃ s ∈ S, s.b = p ∧ ∃ x, tg tab s.a = some x ∧ x.t ≤ s.t ∧ y = ⟨s.u, x.h, s.k⟩ := by
  simp only [offers, List.mem_append, List.mem_filterMap]
  refine or_congr Iff.rfl ⟨?_, ?_⟩
  · rintro ⟨s, hs, h⟩
    unfold goes at h
    split at h
    · rename_i hb
      split at h
      · rename_i x hx
        split at h
        · rename_i hle
          cases h
          exact ⟨s, hs, hb, x, hx, hle, rfl⟩
        · cases h
      · cases h
    · cases h
  · rintro ⟨s, hs, hb, x, hx, hle, rfl⟩
    exact ⟨s, hs, by unfold goes; rw [if_pos hb, hx]; simp [hle]⟩
/-- the time of what is otherwise in two tables -/
theorem RT.uniq (hS : ∀ s ∈ S, s.t < s.u) (h : RT S hs m tab) (h' : RT S hs m tab') : tab = tab' := by
  have key : ∀ (n : Nat) (τ0 : Int), ∀ p x, tg tab p = some x ∨ tg tab' p = some x → x.t < τ0 + n → (∀ p x, tg tab p = some x ∨ tg tab' p = some x → τ0 ≤ x.t) → tg tab p = some x ∧ tg tab' p = some x := by
    intro n
    induction n with
    | zero => intro τ0 p x hx hlt hall; have := hall p x hx; omega
    | succ n ih =>
      intro τ0 p x hx hlt hall
      -- an offer by the one table, of a lesser moment ahead of it, is one by the other
      have move : ∀ (A B : List (Option Ofr)), (∀ q y, tg A q = some y → y.t < τ0 + n → tg B q = some y) → ∀ y, y.t ≤ x.t → y ∈ offers hs S A p → y ∈ offers hs S B p := by
        intro A B hAB y hy hm
        rcases mem_offers.mp hm with hm | ⟨s, h1, h2, z, h3, h4, rfl⟩
        · exact mem_offers.mpr (.inl hm)
        · have := hS s h1
          simp only at hy
          exact mem_offers.mpr (.inr ⟨s, h1, h2, z, hAB _ _ h3 (by omega), h4, rfl⟩)
      have ab : ∀ q y, tg tab q = some y → y.t < τ0 + n → tg tab' q = some y := fun q y hy hl => (ih τ0 q y (.inl hy) hl hall).2
      have ba : ∀ q y, tg tab' q = some y → y.t < τ0 + n → tg tab q = some y := fun q y hy hl => (ih τ0 q y (.inr hy) hl hall).1
      rcases hx with hx | hx
      · obtain ⟨m1, l1⟩ := h.yes p x hx
        have m2 := move tab tab' ab x (Int.le_refl _) m1
        obtain ⟨p0, p1⟩ := tg_lt hx
        cases e : tg tab' p with
        | none => have := h'.no p p0 (by rw [h.len] at p1; exact p1) e; rw [this] at m2; cases m2
        | some y =>
          obtain ⟨m3, l3⟩ := h'.yes p y e
          have k1 := l3 x m2
          have m4 := move tab' tab ba y (key_t k1) m3
          have : y = x := Ofr.key_inj (List.le_antisymm k1 (l1 y m4))
          subst this
          exact ⟨hx, rfl⟩
      · obtain ⟨m1, l1⟩ := h'.yes p x hx
        have m2 := move tab' tab ba x (Int.le_refl _) m1
        obtain ⟨p0, p1⟩ := tg_lt hx
        cases e : tg tab p with
        | none => have := h.no p p0 (by rw [h'.len] at p1; exact p1) e; rw [this] at m2; cases m2
        | some y =>
          obtain ⟨m3, l3⟩ := h.yes p y e
          have k1 := l3 x m2
          have m4 := move tab tab' ab y (key_t k1) m3
          have : y = x := Ofr.key_inj (List.le_antisymm k1 (l1 y m4))
          subst this
          exact ⟨rfl, hx⟩
  have bnd : ∃ τ0 : Int, ∀ p x, tg tab p = some x ∨ tg tab' p = some x → τ0 ≤ x.t := by
    have one : ∀ l : List (Option Ofr), ∃ τ : Int, ∀ x, some x ∈ l → τ ≤ x.t := by
      intro l
      induction l with
      | nil => exact ⟨0, fun x hx => by cases hx⟩
      | cons a l ih =>
        obtain ⟨τ, hτ⟩ := ih
        cases a with
        | none => exact ⟨τ, fun x hx => by rcases List.mem_cons.mp hx with h | h; cases h; exact hτ x h⟩
        | some a =>
          refine ⟨min τ a.t, fun x hx => ?_⟩
          rcases List.mem_cons.mp hx with h | h
          · cases h; omega
          · have := hτ x h; omega
    obtain ⟨τ1, h1⟩ := one tab
    obtain ⟨τ2, h2⟩ := one tab'
    have mem : ∀ {l : List (Option Ofr)} {p : Int} {x : Ofr}, tg l p = some x → some x ∈ l := by
      intro l p x h
      unfold tg at h
      split at h
      · cases e : l[p.toNat]? with
        | none => rw [e] at h; cases h
        | some y => rw [e] at h; simp at h; subst h; exact List.mem_of_getElem? e
      · cases h
    refine ⟨min τ1 τ2, fun p x hx => ?_⟩
    rcases hx with hx | hx
    · have := h1 x (mem hx); omega
    · have := h2 x (mem hx); omega
  obtain ⟨τ0, hτ⟩ := bnd
  have all : ∀ p, tg tab p = tg tab' p := by
    intro p
    cases e : tg tab p with
    | some x => exact ((key (x.t - τ0 + 1).toNat τ0 p x (.inl e) (by have := hτ p x (.inl e); omega) hτ).2).symm
    | none =>
      cases e' : tg tab' p with
      | none => rfl
      | some x => have := (key (x.t - τ0 + 1).toNat τ0 p x (.inr e') (by have := hτ p x (.inr e'); omega) hτ).1; rw [e] at this; cases this
  refine List.ext_getElem? fun i => ?_
  by_cases hi : i < m
  · have := all (i : Int)
    unfold tg at this
    rw [if_pos (by omega), if_pos (by omega), Int.toNat_natCast] at this
    rw [List.getElem?_eq_getElem (by rw [h.len]; exact hi), List.getElem?_eq_getElem (by rw [h'.len]; exact hi)] at this ⊢
    simpa using this
  · rw [List.getElem?_eq_none (by rw [h.len]; omega), List.getElem?_eq_none (by rw [h'.len]; omega)]
/-- while places are taken -/
structure SI (S : List Sp) (hs : List (Int × Int)) (m : Nat) (tab : List (Option Ofr)) : Prop where
  len : tab.length = m
  yes : ∀ (p : Int) (x : Ofr), tg tab p = some x → x ∈ offers hs S tab p ∧ ∀ y ∈ offers hs S tab p, x.key ≤ y.key
  tau : ∃ τ : Int, (∀ (p : Int) (x : Ofr), tg tab p = some x → x.t ≤ τ) ∧ ∀ p : Int, 0 ≤ p → p < m → tg tab p = none → ∀ y ∈ offers hs S tab p, τ ≤ y.t
def cand (hs : List (Int × Int)) (S : List Sp) (tab : List (Option Ofr)) (m : Nat) : List (Ofr × Int) := (List.range m).flatMap fun (i : Nat) => if (tg tab (i : Int)).isNone then (offers hs S tab (i : Int)).map fun x => (x, (i : Int)) else []
theorem mem_cand {z : Ofr × Int} : z ∈ cand hs S tab m ↔ 0 ≤ z.2 ∧ z.2 < m ∧ tg tab z.2 = none ∧ z.1 ∈ offers hs S tab z.2 := by
  simp only [cand, List.mem_flatMap, List.mem_range]
  constructor
  · rintro ⟨i, hi, h⟩
    split at h
    · rename_i hn
      obtain ⟨x, hx, rfl⟩ := List.mem_map.mp h
      exact ⟨by simp only; omega, by simp only; omega, by simpa using hn, hx⟩
    · cases h
  · rintro ⟨h0, h1, h2, h3⟩
    refine ⟨z.2.toNat, by omega, ?_⟩
    rw [Int.toNat_of_nonneg h0, h2]
    simp only [Option.isNone_none, if_true]
    exact List.mem_map.mpr ⟨z.1, h3, rfl⟩
theorem si_nil : SI S hs m (List.replicate m none) := by
  have e : ∀ p, tg (List.replicate m none) p = none := fun p => by
    unfold tg
    split
    · rw [List.getElem?_replicate]; split <;> rfl
    · rfl
  refine ⟨by simp, fun p x h => (by rw [e] at h; cases h), ?_⟩
  have : ∃ τ : Int, ∀ h ∈ hs, τ ≤ h.2 := by
    induction hs with
    | nil => exact ⟨0, fun h hh => by cases hh⟩
    | cons a l ih =>
      obtain ⟨τ, hτ⟩ := ih
      refine ⟨min τ a.2, fun h hh => ?_⟩
      rcases List.mem_cons.mp hh with rfl | hh
      · omega
      · have := hτ h hh; omega
  obtain ⟨τ, hτ⟩ := this
  refine ⟨τ, fun p x h => (by rw [e] at h; cases h), fun p _ _ _ y hy => ?_⟩
  rcases mem_offers.mp hy with hy | ⟨s, _, _, x, h3, _⟩
  · simp only [handO, List.mem_map, List.mem_filter, List.mem_range] at hy
    obtain ⟨i, ⟨hi, _⟩, rfl⟩ := hy
    simp only
    rw [List.getD_eq_getElem?_getD, List.getElem?_eq_getElem hi]
    exact hτ _ (List.getElem_mem hi)
  · rw [e] at h3; cases h3
theorem tg_set {p q : Int} {x : Ofr} (h0 : 0 ≤ p) (h1 : p < tab.length) : tg (tab.set p.toNat (some x)) q = if q = p then some x else tg tab q := by
  unfold tg
  by_cases hq : 0 ≤ q
  · rw [if_pos hq, if_pos hq]
    by_cases e : q = p
    · subst e
      rw [List.getElem?_set_self (by omega), if_pos rfl]; rfl
    · rw [List.getElem?_set_ne (by omega), if_neg e]
  · rw [if_neg hq, if_neg hq, if_neg (by omega)]
theorem SI.step (hS : ∀ s ∈ S, s.t < s.u) (h : SI S hs m tab) {z : Ofr × Int} (hz : z ∈ cand hs S tab m) (hmin : ∀ w ∈ cand hs S tab m, z.1.key ≤ w.1.key) : SI S hs m (tab.set z.2.toNat (some z.1)) := by
  obtain ⟨z0, z1, z2, z3⟩ := mem_cand.mp hz
  obtain ⟨τ, t1, t2⟩ := h.tau
  have hτz := t2 z.2 z0 z1 z2 z.1 z3
  have hset := fun q => tg_set (tab := tab) (q := q) (x := z.1) z0 (by rw [h.len]; exact z1)
  -- what is offered behind the step
  have off : ∀ p y, y ∈ offers hs S (tab.set z.2.toNat (some z.1)) p → y ∈ offers hs S tab p ∨ z.1.t < y.t := by
    intro p y hy
    rcases mem_offers.mp hy with hy | ⟨s, h1, h2, x, h3, h4, rfl⟩
    · exact .inl (mem_offers.mpr (.inl hy))
    · rw [hset] at h3
      split at h3
      · cases h3
        have := hS s h1
        exact .inr (by simp only; omega)
      · exact .inl (mem_offers.mpr (.inr ⟨s, h1, h2, x, h3, h4, rfl⟩))
  have on : ∀ p y, y ∈ offers hs S tab p → y ∈ offers hs S (tab.set z.2.toNat (some z.1)) p := by
    intro p y hy
    rcases mem_offers.mp hy with hy | ⟨s, h1, h2, x, h3, h4, rfl⟩
    · exact mem_offers.mpr (.inl hy)
    · refine mem_offers.mpr (.inr ⟨s, h1, h2, x, ?_, h4, rfl⟩)
      rw [hset, if_neg]
      · exact h3
      · intro e; rw [e, z2] at h3; cases h3
  refine ⟨by simp [h.len], fun p x hx => ?_, ⟨z.1.t, fun p x hx => ?_, fun p p0 p1 hp y hy => ?_⟩⟩
  · rw [hset] at hx
    split at hx
    · rename_i e
      cases hx
      rw [e]
      refine ⟨on _ _ z3, fun y hy => ?_⟩
      rcases off _ _ hy with hy | hy
      · exact hmin (y, z.2) (mem_cand.mpr ⟨z0, z1, z2, hy⟩)
      · exact key_of_t hy
    · obtain ⟨m1, l1⟩ := h.yes p x hx
      refine ⟨on _ _ m1, fun y hy => ?_⟩
      rcases off _ _ hy with hy | hy
      · exact l1 y hy
      · refine key_of_t ?_
        have := t1 p x hx
        omega
  · rw [hset] at hx
    split at hx
    · cases hx; exact Int.le_refl _
    · have := t1 p x hx; omega
  · rw [hset] at hp
    split at hp
    · cases hp
    · rcases off _ _ hy with hy | hy
      · exact key_t (hmin (y, p) (mem_cand.mpr ⟨p0, p1, hp, hy⟩))
      · omega
theorem SI.done (h : SI S hs m tab) (hc : cand hs S tab m = []) : RT S hs m tab := by
  refine ⟨h.len, fun p p0 p1 hp => ?_, h.yes⟩
  cases e : offers hs S tab p with
  | nil => rfl
  | cons y l =>
    have : (y, p) ∈ cand hs S tab m := mem_cand.mpr ⟨p0, p1, hp, by simp only; rw [e]; exact List.mem_cons_self⟩
    rw [hc] at this; cases this
end
noncomputable def spreadF (S : List Sp) (hs : List (Int × Int)) (m : Nat) : List (Option Ofr) := by
  classical exact if h : ∃ tab, RT S hs m tab then h.choose else []
theorem spreadF_eq {S : List Sp} {hs : List (Int × Int)} {m : Nat} {tab : List (Option Ofr)} (hS : ∀ s ∈ S, s.t < s.u) (h : RT S hs m tab) : spreadF S hs m = tab := by
  have hex : ∃ tab, RT S hs m tab := ⟨tab, h⟩
  unfold spreadF
  rw [dif_pos hex]
  exact RT.uniq hS hex.choose_spec h
end Mw

set_option Elab.async false
set_option linter.all false
set_option autoImplicit false
set_option maxRecDepth 100000
/-! PyS3: spread by the program. -/
namespace Mw
open PySem
/-- a comprehension with a test that changes nothing -/
theorem compL_fil {α : Type} {ws : List (Nat × O)} {t : D → Option Env} {c : Env → Sto → Option (Bool × Sto)} {e : Env → Sto → Option (RV × Sto)} {st : Sto} (g : α → D) (p : α → Bool) (f : α → D) (hc : chk ws st = true) :
    ∀ (zs : List α), (∀ z ∈ zs, ∃ ρ1, t (g z) = some ρ1 ∧ c ρ1 st = some (p z, st) ∧ (p z = true → e ρ1 st = some (.val (f z), st))) → compL ws t c e (zs.map g) st = some ((zs.filter p).map f, st)
  | [], _ => by simp [compL, hc]
  | x :: xs, h => by
    obtain ⟨ρ1, h1, h2, h3⟩ := h x (List.mem_cons_self ..)
    have ih := compL_fil g p f hc xs fun y hy => h y (List.mem_cons_of_mem _ hy)
    cases hp : p x with
    | false => simp [compL, hc, h1, h2, hp, ih]
    | true => simp [compL, hc, h1, h2, hp, h3 hp, ih, mat]
theorem evC_eq {C : Call} {es : CEs} {ρ : Env} {st : Sto} {b : Bool} (h : wC C es ρ st fun x s => x = b ∧ s = st) : evC C es ρ st = some (b, st) := by
  unfold wC at h
  obtain ⟨b', s', e, rfl, rfl⟩ := ok2_ex.mp h
  exact e
@[simp] theorem isNon_tb {x : Option Ofr} : isNon (.val (tbD x)) = x.isNone := by cases x <;> rfl
theorem rng_map (c : Nat) : rangeD 0 c = (List.range c).map fun (i : Nat) => D.int (i : Int) := by simp [rangeD]
section
variable {T : Tab} {n k : Nat} {st : Sto} {S : List Sp} {hs : List (Int × Int)} {tab : List (Option Ofr)} {m : Nat}
theorem hn_at {i : Nat} (hi : i < hs.length) : L2.atI (hs.map hnD) (i : Int) = some (hnD (hs.getD i (0, 0))) := by
  refine atI_n ?_
  rw [List.getElem?_map, List.getD_eq_getElem?_getD, List.getElem?_eq_getElem hi]; rfl
def ofI (hs : List (Int × Int)) (S : List Sp) (tab : List (Option Ofr)) (p : Int) (a b c d : D) (st0 : Sto) (zs : List Sp) (ρ : Env) (s : Sto) : Prop :=
  ∃ (done : List Sp) (r5 r6 r7 r8 r9 r10 : Option D), done ++ zs = S ∧ s = st0 ++ [.lst ((handO hs p ++ done.filterMap (goes tab p)).map ofD)] ∧ ρ = [some a, some b, some c, some d, some (.ref st0.length), r5, r6, r7, r8, r9, r10]
theorem offers_to_ok (hT : Has T "offers_to" foffers_to) {X : D} {p : Int} (hS : ∀ s ∈ S, SpIn m s) (hl : S.length ≤ 100000) (hh : hs.length ≤ 1000)
    (hX : ∀ (g : Sto) (a : Int), 0 ≤ a → a.toNat < m → idxApp (st ++ g) (.val X) (.val (.int a)) = some (.val (tbD (tg tab a)))) :
    callF T n (k + 1) "offers_to" [.tup (S.map spD), .tup (hs.map hnD), X, .int p] st = some (.ref st.length, st ++ [.lst ((offers hs S tab p).map ofD)]) := by
  refine callF_eq (callF_w hT rfl ?_)
  simp [foffers_to, coffers_to, wB_cons, rngN (show hs.length < 2 ^ 62 by omega)]
  refine ⟨by simp [szOk, rng_len]; omega, ?_⟩
  rw [rng_map]
  rw [compL_fil (fun (i : Nat) => D.int (i : Int)) (fun i => decide ((hs.getD i (0, 0)).1 = p)) (fun i => .tup [.int (hs.getD i (0, 0)).2, .int (i : Int), .int (-1)]) rfl (List.range hs.length) fun i hi => ?_]
  rotate_left
  · have hi' := List.mem_range.mp hi
    have ha := hn_at hi'
    refine ⟨_, rfl, evC_eq ?_, fun _ => ev_eq ?_⟩
    · simp [wipeD, ha]
      simp [hnD]
    · simp [wipeD, ha]
      simp [hnD]
  simp
  have e0 : (List.filter (fun i => decide ((hs.getD i (0, 0)).1 = p)) (List.range hs.length)).map (fun i => D.tup [.int (hs.getD i (0, 0)).2, .int (i : Int), .int (-1)]) = (handO hs p).map ofD := by simp [handO, ofD]
  simp only [List.getD_eq_getElem?_getD] at e0
  rw [e0]
  refine for_map spD (ofI hs S tab p (.tup (S.map spD)) (.tup (hs.map hnD)) X (.int p) st) ?_ ?_ S _ _ ⟨[], none, none, none, none, none, none, rfl, by simp, rfl⟩
  · rintro ρ s ⟨done, r5, r6, r7, r8, r9, r10, e, rfl, rfl⟩
    simp only [List.append_nil] at e
    subst e
    refine ⟨rfl, ?_⟩
    have hlow : O.low st.length (.lst ((handO hs p ++ done.filterMap (goes tab p)).map ofD)) = true := by
      simp only [O.low, lowL_all]; intro x hx; obtain ⟨y, _, rfl⟩ := List.mem_map.mp hx; rfl
    have := gc_one (st := st) hlow
    simp only [wE_var, wS_ret, wB_cons]
    simp only [offers]
    simp
    simp at this
    simp [this]
  · rintro z zs ρ s ⟨done, r5, r6, r7, r8, r9, r10, e, rfl, rfl⟩
    refine ⟨rfl, _, rfl, ?_⟩
    obtain ⟨q1, q2, q3, q4, q5⟩ := hS z (by rw [← e]; simp)
    have hx := hX [.lst ((handO hs p ++ done.filterMap (goes tab p)).map ofD)] z.a q1 q2
    have hlen : (handO hs p ++ done.filterMap (goes tab p)).length + 1 ≤ 200000 := by
      have h1 : (handO hs p).length ≤ hs.length := by
        have := List.length_filter_le (fun i => decide ((hs.getD i (0, 0)).1 = p)) (List.range hs.length)
        simpa [handO] using this
      have h2 := List.length_filterMap_le (goes tab p) done
      have h3 : done.length + 1 ≤ S.length := by rw [← e]; simp
      rw [List.length_append]; omega
    have en : ∀ y, goes tab p z = y → ofI hs S tab p (.tup (S.map spD)) (.tup (hs.map hnD)) X (.int p) st zs [some (.tup (S.map spD)), some (.tup (hs.map hnD)), some X, some (.int p), some (.ref st.length), some (.int z.k), some (.int z.a), some (.int z.b), some (.int z.t), some (.int z.u), r10]
        (st ++ [.lst ((handO hs p ++ done.filterMap (goes tab p) ++ y.toList).map ofD)]) := fun y hy => by
      refine ⟨done ++ [z], _, _, _, _, _, _, by simp [e], ?_, rfl⟩
      rw [List.filterMap_append]
      cases y <;> simp [hy]
    obtain ⟨s1, es1⟩ : ∃ s1 : Sto, s1 = st ++ [O.lst ((handO hs p ++ done.filterMap (goes tab p)).map ofD)] := ⟨_, rfl⟩
    have gl : s1[st.length]? = some (.lst ((handO hs p ++ done.filterMap (goes tab p)).map ofD)) := by rw [es1]; exact get_last
    have sl : ∀ o, s1.set st.length o = st ++ [o] := fun o => by rw [es1]; simp
    have en0 := en none
    simp only [Option.toList_none, List.append_nil] at en0
    rw [← es1] at en0 hx ⊢
    show wB _ _ _ _ _ _
    simp [wB_cons, spD]
    by_cases hb : z.b = p
    · simp [hb, hx]
      cases ht : tg tab z.a with
      | none =>
        simp [tbD]
        have := en0 (by unfold goes; rw [if_pos hb, ht])
        rw [hb] at this
        exact this
      | some x =>
        simp [tbD, ofD]
        by_cases hle : x.t ≤ z.t
        · have g1 : goes tab p z = some ⟨z.u, x.h, z.k⟩ := by unfold goes; rw [if_pos hb, ht]; simp [hle]
          have hap := app_ref (r := .val (ofD ⟨z.u, x.h, z.k⟩)) gl (by simp at hlen ⊢; omega)
          have := en _ g1
          simp only [mat_val, sl] at hap
          have e2 : (handO hs p ++ done.filterMap (goes tab p)).map ofD ++ [ofD ⟨z.u, x.h, z.k⟩] = (handO hs p ++ done.filterMap (goes tab p) ++ (some (⟨z.u, x.h, z.k⟩ : Ofr)).toList).map ofD := by simp
          rw [e2] at hap
          simp only [ofD] at hap
          rw [hb] at this
          simp [hle, wB_cons, hx, ht, tbD, ofD, hap]
          simpa [ofD] using this
        · simp [hle]
          have := en0 (by unfold goes; rw [if_pos hb, ht]; simp [hle])
          rw [hb] at this
          exact this
    · simp [hb]
      exact en0 (by unfold goes; rw [if_neg hb])
/-! ### the least of what is offered -/
def cdD (z : Ofr × Int) : D := .tup [ofD z.1, .int z.2]
def key4 (z : Ofr × Int) : List Int := [z.1.t, z.1.h, z.1.k, z.2]
theorem key4_key {z w : Ofr × Int} (h : key4 z ≤ key4 w) : z.1.key ≤ w.1.key := by
  rcases Decidable.em (z.1.key ≤ w.1.key) with h1 | h1
  · exact h1
  · have h2 : w.1.key < z.1.key := List.not_le.mp h1
    have h3 : key4 w < key4 z := by
      simp only [Ofr.key, key4, List.cons_lt_cons_iff] at h2 ⊢
      simp at h2
      omega
    exact absurd h3 (List.not_lt.mpr h)
theorem toPy_cd (z : Ofr × Int) : toPy st 58 (cdD z) = some (.tuple [.tuple [.int z.1.t, .int z.1.h, .int z.1.k], .int z.2]) := by
  have := toPy_pd (st := st) 58 (cdD z) rfl
  rw [this]; rfl
theorem pyD_cd (z : Ofr × Int) : pyD st (cdD z) = .tuple [.tuple [.int z.1.t, .int z.1.h, .int z.1.k], .int z.2] := by simp [pyD, toPy_cd]
theorem alike3 (a b c d e f : Int) : PySem.W.alike (.tuple [.int a, .int b, .int c]) (.tuple [.int d, .int e, .int f]) = true := by
  have := alike_ints [a, b, c] [d, e, f]
  simpa [PySem.W.alike] using this
theorem lt3 (a b c d e f : Int) : PySem.W.dataLt (.tuple [.int a, .int b, .int c]) (.tuple [.int d, .int e, .int f]) = decide ([a, b, c] < [d, e, f]) := by
  rw [PySem.W.dataLt_tuple]
  have := PySem.W.dataLt_ints [a, b, c] [d, e, f]
  unfold PySem.W.rowLt at this
  exact this
theorem lt_cd (z w : Ofr × Int) : dLt st (cdD z) (cdD w) = decide (key4 z < key4 w) := by
  unfold dLt
  rw [pyD_cd, pyD_cd, PySem.W.dataLt_pair (alike3 ..) (by simp [PySem.W.alike]), lt3, PySem.W.dataLt_int]
  have e1 : PyData.eqv (.tuple [.int z.1.t, .int z.1.h, .int z.1.k]) (.tuple [.int w.1.t, .int w.1.h, .int w.1.k]) = decide (z.1.key = w.1.key) := by
    simp only [PyData.eqv, PyData.eqvAll, Ofr.key]
    by_cases h1 : z.1.t = w.1.t <;> by_cases h2 : z.1.h = w.1.h <;> by_cases h3 : z.1.k = w.1.k <;> simp [h1, h2, h3]
  rw [e1]
  have e2 : PyData.eqv (.int z.2) (.int w.2) = decide (z.2 = w.2) := eqv_int
  rw [e2]
  simp only [Ofr.key, key4]
  by_cases h1 : z.1.t = w.1.t <;> by_cases h2 : z.1.h = w.1.h <;> by_cases h3 : z.1.k = w.1.k <;> by_cases h4 : z.2 = w.2 <;> simp [h1, h2, h3, h4, List.cons_lt_cons_iff]
theorem fold_memS {α : Type} (f : α → α → Bool) : ∀ (l : List α) (x : α), l.foldl (fun a y => if f a y then y else a) x ∈ x :: l
  | [], x => List.mem_cons_self
  | y :: l, x => by
    simp only [List.foldl_cons]
    have := fold_memS f l (if f x y then y else x)
    rcases List.mem_cons.mp this with h | h
    · rw [h]; split <;> simp
    · exact List.mem_cons_of_mem _ (List.mem_cons_of_mem _ h)
theorem fold_mapS {α β : Type} (g : α → β) (f : β → β → Bool) : ∀ (l : List α) (x : α), (l.map g).foldl (fun a y => if f a y then y else a) (g x) = g (l.foldl (fun a y => if f (g a) (g y) then y else a) x)
  | [], x => rfl
  | y :: l, x => by
    simp only [List.map_cons, List.foldl_cons]
    have e : (if f (g x) (g y) = true then g y else g x) = g (if f (g x) (g y) = true then y else x) := by split <;> rfl
    rw [e, fold_mapS g f l]
theorem fold_least {α : Type} (key : α → List Int) (f : α → α → Bool) (hf : ∀ a b, f a b = decide (key b < key a)) : ∀ (l : List α) (x : α), ∀ w ∈ x :: l, key (l.foldl (fun a y => if f a y then y else a) x) ≤ key w
  | [], x, w, hw => by simp at hw; subst hw; exact List.le_refl _
  | y :: l, x, w, hw => by
    simp only [List.foldl_cons]
    have ih := fold_least key f hf l (if f x y then y else x)
    have h0 := ih _ List.mem_cons_self
    rcases List.mem_cons.mp hw with rfl | hw
    · refine List.le_trans h0 ?_
      rw [hf]
      split
      · rename_i h; exact List.le_of_lt (of_decide_eq_true h)
      · exact List.le_refl _
    · rcases List.mem_cons.mp hw with rfl | hw
      · refine List.le_trans h0 ?_
        rw [hf]
        split
        · exact List.le_refl _
        · rename_i h; exact List.not_lt.mp fun h' => h (decide_eq_true h')
      · exact ih w (List.mem_cons_of_mem _ hw)
theorem min_cd {l : List (Ofr × Int)} (hne : l ≠ []) : ∃ z ∈ l, (∀ w ∈ l, key4 z ≤ key4 w) ∧ ∀ s : Sto, mmD false s (l.map cdD) = some (cdD z) := by
  cases l with
  | nil => exact absurd rfl hne
  | cons y ys =>
    let f : Ofr × Int → Ofr × Int → Bool := fun a b => decide (key4 b < key4 a)
    refine ⟨ys.foldl (fun a w => if f a w then w else a) y, fold_memS f ys y, fold_least key4 f (fun _ _ => rfl) ys y, fun s => ?_⟩
    have e1 : mapO (toPy s 58) ((y :: ys).map cdD) = some (((y :: ys).map cdD).map (pyD s)) := mapO_of fun d hd => by
      obtain ⟨a, _, rfl⟩ := List.mem_map.mp hd
      rw [toPy_cd, pyD_cd]
    have c1 : alikeD (((y :: ys).map cdD).map (pyD s)) = true := by
      simp only [alikeD, List.all_eq_true, List.map_map, List.mem_map, Function.comp_apply]
      rintro _ ⟨a, _, rfl⟩ _ ⟨b, _, rfl⟩
      rw [pyD_cd, pyD_cd]
      simp [PySem.W.alike, PySem.W.alikeAll]
    have c2 : (((y :: ys).map cdD).map (pyD s)).all notNn = true := by
      simp only [List.all_eq_true, List.map_map, List.mem_map, Function.comp_apply]
      rintro _ ⟨a, _, rfl⟩
      rw [pyD_cd]; rfl
    have c3 : plnL ((y :: ys).map cdD) = true := by
      have : ∀ l : List (Ofr × Int), plnL (l.map cdD) = true := by
        intro l
        induction l with
        | nil => rfl
        | cons a l ih => simp only [List.map_cons, plnL, ih, Bool.and_true]; rfl
      exact this _
    unfold mmD
    rw [e1]
    simp only [c1, c2, c3, Bool.and_self, if_true]
    show some ((ys.map cdD).foldl (fun a z => if (if false = true then dLt s a z else dLt s z a) = true then z else a) (cdD y)) = _
    simp only [Bool.false_eq_true, if_false, Option.some.injEq]
    have : (fun a z => if dLt s z a = true then z else a) = fun (a z : D) => if (fun a z => dLt s z a) a z then z else a := rfl
    rw [this, fold_mapS cdD (fun a z => dLt s z a)]
    congr 1
    have e2 : ∀ (l : List (Ofr × Int)) (x : Ofr × Int), l.foldl (fun a w => if dLt s (cdD w) (cdD a) = true then w else a) x = l.foldl (fun a w => if f a w = true then w else a) x := by
      intro l
      induction l with
      | nil => intro x; rfl
      | cons w l ih => intro x; simp only [List.foldl_cons]; rw [ih, lt_cd]
    exact e2 ys y
end
end Mw

set_option Elab.async false
set_option linter.all false
set_option autoImplicit false
set_option maxRecDepth 100000
/-! PyJ2: all ways of a small net, all rows, walked (deck B, k12). -/
namespace Mw
open PySem
def cJb_law_small : CSs := (.cons (.asg (.nm 1) (.bi .min (.cons (.idx (.var 0) (.cst (.int 0))) (.cons (.cst (.int 4)) .nil)))) (.cons (.asg (.nm 2) (.lst .nil)) (.cons (.for (.tp (.cons (.nm 3) (.cons (.nm 4) (.cons (.nm 5) (.cons (.nm 6) (.cons (.nm 7) .nil)))))) (.ex (.sli (.idx (.var 0) (.cst (.int 1))) .nil (.cons (.cst (.int 5)) .nil))) (.cons (.asg (.nm 4) (.bin .mod (.var 4) (.var 1))) (.cons (.asg (.nm 5) (.bin .mod (.var 5) (.var 1))) (.cons (.ite (.cmp .eq (.var 4) (.var 5)) (.cons (.asg (.nm 5) (.bin .mod (.bin .add (.var 4) (.cst (.int 1))) (.var 1))) .nil) .nil) (.cons (.expr (.mt .append (.var 2) (.cons (.tup (.cons (.var 3) (.cons (.var 4) (.cons (.var 5) (.cons (.var 6) (.cons (.var 7) .nil)))))) .nil))) .nil))))) (.cons (.ret (.tup (.cons (.var 1) (.cons (.bi .tuple (.cons (.var 2) .nil)) .nil)))) .nil))))
def fJb_law_small : Fd := ⟨1, 8, cJb_law_small⟩
def cJb_law_all : CSs := (.cons (.asg (.nm 3) (.dit1 (.tup .nil) (.tup (.cons (.var 1) (.cons (.var 2) .nil))))) (.cons (.asg (.nm 4) (.lst (.cons (.tup .nil) .nil))) (.cons (.for (.nm 5) (.rng (.cons (.cst (.int 4)) .nil)) (.cons (.asg (.nm 6) (.lst .nil)) (.cons (.for (.nm 7) (.ex (.var 4)) (.cons (.asg (.tp (.cons (.nm 8) (.cons (.nm 9) .nil))) (.idx (.var 3) (.var 7))) (.cons (.for (.nm 10) (.rng (.cons (.bi .len (.cons (.idx (.var 0) (.cst (.int 1))) .nil)) .nil)) (.cons (.asg (.nm 11) (.call "_law_step" (.cons (.var 0) (.cons (.var 10) (.cons (.var 8) .nil))))) (.cons (.ite (.and (.cmp .notN (.var 11) (.cst .non)) (.cmp .ge (.idx (.var 11) (.cst (.int 1))) (.var 9))) (.cons (.expr (.mt .append (.var 6) (.cons (.bin .add (.var 7) (.tup (.cons (.var 10) .nil))) .nil))) (.cons (.put (.var 3) (.bin .add (.var 7) (.tup (.cons (.var 10) .nil))) (.tup (.cons (.idx (.var 11) (.cst (.int 0))) (.cons (.idx (.var 11) (.cst (.int 2))) .nil)))) .nil)) .nil) .nil))) .nil))) (.cons (.asg (.nm 4) (.var 6)) .nil)))) (.cons (.ret (.var 3)) .nil))))
def fJb_law_all : Fd := ⟨3, 12, cJb_law_all⟩
def cJb_law_rows : CSs := (.cons (.asg (.nm 1) (.lst (.cons (.tup .nil) .nil))) (.cons (.asg (.nm 2) (.lst (.cons (.tup .nil) .nil))) (.cons (.for (.nm 3) (.rng (.cons (.cst (.int 4)) .nil)) (.cons (.asg (.nm 4) (.lst .nil)) (.cons (.for (.nm 5) (.ex (.var 2)) (.cons (.expr (.mt .extend (.var 4) (.cons (.comp (.nm 6) (.rng (.cons (.var 0) .nil)) (.cons (.cmp .notin (.var 6) (.var 5)) .nil) (.bin .add (.var 5) (.tup (.cons (.var 6) .nil))) [6]) .nil))) .nil)) (.cons (.asg (.nm 1) (.bin .add (.var 1) (.var 4))) (.cons (.asg (.nm 2) (.var 4)) .nil))))) (.cons (.ret (.bin .add (.var 1) (.comp (.nm 6) (.rng (.cons (.var 0) .nil)) .nil (.tup (.cons (.var 6) (.cons (.var 6) .nil))) [6]))) .nil))))
def fJb_law_rows : Fd := ⟨1, 7, cJb_law_rows⟩
def cJb_law_right : CSs := (.cons (.asg (.nm 4) (.call "_law_all" (.cons (.var 0) (.cons (.var 1) (.cons (.var 2) .nil))))) (.cons (.asg (.nm 5) (.cst (.int 0))) (.cons (.for (.nm 6) (.ex (.var 3)) (.cons (.asg (.nm 7) (.call "is_way" (.cons (.var 0) (.cons (.var 1) (.cons (.var 2) (.cons (.var 6) .nil)))))) (.cons (.ite (.or (.not (.isi (.var 7) .bool)) (.cmp .ne (.var 7) (.cmp .isin (.var 6) (.var 4)))) (.cons (.ret (.cst (.bl false))) .nil) .nil) (.cons (.ite (.var 7) (.cons (.asg (.nm 5) (.bin .add (.var 5) (.cst (.int 1)))) (.cons (.ite (.cmp .ne (.tup (.cons (.idx (.call "places_on" (.cons (.var 0) (.cons (.var 1) (.cons (.var 6) .nil)))) (.neg (.cst (.int 1)))) (.cons (.call "comes_at" (.cons (.var 0) (.cons (.var 2) (.cons (.var 6) .nil)))) .nil))) (.idx (.var 4) (.var 6))) (.cons (.ret (.cst (.bl false))) .nil) .nil) .nil)) .nil) .nil)))) (.cons (.ret (.cmp .eq (.var 5) (.bi .len (.cons (.var 4) .nil)))) .nil))))
def fJb_law_right : Fd := ⟨4, 8, cJb_law_right⟩
section
variable {st : Sto} {j : Nat} {L : RT4} {xs : List Nat}
theorem idx_rowJ {lk : Bool} (h : st[j]? = some (.dit lk (kvW L))) : idxApp st (.val (.ref j)) (.val (rowN xs)) = (lookW L xs).map fun v => .val (.tup [.int v.1, .int v.2]) := by
  have e : idxApp st (.val (.ref j)) (.val (rowN xs)) = (match st[j]? with
      | some (.dic _ kvs) => if keyOk (rowN xs) then (dicGet (rowN xs) kvs).map .val else none
      | some (.dit _ kvs) => if tkOk (rowN xs) then (dicGet (rowN xs) kvs).map .val else none
      | _ => none) := rfl
  rw [e, h]
  simp only [tk_rowN, if_true, get_kvW, Option.map_map]
  rfl
theorem in_row {lk : Bool} (h : st[j]? = some (.dit lk (kvW L))) : inApp st (.val (rowN xs)) (.val (.ref j)) = some (lookW L xs).isSome := by
  simp only [inApp, h, tk_rowN, if_true, get_kvW, Option.isSome_map]
theorem put_row {v : Int × Int} (h : st[j]? = some (.dit false (kvW L))) (hl : L.length < 16777216) : putApp st (.val (.ref j)) (.val (rowN xs)) (.tup [.int v.1, .int v.2]) = some (st.set j (.dit false (kvW (putW xs v L)))) := by
  have hl' : (kvW L).length < 16777216 := by rw [kvW_len]; exact hl
  simp only [putApp, h, tk_rowN, Bool.true_and, decide_eq_true_eq, if_pos hl', put_kvW]
theorem len_dit (h : st[j]? = some (.dit false (kvW L))) : biApp st .len [.val (.ref j)] = some (.val (.int L.length)) := by
  have e : biApp st .len [.val (.ref j)] = biLen st [.val (.ref j)] := rfl
  rw [e]
  simp only [biLen, h, kvW_len]
theorem kD_rowN (xs : List Nat) : rowN xs = kD (xs.map fun i => (⟨i, 0, 0, 0, 0⟩ : Sp)) := by
  simp [rowN, kD]
theorem th_rowN {st : Sto} : thOk st (rowN xs) = true := by rw [kD_rowN]; exact th_k _
theorem low_rowN {i : Nat} : D.low i (rowN xs) = true := by rw [kD_rowN]; simp
theorem add_rowN {st : Sto} {i : Nat} (h : xs.length ≤ 1000) : binApp st .add (.val (rowN xs)) (.val (.tup [.int (i : Int)])) = some (.val (rowN (xs ++ [i]))) := by
  simp only [rowN, bin_addT, List.map_append, List.map_cons, List.map_nil]
  rw [if_pos]
  exact decide_eq_true (by simp; omega)
theorem add_refs {a b : Nat} {xs ys : List D} (ha : st[a]? = some (.lst xs)) (hb : st[b]? = some (.lst ys)) (h : xs.length + ys.length ≤ 16777216) : binApp st .add (.val (.ref a)) (.val (.ref b)) = some (.tmp (xs ++ ys)) := by
  have e : binApp st .add (.val (.ref a)) (.val (.ref b)) = addL st (.val (.ref a)) (.val (.ref b)) := rfl
  rw [e]
  simp only [addL, listOf_ref ha, listOf_ref hb]
  rw [if_sz h]
theorem add_reft {a : Nat} {xs ys : List D} (ha : st[a]? = some (.lst xs)) (h : xs.length + ys.length ≤ 16777216) : binApp st .add (.val (.ref a)) (.tmp ys) = some (.tmp (xs ++ ys)) := by
  have e : binApp st .add (.val (.ref a)) (.tmp ys) = addL st (.val (.ref a)) (.tmp ys) := rfl
  rw [e]
  simp only [addL, listOf_ref ha]
  show (if szOk (xs.length + ys.length) = true then _ else _) = _
  rw [if_sz h]
theorem low_kvW {i : Nat} : ∀ e ∈ kvW L, (e.1.low i && e.2.low i) = true := by
  intro e he
  unfold kvW at he
  obtain ⟨q, _, rfl⟩ := List.mem_map.mp he
  simp only [low_rowN, Bool.true_and]
  rfl
end
section
variable {T : Tab} {n k : Nat} {st : Sto} {ms : List Mt} {m p t : Int}
theorem tot_len (hm : ms.length ≤ 5) : ∀ (j : Nat), (totN ms p t j).length ≤ 2 * 5 ^ j
  | 0 => by simp [totN]
  | j + 1 => by
    have h1 := tot_len hm j
    have h2 := lev_len (p := p) (t := t) hm (j + 1)
    rw [totN, List.length_append, Nat.pow_succ]
    rw [Nat.pow_succ] at h2
    omega
def allI (ms : List Mt) (p t : Int) (a b c : D) (st0 : Sto) (i : Nat) (ρ : Env) (s : Sto) : Prop :=
  ∃ (g : Sto) (L : RT4) (u : Nat) (r5 r6 r7 r8 r9 r10 r11 : Option D), s = st0 ++ g ∧ g[0]? = some (.dit false (kvW L)) ∧ 0 < u ∧ g[u]? = some (.lst ((levN ms p t i).map rowN)) ∧ DcW ms p t L (totN ms p t i) ∧
    ρ = [some a, some b, some c, some (.ref st0.length), some (.ref (st0.length + u)), r5, r6, r7, r8, r9, r10, r11]
def allM (ms : List Mt) (p t : Int) (a b c : D) (st0 : Sto) (i u w : Nat) (r5 : Option D) (zs : List (List Nat)) (ρ : Env) (s : Sto) : Prop :=
  ∃ (done : List (List Nat)) (g : Sto) (L : RT4) (r7 r8 r9 r10 r11 : Option D), done ++ zs = levN ms p t i ∧ s = st0 ++ g ∧ g[0]? = some (.dit false (kvW L)) ∧ g[u]? = some (.lst ((levN ms p t i).map rowN)) ∧
    g[w]? = some (.lst ((done.flatMap (addN ms p t)).map rowN)) ∧ DcW ms p t L (totN ms p t i ++ done.flatMap (addN ms p t)) ∧
    ρ = [some a, some b, some c, some (.ref st0.length), some (.ref (st0.length + u)), r5, some (.ref (st0.length + w)), r7, r8, r9, r10, r11]
def adTo (ms : List Mt) (p t : Int) (xs : List Nat) (j : Nat) : List (List Nat) := ((List.range j).filter fun i => isN ms p t (xs ++ [i])).map fun i => xs ++ [i]
def allN (ms : List Mt) (p t : Int) (a b c : D) (st0 : Sto) (i u w : Nat) (r5 : Option D) (done : List (List Nat)) (xs : List Nat) (here now : Int) (j : Nat) (ρ : Env) (s : Sto) : Prop :=
  ∃ (g : Sto) (L : RT4) (r10 r11 : Option D), s = st0 ++ g ∧ g[0]? = some (.dit false (kvW L)) ∧ g[u]? = some (.lst ((levN ms p t i).map rowN)) ∧
    g[w]? = some (.lst ((done.flatMap (addN ms p t) ++ adTo ms p t xs j).map rowN)) ∧ DcW ms p t L (totN ms p t i ++ (done.flatMap (addN ms p t) ++ adTo ms p t xs j)) ∧
    ρ = [some a, some b, some c, some (.ref st0.length), some (.ref (st0.length + u)), r5, some (.ref (st0.length + w)), some (rowN xs), some (.int here), some (.int now), r10, r11]
theorem adTo_succ {xs : List Nat} {j : Nat} : adTo ms p t xs (j + 1) = adTo ms p t xs j ++ if isN ms p t (xs ++ [j]) = true then [xs ++ [j]] else [] := by
  unfold adTo
  rw [List.range_succ, List.filter_append, List.map_append]
  congr 1
  by_cases h : isN ms p t (xs ++ [j]) = true
  · simp [h]
  · simp [h]
theorem gset {g : Sto} {i : Nat} {o : O} : (st ++ g).set (st.length + i) o = st ++ g.set i o := by
  rw [List.set_append_right _ _ (by omega)]; simp
theorem gget {g : Sto} {i : Nat} : (st ++ g)[st.length + i]? = g[i]? := by
  rw [List.getElem?_append_right (by omega)]; simp
theorem gget0 {g : Sto} : (st ++ g)[st.length]? = g[0]? := by
  have := gget (st := st) (g := g) (i := 0)
  simpa using this
theorem gset0 {g : Sto} {o : O} : (st ++ g).set st.length o = st ++ g.set 0 o := by
  have := gset (st := st) (g := g) (i := 0) (o := o)
  simpa using this
theorem glt {α : Type} {g : List α} {i : Nat} {o : α} (h : g[i]? = some o) : i < g.length := (List.getElem?_eq_some_iff.mp h).1
theorem allW_ok (hS : Has T "_law_step" fB_law_step) (hT : Has T "_law_all" fJb_law_all) (hm : ms.length ≤ 5) {Q : D → Sto → Prop}
    (q : ∀ L, DcW ms p t L (totN ms p t 4) → Q (.ref st.length) (st ++ [.dit false (kvW L)])) : ok2 (callF T n (k + 2) "_law_all" [netD m ms, .int p, .int t] st) Q := by
  refine callF_w hT rfl ?_
  simp only [fJb_law_all, cJb_law_all]
  rw [wB_cons]
  have hd : ∀ s : Sto, ditOf (.val (.tup [])) (.val (.tup [.int p, .int t])) s = some (.val (.ref s.length), s ++ [.dit false (kvW [([], (p, t))])]) := fun s => rfl
  simp [hd]
  rw [wB_cons]
  simp
  rw [wB_cons]
  have e4 : rngOf [.val (.int 4)] = some ⟨rangeD 0 4, [], true⟩ := rngN (j := 4) (by decide)
  simp only [wS_for, wV_rng, wR_cons, wR_nil, wE_cst, e4, okO_some]
  refine for_rng (allI ms p t (netD m ms) (.int p) (.int t) st) ?_ ?_ _ _ ⟨[.dit false (kvW [([], (p, t))]), .lst [rowN []]], [([], (p, t))], 1, none, none, none, none, none, none, none, by simp; rfl, rfl, by decide, rfl, ⟨by simp, fun xs => ?_, by simp [totN]⟩, rfl⟩
  · rintro ρ s ⟨g, L, u, r5, r6, r7, r8, r9, r10, r11, rfl, h0, hu, h1, hD, rfl⟩
    simp [wB_cons]
    have hg : gc st (.ref st.length) (st ++ g) = (.ref st.length, st ++ [.dit false (kvW L)]) := by
      have := gc_new (st := st) (s2 := st) (g := g) (j := 0) (o := .dit false (kvW L)) Sta.refl h0 (List.all_eq_true.mpr fun e he => low_kvW e he)
      simpa using this
    rw [hg]
    exact q L hD
  · rintro i ρ s hi ⟨g, L, u, r5, r6, r7, r8, r9, r10, r11, rfl, h0, hu, h1, hD, rfl⟩
    refine ⟨_, rfl, ?_⟩
    show wB _ _ _ _ _ _
    rw [wB_cons]
    simp
    rw [wB_cons]
    have hw0 : (g ++ [O.lst []])[g.length]? = some (.lst []) := by simp
    have hu0 := glt h1
    have h0' : (g ++ [O.lst []])[0]? = some (.dit false (kvW L)) := by rw [List.getElem?_append_left (by omega)]; exact h0
    have h1' : (g ++ [O.lst []])[u]? = some (.lst ((levN ms p t i).map rowN)) := by rw [List.getElem?_append_left hu0]; exact h1
    have hl5 : ∀ xs ∈ levN ms p t i, xs.length = i := fun xs hx => ((lev_iff i xs).mp hx).2
    have hwg : 0 < g.length := by omega
    have huw : u ≠ g.length := by omega
    obtain ⟨w, ew⟩ : ∃ w, w = g.length := ⟨_, rfl⟩
    obtain ⟨g1, eg1⟩ : ∃ g1, g1 = g ++ [O.lst []] := ⟨_, rfl⟩
    have es1 : st ++ (g ++ [O.lst []]) = st ++ g1 := by rw [eg1]
    have ell : st.length + g.length = st.length + w := by rw [ew]
    rw [es1, ell]
    rw [← eg1] at hw0 h0' h1'
    rw [← ew] at hw0 huw hwg
    simp only [wS_for, wV_ex, wE_var]
    simp
    have hsrc : srcOf (st ++ g1) (.val (.ref (st.length + u))) = some ⟨(levN ms p t i).map rowN, [(st.length + u, .lst ((levN ms p t i).map rowN))], false⟩ := src_ref (by rw [gget]; exact h1')
    rw [hsrc]
    simp
    refine for_map rowN (allM ms p t (netD m ms) (.int p) (.int t) st i u w (some (.int (i : Int)))) ?_ ?_ (levN ms p t i) _ _ ⟨[], g1, L, r7, r8, r9, r10, r11, rfl, rfl, h0', h1', hw0, by simpa using hD, rfl⟩
    · rintro ρ s ⟨done, g, L, r7, r8, r9, r10, r11, e, rfl, h0, h1, h2, hD, rfl⟩
      rw [List.append_nil] at e
      subst e
      refine ⟨chk_one (by rw [gget]; exact h1), ?_⟩
      simp [wB_cons]
      exact ⟨g, L, w, _, _, _, _, _, _, _, rfl, h0, hwg, h2, hD, rfl⟩
    · rintro xs zs ρ s ⟨done, g, L, r7, r8, r9, r10, r11, e, rfl, h0, h1, h2, hD, rfl⟩
      refine ⟨chk_one (by rw [gget]; exact h1), _, rfl, ?_⟩
      show wB _ _ _ _ _ _
      have hxm : xs ∈ levN ms p t i := by rw [← e]; simp
      have hxi := (lev_iff i xs).mp hxm
      have hxt : xs ∈ totN ms p t i := (tot_iff i xs).mpr ⟨hxi.1, by omega⟩
      obtain ⟨ss, hss⟩ := Option.isSome_iff_exists.mp (show (goN ms p t xs).isSome = true from hxi.1)
      have hv : valN ms p t xs = (endP p ss, endT t ss) := by unfold valN; rw [hss]
      have hlk : lookW L xs = some (endP p ss, endT t ss) := by rw [hD.at_, if_pos (by simp [hxt]), hv]
      have hix : idxApp (st ++ g) (.val (.ref st.length)) (.val (rowN xs)) = some (.val (.tup [.int (endP p ss), .int (endT t ss)])) := by
        rw [idx_rowJ (lk := false) (L := L) (by rw [gget0]; exact h0), hlk]; rfl
      obtain ⟨here, eh⟩ : ∃ here, here = endP p ss := ⟨_, rfl⟩
      obtain ⟨now, en⟩ : ∃ now, now = endT t ss := ⟨_, rfl⟩
      rw [← eh, ← en] at hix
      rw [wB_cons]
      simp [hix, setT, setTs]
      rw [wB_cons]
      have er : rngOf [.val (.int (ms.length : Int))] = some ⟨rangeD 0 ms.length, [], true⟩ := rngN (by omega)
      simp only [wS_for, wV_rng, wR_cons, wR_nil]
      simp [idx_net1, er]
      refine for_rng (allN ms p t (netD m ms) (.int p) (.int t) st i u w (some (.int (i : Int))) done xs here now) ?_ ?_ _ _ ⟨g, L, r10, r11, rfl, h0, h1, by simpa [adTo] using h2, by simpa [adTo] using hD, rfl⟩
      · rintro ρ s ⟨g, L, r10, r11, rfl, h0, h1, h2, hD, rfl⟩
        simp [wB_cons]
        refine ⟨done ++ [xs], g, L, _, _, _, _, _, by simpa using e, rfl, h0, h1, ?_, ?_, rfl⟩
        · rw [List.flatMap_append]
          simpa [addN, adTo] using h2
        · rw [List.flatMap_append]
          simpa [addN, adTo] using hD
      · rintro y ρ s hy ⟨g, L, r10, r11, rfl, h0, h1, h2, hD, rfl⟩
        refine ⟨_, rfl, ?_⟩
        show wB _ _ _ _ _ _
        have hst := fun s : Sto => stepB_ok (T := T) (n := n) (k := k) (st := s) (m := m) (ms := ms) hS hy (p := here)
        have hn : isN ms p t (xs ++ [y]) = (nextS ms here now (.int y)).isSome := by
          unfold isN; rw [goN_snoc hss, eh, en, Option.isSome_map]
        have hnx := next_nat (p := here) (t := now) hy
        have hvn : ∀ s, nextS ms here now (.int y) = some s → valN ms p t (xs ++ [y]) = (s.b, s.u) := fun s hs => by
          unfold valN
          rw [goN_snoc hss, ← eh, ← en, hs]
          simp only [Option.map_some, endP_snoc, endT_snoc]
        have hi3 : 5 ^ i ≤ 125 := by
          have : i ≤ 3 := by omega
          exact Nat.pow_le_pow_right (by decide) this
        have hM : (done.flatMap (addN ms p t) ++ adTo ms p t xs y).length ≤ 1000 := by
          have a1 := flat_len (f := addN ms p t) (b := 5) (l := done) fun x _ => Nat.le_trans add_len hm
          have a2 : (adTo ms p t xs y).length ≤ y := by
            unfold adTo
            rw [List.length_map]
            exact Nat.le_trans (List.length_filter_le _ _) (by simp)
          have a3 := lev_len (p := p) (t := t) hm i
          have a4 : done.length ≤ (levN ms p t i).length := by rw [← e]; simp
          rw [List.length_append]
          omega
        have hlen : L.length ≤ 2000 := by
          have a1 := hD.len
          have a2 := tot_len (p := p) (t := t) hm i
          rw [List.length_append] at a1
          omega
        have had := add_rowN (st := st ++ g) (xs := xs) (i := y) (by omega)
        rw [wB_cons]
        simp [hst]
        cases hs : sFrom ms y here with
        | none =>
          rw [hs] at hnx
          have hf : isN ms p t (xs ++ [y]) = false := by rw [hn, hnx]; rfl
          simp [o3D]
          rw [wB_cons]
          refine ite_skip (fun s' => s' = st ++ g) (by simp) ?_
          rintro _ rfl
          simp
          exact ⟨g, L, _, _, rfl, h0, h1, by rw [adTo_succ, hf]; simpa using h2, by rw [adTo_succ, hf]; simpa using hD, rfl⟩
        | some s =>
          rw [hs] at hnx
          simp only [] at hnx
          simp [o3D]
          rw [wB_cons]
          by_cases hst' : now ≤ s.t
          · have hns : nextS ms here now (.int y) = some s := by rw [hnx, if_neg (by omega)]
            have hf : isN ms p t (xs ++ [y]) = true := by rw [hn, hns]; rfl
            have hv2 := hvn s hns
            have hw1 := glt h2
            have ha1 : mtApp (st ++ g) .append (.val (.ref (st.length + w))) [.val (rowN (xs ++ [y]))] = some (.val .non, st ++ g.set w (.lst ((done.flatMap (addN ms p t) ++ adTo ms p t xs (y + 1)).map rowN))) := by
              rw [app_ref (xs := (done.flatMap (addN ms p t) ++ adTo ms p t xs y).map rowN) (by rw [gget]; exact h2) (by rw [List.length_map]; omega)]
              simp only [mat_val, gset, adTo_succ, hf, if_true]
              rw [← List.append_assoc, List.map_append (l₁ := done.flatMap (addN ms p t) ++ adTo ms p t xs y)]
              rfl
            obtain ⟨g2, eg2⟩ : ∃ g2, g2 = g.set w (.lst ((done.flatMap (addN ms p t) ++ adTo ms p t xs (y + 1)).map rowN)) := ⟨_, rfl⟩
            rw [← eg2] at ha1
            have h0'' : g2[0]? = some (.dit false (kvW L)) := by rw [eg2, List.getElem?_set_ne (by omega)]; exact h0
            have h1'' : g2[u]? = some (.lst ((levN ms p t i).map rowN)) := by rw [eg2, List.getElem?_set_ne (by omega)]; exact h1
            have h2'' : g2[w]? = some (.lst ((done.flatMap (addN ms p t) ++ adTo ms p t xs (y + 1)).map rowN)) := by rw [eg2, List.getElem?_set_self hw1]
            have had2 := add_rowN (st := st ++ g2) (xs := xs) (i := y) (by omega)
            have hpu : putApp (st ++ g2) (.val (.ref st.length)) (.val (rowN (xs ++ [y]))) (.tup [.int s.b, .int s.u]) = some (st ++ g2.set 0 (.dit false (kvW (putW (xs ++ [y]) (s.b, s.u) L)))) := by
              have := put_row (st := st ++ g2) (j := st.length) (L := L) (xs := xs ++ [y]) (v := (s.b, s.u)) (by rw [gget0]; exact h0'') (by omega)
              rw [this, gset0]
            have hi1 : ∀ s' : Sto, idxApp s' (.val (.tup [.int s.b, .int s.t, .int s.u])) (.val (.int 1)) = some (.val (.int s.t)) := fun s' => rfl
            refine st_cut (fun f ρ1 s1 => f = .nx ∧ ρ1 = [some (netD m ms), some (.int p), some (.int t), some (.ref st.length), some (.ref (st.length + u)), some (.int (i : Int)), some (.ref (st.length + w)), some (rowN xs), some (.int here), some (.int now), some (.int (0 + (y : Int))), some (.tup [.int s.b, .int s.t, .int s.u])] ∧ s1 = st ++ g2.set 0 (.dit false (kvW (putW (xs ++ [y]) (s.b, s.u) L)))) ?_ ?_
            · simp [hi1, hst']
              rw [wB_cons]
              simp [had, ha1]
              rw [wB_cons]
              simp [had2, hpu]
            · rintro f ρ1 s1 ⟨rfl, rfl, rfl⟩
              simp
              refine ⟨_, putW (xs ++ [y]) (s.b, s.u) L, _, _, rfl, ?_, ?_, ?_, ?_, rfl⟩
              · rw [List.getElem?_set_self (glt h0'')]
              · rw [List.getElem?_set_ne (by omega)]; exact h1''
              · rw [List.getElem?_set_ne (by omega)]; exact h2''
              · have := hD.put (xs ++ [y])
                rw [hv2] at this
                rw [adTo_succ, hf, if_pos rfl, ← List.append_assoc, ← List.append_assoc]
                rw [← List.append_assoc] at this
                exact this
          · have hns : nextS ms here now (.int y) = none := by rw [hnx, if_pos (by omega)]
            have hf : isN ms p t (xs ++ [y]) = false := by rw [hn, hns]; rfl
            refine ite_skip (fun s' => s' = st ++ g) ?_ ?_
            · have hi1 : ∀ s' : Sto, idxApp s' (.val (.tup [.int s.b, .int s.t, .int s.u])) (.val (.int 1)) = some (.val (.int s.t)) := fun s' => rfl
              simp [hi1, hst']
            rintro _ rfl
            simp
            exact ⟨g, L, _, _, rfl, h0, h1, by rw [adTo_succ, hf]; simpa using h2, by rw [adTo_succ, hf]; simpa using hD, rfl⟩
  · by_cases hx : xs = []
    · subst hx; simp [lookW, totN, valN, goN_nil, endP, endT]
    · have : ¬ ([] : List Nat) = xs := fun z => hx z.symm
      simp [lookW, totN, hx, this]
end
end Mw

set_option Elab.async false
set_option linter.all false
set_option autoImplicit false
set_option maxRecDepth 100000
/-! PyJ3: all rows, a small net, the table against the program's ways (deck B, k12). -/
namespace Mw
open PySem
section
variable {T : Tab} {n k : Nat} {st : Sto} {ms : List Mt} {m p t : Int}
theorem notin_row {s : Sto} {xs : List Nat} {i : Nat} : inApp s (.val (.int (i : Int))) (.val (rowN xs)) = some (xs.contains i) := by
  unfold rowN
  rw [in_tup rfl (by
    rw [plL_all]
    intro x hx
    obtain ⟨y, _, rfl⟩ := List.mem_map.mp hx
    rfl) rfl (by
    rw [nbL_all]
    intro x hx
    obtain ⟨y, _, rfl⟩ := List.mem_map.mp hx
    rfl)]
  congr 1
  rw [List.contains_eq_mem, decide_eq_decide]
  simp only [List.mem_map, D.int.injEq]
  constructor
  · rintro ⟨y, hy, e⟩
    have : y = i := by omega
    rw [← this]; exact hy
  · intro h; exact ⟨i, h, rfl⟩
def rowIJ (st0 : Sto) (q : Nat) (i : Nat) (ρ : Env) (s : Sto) : Prop :=
  ∃ (g : Sto) (a c : Nat) (r3 r4 r5 r6 : Option D), s = st0 ++ g ∧ g[a]? = some (.lst ((rtot q i).map rowN)) ∧ g[c]? = some (.lst ((rlev q i).map rowN)) ∧
    ρ = [some (.int q), some (.ref (st0.length + a)), some (.ref (st0.length + c)), r3, r4, r5, r6]
def rowMJ (st0 : Sto) (q i a c w : Nat) (r3 : Option D) (zs : List (List Nat)) (ρ : Env) (s : Sto) : Prop :=
  ∃ (done : List (List Nat)) (g : Sto) (r5 r6 : Option D), done ++ zs = rlev q i ∧ s = st0 ++ g ∧ g[a]? = some (.lst ((rtot q i).map rowN)) ∧ g[c]? = some (.lst ((rlev q i).map rowN)) ∧
    g[w]? = some (.lst ((done.flatMap (exR q)).map rowN)) ∧ ρ = [some (.int q), some (.ref (st0.length + a)), some (.ref (st0.length + c)), r3, some (.ref (st0.length + w)), r5, r6]
theorem rtot_len {q : Nat} (hm : q ≤ 5) : ∀ (j : Nat), (rtot q j).length ≤ 2 * 5 ^ j
  | 0 => by simp [rtot]
  | j + 1 => by
    have h1 := rtot_len hm j
    have h2 := rlev_len hm (j + 1)
    rw [rtot, List.length_append, Nat.pow_succ]
    rw [Nat.pow_succ] at h2
    omega
theorem exR_len {q : Nat} {xs : List Nat} : (exR q xs).length ≤ q := by
  unfold exR
  rw [List.length_map]
  exact Nat.le_trans (List.length_filter_le _ _) (by simp)
theorem rows_ok (hT : Has T "_law_rows" fJb_law_rows) {q : Nat} (hq : q ≤ 5) : callF T n (k + 1) "_law_rows" [.int (q : Int)] st = some (.ref st.length, st ++ [.lst ((rowsN q).map rowN)]) := by
  refine callF_eq (callF_w hT rfl ?_)
  simp only [fJb_law_rows, cJb_law_rows]
  rw [wB_cons]; simp
  rw [wB_cons]; simp
  rw [wB_cons]
  have e4 : rngOf [.val (.int 4)] = some ⟨rangeD 0 4, [], true⟩ := rngN (j := 4) (by decide)
  simp only [wS_for, wV_rng, wR_cons, wR_nil, wE_cst, e4, okO_some]
  refine for_rng (rowIJ st q) ?_ ?_ _ _ ⟨[.lst [rowN []], .lst [rowN []]], 0, 1, none, none, none, none, by simp; rfl, rfl, rfl, rfl⟩
  · rintro ρ s ⟨g, a, c, r3, r4, r5, r6, rfl, ha, hc, rfl⟩
    have e5 : rngOf [.val (.int (q : Int))] = some ⟨rangeD 0 q, [], true⟩ := rngN (by omega)
    have h4 := rtot_len hq 4
    rw [wB_cons]
    simp [e5]
    rw [rng_map, compL_all (fun i : Nat => D.int (i : Int)) (fun i => rowN [i, i]) rfl (List.range q) fun i hi => ⟨_, rfl, rfl, ev_eq (by simp [wipeD]; rfl)⟩]
    have had : binApp (st ++ g) .add (.val (.ref (st.length + a))) (.tmp ((List.range q).map fun i => rowN [i, i])) = some (.tmp ((rowsN q).map rowN)) := by
      rw [add_reft (xs := (rtot q 4).map rowN) (by rw [gget]; exact ha) (by simp; omega)]
      simp [rowsN]
    simp [had]
    have hg := gc_new (st := st) (s2 := st) (g := g ++ [.lst ((rowsN q).map rowN)]) (j := g.length) (o := .lst ((rowsN q).map rowN)) Sta.refl (by simp) (lowL_all.mpr fun x hx => by obtain ⟨y, _, rfl⟩ := List.mem_map.mp hx; exact low_rowN)
    refine ⟨sz_ok (by omega), ?_⟩
    rw [hg]
    exact ⟨rfl, rfl⟩
  · rintro i ρ s hi ⟨g, a, c, r3, r4, r5, r6, rfl, ha, hc, rfl⟩
    refine ⟨_, rfl, ?_⟩
    show wB _ _ _ _ _ _
    rw [wB_cons]
    simp
    rw [wB_cons]
    have ha0 := glt ha
    have hc0 := glt hc
    have hi3 : 5 ^ i ≤ 125 := Nat.pow_le_pow_right (n := 5) (j := 3) (by decide) (by omega)
    have hlv := rlev_len hq i
    have htv := rtot_len hq i
    have hw0 : (g ++ [O.lst []])[g.length]? = some (.lst (([] : List (List Nat)).flatMap (exR q) |>.map rowN)) := by simp
    have ha' : (g ++ [O.lst []])[a]? = some (.lst ((rtot q i).map rowN)) := by rw [List.getElem?_append_left ha0]; exact ha
    have hc' : (g ++ [O.lst []])[c]? = some (.lst ((rlev q i).map rowN)) := by rw [List.getElem?_append_left hc0]; exact hc
    obtain ⟨w, ew⟩ : ∃ w, w = g.length := ⟨_, rfl⟩
    obtain ⟨g1, eg1⟩ : ∃ g1, g1 = g ++ [O.lst []] := ⟨_, rfl⟩
    have es1 : st ++ (g ++ [O.lst []]) = st ++ g1 := by rw [eg1]
    have ell : st.length + g.length = st.length + w := by rw [ew]
    rw [es1, ell]
    rw [← eg1] at hw0 ha' hc'
    rw [← ew] at hw0 ha0 hc0
    have hsrc : srcOf (st ++ g1) (.val (.ref (st.length + c))) = some ⟨(rlev q i).map rowN, [(st.length + c, .lst ((rlev q i).map rowN))], false⟩ := src_ref (by rw [gget]; exact hc')
    simp only [wS_for, wV_ex, wE_var]
    simp
    rw [hsrc]
    simp
    refine for_map rowN (rowMJ st q i a c w (some (.int (i : Int)))) ?_ ?_ (rlev q i) _ _ ⟨[], g1, r5, r6, rfl, rfl, ha', hc', hw0, rfl⟩
    · rintro ρ s ⟨done, g, r5, r6, e, rfl, ha, hc, hw, rfl⟩
      rw [List.append_nil] at e
      subst e
      refine ⟨chk_one (by rw [gget]; exact hc), ?_⟩
      have hl2 := rlev_len hq (i + 1)
      have hi4 : 5 ^ (i + 1) ≤ 625 := Nat.pow_le_pow_right (n := 5) (j := 4) (by decide) (by omega)
      have had : binApp (st ++ g) .add (.val (.ref (st.length + a))) (.val (.ref (st.length + w))) = some (.tmp ((rtot q (i + 1)).map rowN)) := by
        rw [add_refs (xs := (rtot q i).map rowN) (ys := (rlev q (i + 1)).map rowN) (by rw [gget]; exact ha) (by rw [gget]; exact hw) (by simp; omega)]
        simp [rtot]
      rw [wB_cons]
      simp [had]
      rw [wB_cons]
      simp
      refine ⟨g ++ [.lst ((rtot q (i + 1)).map rowN)], g.length, w, _, _, _, _, rfl, by simp, ?_, rfl⟩
      rw [List.getElem?_append_left (glt hw)]; exact hw
    · rintro xs zs ρ s ⟨done, g, r5, r6, e, rfl, ha, hc, hw, rfl⟩
      refine ⟨chk_one (by rw [gget]; exact hc), _, rfl, ?_⟩
      show wB _ _ _ _ _ _
      have hxm : xs ∈ rlev q i := by rw [← e]; simp
      have hxi := rlev_l i xs hxm
      have e5 : rngOf [.val (.int (q : Int))] = some ⟨rangeD 0 q, [], true⟩ := rngN (by omega)
      have hdl : (done.flatMap (exR q)).length + (exR q xs).length ≤ 2000 := by
        have a1 := flat_len (f := exR q) (b := 5) (l := done) fun x _ => Nat.le_trans exR_len hq
        have a2 := exR_len (q := q) (xs := xs)
        have a4 : done.length ≤ (rlev q i).length := by rw [← e]; simp
        omega
      rw [wB_cons]
      simp [e5]
      rw [rng_map, compL_fil (fun i : Nat => D.int (i : Int)) (fun i => !(xs.contains i)) (fun i => rowN (xs ++ [i])) rfl (List.range q) fun y hy => ⟨_, rfl, evC_eq ?_, fun _ => ev_eq ?_⟩]
      · have hex : mtApp (st ++ g) .extend (.val (.ref (st.length + w))) [.tmp (((List.range q).filter fun i => !(xs.contains i)).map fun i => rowN (xs ++ [i]))] = some (.val .non, st ++ g.set w (.lst (((done ++ [xs]).flatMap (exR q)).map rowN))) := by
          have eq : (((List.range q).filter fun i => !(xs.contains i)).map fun i => rowN (xs ++ [i])) = (exR q xs).map rowN := by
            unfold exR; rw [List.map_map]; rfl
          rw [eq, ext_ref (xs := (done.flatMap (exR q)).map rowN) (by rw [gget]; exact hw) (by simp; simp at hdl; omega), gset]
          rw [List.flatMap_append, List.map_append]
          simp
        refine ⟨sz_ok (by omega), ?_⟩
        simp only [ok2_some]
        refine ⟨trivial, ?_⟩
        rw [hex]
        simp only [ok2_some]
        refine ⟨done ++ [xs], _, _, _, by simpa using e, rfl, ?_, ?_, List.getElem?_set_self (glt hw), rfl⟩
        · rw [List.getElem?_set_ne (by omega)]; exact ha
        · rw [List.getElem?_set_ne (by omega)]; exact hc
      · simp [wipeD, notin_row]
      · have had := add_rowN (st := st ++ g) (xs := xs) (i := y) (by omega)
        simp [wipeD, had]
end
end Mw

set_option Elab.async false
set_option linter.all false
set_option autoImplicit false
set_option maxRecDepth 100000
/-! PyJ4: a small net; the table against the program's ways (deck B, k12). -/
namespace Mw
open PySem
section
variable {T : Tab} {n k : Nat} {st : Sto} {ms : List Mt} {m p t : Int}
/-- what is left of a meeting -/
def lessM (q : Int) (x : Mt) : Mt := ⟨x.bo, x.a % q, if x.a % q = x.b % q then (x.a % q + 1) % q else x.b % q, x.t, x.l⟩
def smIJ (st0 : Sto) (d : D) (q : Int) (ms0 zs : List Mt) (ρ : Env) (s : Sto) : Prop :=
  ∃ (done : List Mt) (r3 r4 r5 r6 r7 : Option D), done ++ zs = ms0 ∧ s = st0 ++ [.lst ((done.map (lessM q)).map mtD)] ∧ ρ = [some d, some (.int q), some (.ref st0.length), r3, r4, r5, r6, r7]
theorem small_ok (hT : Has T "_law_small" fJb_law_small) {q : Int} (hq : q = if 4 < m then 4 else m) (hm : 2 ≤ m) : callF T n (k + 1) "_law_small" [netD m ms] st = some (netD q ((ms.take 5).map (lessM q)), st) := by
  refine callF_eq (callF_w hT rfl ?_)
  simp only [fJb_law_small, cJb_law_small]
  have hmin : ∀ s : Sto, biApp s .min [.val (.int m), .val (.int 4)] = some (.val (.int q)) := fun s => by
    rw [hq]; simp
  have hq0 : 0 < q := by rw [hq]; split <;> omega
  rw [wB_cons]; simp [idx_net0]
  have e4 : (if 4 < m then 4 else m) = q := hq.symm
  simp only [e4]
  rw [wB_cons]; simp
  rw [wB_cons]
  simp only [wS_for, wV_ex]
  simp [idx_net1]
  rw [show (5 : Int) = ((5 : Nat) : Int) from rfl, cutD_to, ← List.map_take]
  refine for_map mtD (smIJ st (netD m ms) q (ms.take 5)) ?_ ?_ (ms.take 5) _ _ ⟨[], none, none, none, none, none, rfl, rfl, rfl⟩
  · rintro ρ s ⟨done, r3, r4, r5, r6, r7, e, rfl, rfl⟩
    rw [List.append_nil] at e
    subst e
    refine ⟨rfl, ?_⟩
    have htp : biApp (st ++ [O.lst (((ms.take 5).map (lessM q)).map mtD)]) .tuple [.val (.ref st.length)] = some (.val (.tup (((ms.take 5).map (lessM q)).map mtD))) := tup_ref (by simp)
    obtain ⟨ws, ew⟩ : ∃ ws, ws = (ms.take 5).map (lessM q) := ⟨_, rfl⟩
    have ew2 : (ms.map (lessM q)).take 5 = ws := by rw [ew, List.map_take]
    rw [← ew] at htp ⊢
    simp only []
    rw [wB_cons]
    simp [htp, ew2]
    show (gc st (netD q ws) _).fst = _ ∧ (gc st (netD q ws) _).snd = _
    rw [gc_app (by simp [netD]; exact lowL_mt)]
    exact ⟨rfl, rfl⟩
  · rintro x zs ρ s ⟨done, r3, r4, r5, r6, r7, e, rfl, rfl⟩
    refine ⟨rfl, _, rfl, ?_⟩
    show wB _ _ _ _ _ _
    have hap : ∀ y : Mt, mtApp (st ++ [O.lst ((done.map (lessM q)).map mtD)]) .append (.val (.ref st.length)) [.val (mtD y)] = some (.val .non, st ++ [O.lst ((done.map (lessM q)).map mtD ++ [mtD y])]) := fun y => by
      have hdl : done.length ≤ 5 := by
        have := congrArg List.length e
        rw [List.length_append, List.length_take] at this
        omega
      rw [app_ref (xs := (done.map (lessM q)).map mtD) (by simp) (by simp; omega)]
      simp
    rw [wB_cons]
    simp [hq0]
    rw [wB_cons]
    simp [hq0]
    rw [wB_cons]
    obtain ⟨b5, eb⟩ : ∃ b5, b5 = if x.a % q = x.b % q then (x.a % q + 1) % q else x.b % q := ⟨_, rfl⟩
    have hd : D.tup [wdD x.bo, .int (x.a % q), .int b5, .int x.t, .int x.l] = mtD (lessM q x) := by rw [eb]; rfl
    refine st_cut (fun f ρ1 s1 => f = .nx ∧ ρ1 = [some (netD m ms), some (.int q), some (.ref st.length), some (wdD x.bo), some (.int (x.a % q)), some (.int b5), some (.int x.t), some (.int x.l)] ∧ s1 = st ++ [O.lst ((done.map (lessM q)).map mtD)]) ?_ ?_
    · by_cases h : x.a % q = x.b % q
      · rw [if_pos h] at eb
        simp [h, wB_cons, hq0]
        rw [eb, h]
        first | exact (Int.emod_add_emod _ _ _).symm | simp
      · rw [if_neg h] at eb
        simp [h, wB_cons, hq0]
        exact eb.symm
    · rintro f ρ1 s1 ⟨rfl, rfl, rfl⟩
      simp only []
      rw [wB_cons]
      simp only [List.map_map] at hap
      simp [hd, hap]
      exact ⟨done ++ [x], _, _, _, _, _, by simpa using e, by simp, rfl⟩
end
section
variable {T : Tab} {n k : Nat} {st : Sto} {ms : List Mt} {m p t : Int}
structure HWj (T : Tab) : Prop where
  whole : Has T "is_whole" fis_whole
  sfrom : Has T "step_from" fstep_from
  next : Has T "next_step" fnext_step
  way : Has T "is_way" fis_way
  pls : Has T "places_on" fplaces_on
  com : Has T "comes_at" fcomes_at
theorem HWj.is (H : HWj T) {x : D} (hx : thOk st x = true) : callF T n (k + 3) "is_way" [netD m ms, .int p, .int t, x] st = some (.bl (isWayB ms p t x), st) := is_way_ok H.whole H.sfrom H.next H.way hx
theorem HWj.pl (H : HWj T) {ss : List Sp} (hl : ss.length ≤ 1000000) (h : Chn ms p ss) : callF T n (k + 2) "places_on" [netD m ms, .int p, kD ss] st = some (plcD p ss, st) := places_on_ok H.sfrom H.pls hl h
theorem HWj.co (H : HWj T) {ss : List Sp} (h : Chn ms p ss) : callF T n (k + 1) "comes_at" [netD m ms, .int t, kD ss] st = some (.int (endT t ss), st) := comes_at_ok H.com h
structure HJ (T : Tab) (n : Nat) : Prop where
  w : HWj T
  step : Has T "_law_step" fB_law_step
  small : Has T "_law_small" fJb_law_small
  all : Has T "_law_all" fJb_law_all
  rows : Has T "_law_rows" fJb_law_rows
  right : Has T "_law_right" fJb_law_right
def riI (ms : List Mt) (p t : Int) (L : RT4) (a b c d : D) (st0 : Sto) (rs zs : List (List Nat)) (ρ : Env) (s : Sto) : Prop :=
  ∃ (done : List (List Nat)) (r6 r7 : Option D), done ++ zs = rs ∧ s = st0 ++ [.dit false (kvW L)] ∧ ρ = [some a, some b, some c, some d, some (.ref st0.length), some (.int ((done.filter (isN ms p t)).length : Nat)), r6, r7]
theorem rightJ_ok (H : HJ T n) (hl : ∀ x ∈ ms, 1 ≤ x.l) (hm : ms.length ≤ 5) {j : Nat} (hj : st[j]? = some (.lst ((rowsN ms.length).map rowN))) : callF T n (k + 4) "_law_right" [netD m ms, .int p, .int t, .ref j] st = some (.bl true, st) := by
  refine callF_eq (callF_w H.right rfl ?_)
  simp only [fJb_law_right, cJb_law_right]
  rw [wB_cons]; simp
  refine allW_ok H.step H.all hm fun L hD => ?_
  rw [wB_cons]; simp
  rw [wB_cons]
  simp only [wS_for, wV_ex, wE_var]
  have hj2 : (st ++ [O.dit false (kvW L)])[j]? = some (.lst ((rowsN ms.length).map rowN)) := get_old hj
  simp
  rw [src_ref hj2]
  simp
  refine for_map rowN (riI ms p t L (netD m ms) (.int p) (.int t) (.ref j) st (rowsN ms.length)) ?_ ?_ (rowsN ms.length) _ _ ⟨[], none, none, rfl, rfl, rfl⟩
  · rintro ρ s ⟨done, r6, r7, e, rfl, rfl⟩
    rw [List.append_nil] at e
    subst e
    refine ⟨chk_one hj2, ?_⟩
    have hc := count_rows hl hm hD
    have hlen := len_dit (st := st ++ [O.dit false (kvW L)]) (j := st.length) (L := L) (by simp)
    rw [wB_cons]
    simp [hlen, hc]
    rw [gc_app rfl]; exact ⟨rfl, rfl⟩
  · rintro xs zs ρ s ⟨done, r6, r7, e, rfl, rfl⟩
    refine ⟨chk_one hj2, _, rfl, ?_⟩
    show wB _ _ _ _ _ _
    have hxm : xs ∈ rowsN ms.length := by rw [← e]; simp
    have hx4 := rows_l hxm
    have hin := in_row (st := st ++ [O.dit false (kvW L)]) (j := st.length) (L := L) (xs := xs) (lk := false) (by simp)
    have hix := idx_rowJ (st := st ++ [O.dit false (kvW L)]) (j := st.length) (L := L) (xs := xs) (lk := false) (by simp)
    have hmem : xs ∈ totN ms p t 4 ↔ isN ms p t xs = true := by
      rw [tot_iff]; exact ⟨fun h => h.1, fun h => ⟨h, hx4⟩⟩
    have his : ∀ s : Sto, callF T n (k + 3) "is_way" [netD m ms, .int p, .int t, rowN xs] s = some (.bl (isN ms p t xs), s) := fun s => H.w.is th_rowN
    have hlk : (lookW L xs).isSome = isN ms p t xs := by
      rw [hD.at_]
      cases hi : isN ms p t xs with
      | true => rw [if_pos (hmem.mpr hi)]; rfl
      | false => rw [if_neg (fun z => by rw [hmem.mp z] at hi; cases hi)]; rfl
    rw [hlk] at hin
    rw [wB_cons]
    simp [his]
    rw [wB_cons]
    simp [hin]
    cases hi : isN ms p t xs with
    | false =>
      rw [wB_cons]
      simp
      exact ⟨done ++ [xs], some (rowN xs), some (.bl false), by simpa using e, rfl, by rw [List.filter_append]; simp [hi]⟩
    | true =>
      obtain ⟨ss, hss⟩ := Option.isSome_iff_exists.mp (show (goN ms p t xs).isSome = true from hi)
      have hv : valN ms p t xs = (endP p ss, endT t ss) := by unfold valN; rw [hss]
      rw [hD.at_, if_pos (hmem.mpr hi), hv] at hix
      have hr := goN_row hss
      have hch := (wayGo_some hss).2
      have hsl : ss.length ≤ 1000000 := by
        have := congrArg List.length (goN_k hss)
        rw [List.length_map] at this
        omega
      have hp := fun s : Sto => H.w.pl (T := T) (n := n) (k := k + 1) (st := s) (m := m) hsl hch
      have hc := fun s : Sto => H.w.co (T := T) (n := n) (k := k + 2) (st := s) (m := m) (t := t) hch
      rw [← hr] at hp hc
      have hat : ∀ s : Sto, idxApp s (.val (plcD p ss)) (.val (.int (-1))) = some (.val (.int (endP p ss))) := fun s => by
        show (L2.atI _ _).map _ = _
        rw [idx_pl_last]; rfl
      have heq : ∀ s : Sto, pyEq s (.val (.tup [.int (endP p ss), .int (endT t ss)])) (.val (.tup [.int (endP p ss), .int (endT t ss)])) = some true := fun s => by
        have := eq_ints (st := s) [endP p ss, endT t ss] [endP p ss, endT t ss]
        simpa using this
      generalize plcD p ss = dp at hp hat
      rw [wB_cons]
      refine st_cut (fun f ρ1 s1 => f = .nx ∧ ρ1 = [some (netD m ms), some (.int p), some (.int t), some (.ref j), some (.ref st.length), some (.int (((done ++ [xs]).filter (isN ms p t)).length : Nat)), some (rowN xs), some (.bl true)] ∧ s1 = st ++ [.dit false (kvW L)]) ?_ ?_
      · simp [hi, wB_cons, hp, hc, hat, hix, heq]
      · rintro f ρ1 s1 ⟨rfl, rfl, rfl⟩
        simp only []
        simp
        exact ⟨done ++ [xs], some (rowN xs), some (.bl true), by simpa using e, rfl, by simp⟩
end
end Mw

set_option Elab.async false
set_option linter.all false
set_option maxRecDepth 100000
set_option maxHeartbeats 0
namespace Mw.K12
open PySem PySem.Spec PyProof.Rows L2
def claw : CSs := (.cons (.for (.nm 1) (.rng (.cons (.bi .max (.cons (.cst (.int 1)) (.cons (.bi .min (.cons (.bi .len (.cons (.var 0) .nil)) (.cons (.cst (.int 2)) .nil))) .nil))) .nil)) (.cons (.asg (.nm 2) (.call "_law_deck" (.cons (.var 0) (.cons (.var 1) .nil)))) (.cons (.asg (.nm 3) (.call "_law_small" (.cons (.call "_law_net" (.cons (.var 2) (.cons (.cst (.int 2)) .nil))) .nil))) (.cons (.asg (.nm 4) (.call "_law_rows" (.cons (.bi .len (.cons (.idx (.var 3) (.cst (.int 1))) .nil)) .nil))) (.cons (.asg (.nm 5) (.bi .set (.cons (.bin .add (.lst (.cons (.cst (.int 0)) (.cons (.call "_law_moment" (.cons (.var 2) (.cons (.var 3) .nil))) .nil))) (.comp (.nm 8) (.ex (.sli (.idx (.var 3) (.cst (.int 1))) .nil (.cons (.cst (.int 1)) .nil))) .nil (.idx (.var 8) (.cst (.int 3))) [8])) .nil))) (.cons (.for (.nm 6) (.rng (.cons (.idx (.var 3) (.cst (.int 0))) .nil)) (.cons (.for (.nm 7) (.ex (.var 5)) (.cons (.ite (.not (.call "_law_right" (.cons (.var 3) (.cons (.var 6) (.cons (.var 7) (.cons (.var 4) .nil)))))) (.cons (.ret (.cst (.bl false))) .nil) .nil) .nil)) .nil)) .nil)))))) (.cons (.ret (.cst (.bl true))) .nil))
abbrev topS (i : Nat) : Stmt := PySem.Challenge.pw_meetways_k12_all_ways_of_small_nets.main.body.getD i (.Pass ⟨0, 0, 0, 0⟩)
def eis_whole : Fe := ⟨"is_whole", topS 1, ["thing"], 1, Mw.cis_whole, "is_whole"⟩
def estep_from : Fe := ⟨"step_from", topS 3, ["net", "number", "place", "word", "one", "other", "begin", "long"], 3, Mw.cstep_from, "step_from"⟩
def enext_step : Fe := ⟨"next_step", topS 4, ["net", "place", "moment", "thing", "step"], 4, Mw.cnext_step, "next_step"⟩
def eis_way : Fe := ⟨"is_way", topS 5, ["net", "place", "moment", "thing", "here", "now", "number", "step"], 4, Mw.cis_way, "is_way"⟩
def eplaces_on : Fe := ⟨"places_on", topS 6, ["net", "place", "way", "found", "number"], 3, Mw.cplaces_on, "places_on"⟩
def ecomes_at : Fe := ⟨"comes_at", topS 7, ["net", "moment", "way", "word", "one", "other", "begin", "long"], 3, Mw.ccomes_at, "comes_at"⟩
def e_law_deck : Fe := ⟨"_law_deck", topS 9, ["_law_script", "_law_k", "_law_cell"], 2, Mw.cB_law_deck, "_law_deck"⟩
def e_law_draw : Fe := ⟨"_law_draw", topS 10, ["_law_deck_here", "_law_most", "_law_digit", "_law_number"], 2, Mw.cB_law_draw, "_law_draw"⟩
def e_law_far : Fe := ⟨"_law_far", topS 11, ["_law_deck_here", "_law_most", "_law_number", "_law_k"], 2, Mw.cB_law_far, "_law_far"⟩
def e_law_begin : Fe := ⟨"_law_begin", topS 12, ["_law_deck_here", "_law_way", "_law_rows_here", "_law_near", "_law_last"], 3, Mw.cB_law_begin, "_law_begin"⟩
def e_law_meeting : Fe := ⟨"_law_meeting", topS 13, ["_law_deck_here", "_law_way", "_law_many", "_law_rows_here", "_law_one", "_law_other", "_law_word", "_law_begin_here", "_law_long", "_law_far_here"], 4, Mw.cB_law_meeting, "_law_meeting"⟩
def e_law_net : Fe := ⟨"_law_net", topS 14, ["_law_deck_here", "_law_least", "_law_way", "_law_great", "_law_many", "_law_count", "_law_rows_here", "_law_k"], 2, Mw.cB_law_net, "_law_net"⟩
def e_law_moment : Fe := ⟨"_law_moment", topS 15, ["_law_deck_here", "_law_net_here", "_law_way", "_law_word", "_law_one", "_law_other", "_law_begin_here", "_law_long"], 2, Mw.cB_law_moment, "_law_moment"⟩
def e_law_step : Fe := ⟨"_law_step", topS 16, ["_law_net_here", "_law_number", "_law_place", "_law_word", "_law_one", "_law_other", "_law_begin_here", "_law_long"], 3, Mw.cB_law_step, "_law_step"⟩
def e_law_small : Fe := ⟨"_law_small", topS 18, ["_law_net_here", "_law_many", "_law_found", "_law_word", "_law_one", "_law_other", "_law_begin_here", "_law_long"], 1, Mw.cJb_law_small, "_law_small"⟩
def e_law_all : Fe := ⟨"_law_all", topS 19, ["_law_net_here", "_law_place", "_law_moment_here", "_law_found", "_law_last", "_law_turn", "_law_more", "_law_way", "_law_here", "_law_now", "_law_number", "_law_step_here"], 3, Mw.cJb_law_all, "_law_all"⟩
def e_law_rows : Fe := ⟨"_law_rows", topS 20, ["_law_many", "_law_found", "_law_last", "_law_turn", "_law_more", "_law_row", "_law_number"], 1, Mw.cJb_law_rows, "_law_rows"⟩
def e_law_right : Fe := ⟨"_law_right", topS 21, ["_law_net_here", "_law_place", "_law_moment_here", "_law_rows_here", "_law_due", "_law_many", "_law_row", "_law_found"], 4, Mw.cJb_law_right, "_law_right"⟩
def elaw : Fe := ⟨"law", topS 22, ["_law_script", "_law_k", "_law_deck_here", "_law_net_here", "_law_rows_here", "_law_moments", "_law_place", "_law_moment_here", "_law_meeting_here"], 1, claw, "law"⟩
def fes : List Fe := [eis_whole, estep_from, enext_step, eis_way, eplaces_on, ecomes_at, e_law_deck, e_law_draw, e_law_far, e_law_begin, e_law_meeting, e_law_net, e_law_moment, e_law_step, e_law_small, e_law_all, e_law_rows, e_law_right, elaw]
def fr : List Str := ["isinstance", "int", "bool", "len", "tuple", "max", "range", "min", "sorted", "set"]
def cs : List (Str × D) := []
def loose0 : List PySem.Str := ["is_whole", "step_from", "next_step", "is_way", "places_on", "comes_at", "_law_deck", "_law_draw", "_law_far", "_law_begin", "_law_meeting", "_law_net", "_law_moment", "_law_step", "_law_gone", "_law_small", "_law_all", "_law_rows", "_law_right"]
def loose : List PySem.Str := loose0
theorem nd : (fes.map (·.nm)).Nodup := by decide +kernel
theorem ck : fes.all (ckF fr (fnsOf fes) cs) = true := by kernel_rfl
abbrev R : PySem.W.OpenRow := PySem.W.OpenLaw.row PySem.Challenge.rw_meetways_k12_all_ways_of_small_nets
abbrev hk : PySem.W.Hook := hkOf fr fes cs
def ob (s : PySem.W.SharedT) : hk.α := He.obsX 5 (faOf fr fes) (fes.map Fe.dd) [] [] (csIn cs) (HandSHeadRun.getT s)
theorem ob_eq (s : PySem.W.SharedT) : ob s = hk.obs s.abs := He.obsX_eq (HandSHeadRun.getT_eq s)
theorem run (w : World) : HandSHeadRun.RunEq R (PySem.W.view R.prog [22]) hk ob 3000 loose w := by
  intro os
  kernel_rfl
-- uses: PyJ4
/-! the law, by the core alone -/
structure HL (T : Tab) (n : Nat) : Prop where
  b : HB T n
  j : HJ T n
  deck : Has T "_law_deck" fB_law_deck
  law : Has T "law" ⟨1, 9, claw⟩
def lawI (sc : D) (_ : Nat) (ρ : Env) (_ : Sto) : Prop := ∃ r1 r2 r3 r4 r5 r6 r7 r8 : Option D, ρ = [some sc, r1, r2, r3, r4, r5, r6, r7, r8]
def plI12 (a b c d e f : D) (s0 : Sto) (_ : Nat) (ρ : Env) (s : Sto) : Prop := s = s0 ∧ ∃ r6 r7 r8 : Option D, ρ = [some a, some b, some c, some d, some e, some f, r6, r7, r8]
def moI12 (a b c d e f g : D) (s0 : Sto) (_ : List Int) (ρ : Env) (s : Sto) : Prop := s = s0 ∧ ∃ r7 r8 : Option D, ρ = [some a, some b, some c, some d, some e, some f, some g, r7, r8]
theorem nubJ_le : ∀ xs : List Int, (nubI xs).length ≤ xs.length
  | [] => Nat.le_refl _
  | x :: xs => by
    have h1 := nubJ_le xs
    have h2 := List.length_filter_le (fun y => decide (y ≠ x)) (nubI xs)
    simp only [nubI, List.length_cons]; omega
theorem set_appJ {st : Sto} {ns : List Int} (h1 : ns.length < 64) : biApp st .set [.tmp (ns.map .int)] = some (.tmp ((sortI ns).map .int)) := by
  have h2 := nubJ_le ns
  have hb : (decide (ns.length ≤ 4000) && decide ((nubI ns).length < 64)) = true := by rw [decide_eq_true (by omega), decide_eq_true (by omega)]; rfl
  have hi := intsOf_map ns
  simp only [biApp, biSet, biSetI, orE, listOf, Option.bind_some, hi, hb, if_true]
theorem key {T : Tab} {n : Nat} (H : HL T n) {ns : List Int} (hl : ns.length ≤ 63) : ok2 (callF T n 10 "law" [.rol (ns.map .int)] []) fun d _ => d = .bl true := by
    refine callF_f H.law rfl ?_
    unfold claw
    rw [wB_cons]
    simp only [wS_for]
    obtain ⟨j, ej, hj⟩ := turns (a := 1) (b := 2) (c := (ns.length : Int)) (by decide) (by decide) (by omega) (by omega)
    simp
    have ej' : (if 1 < (if 2 < (ns.length : Int) then 2 else (ns.length : Int)) then (if 2 < (ns.length : Int) then 2 else (ns.length : Int)) else 1) = (j : Int) := by
      rw [← ej]; repeat (first | omega | split)
    rw [ej']
    simp [rngN (show j < 2 ^ 62 by omega)]
    refine for_rng (lawI (.rol (ns.map .int))) ?_ ?_ _ _ ⟨none, none, none, none, none, none, none, none, rfl⟩
    · rintro ρ s ⟨r1, r2, r3, r4, r5, r6, r7, r8, rfl⟩
      simp [wB_cons, gc_fst_bl]
    · rintro i ρ s hi ⟨r1, r2, r3, r4, r5, r6, r7, r8, rfl⟩
      refine ⟨_, rfl, ?_⟩
      show wB _ _ _ _ _ _
      rw [wB_cons]
      simp
      refine deckB H.deck ?_
      intro st r o hr ho
      rw [wB_cons]
      simp
      refine netB (k := 5) H.b.draw H.b.far H.b.beg H.b.meet H.b.net hr ho (by decide) (by decide) ?_
      intro m ms o1 hN h2 d1
      obtain ⟨q, eq⟩ : ∃ q : Nat, q = if 4 < m then 4 else m := ⟨_, rfl⟩
      have eqi : (q : Int) = if 4 < (m : Int) then 4 else (m : Int) := by rw [eq]; split <;> split <;> omega
      have hsm := fun s : Sto => small_ok (T := T) (n := n) (k := 8) (st := s) (m := (m : Int)) (ms := ms) H.j.small eqi (by omega)
      obtain ⟨ws, ew⟩ : ∃ ws, ws = (ms.take 5).map (lessM (q : Int)) := ⟨_, rfl⟩
      rw [← ew] at hsm
      have hws : ∀ x ∈ ws, 0 ≤ x.t ∧ 1 ≤ x.l ∧ x.t + x.l ≤ 10 ^ 16 := by
        intro x hx
        rw [ew] at hx
        obtain ⟨y, hy, rfl⟩ := List.mem_map.mp hx
        have hy' := List.mem_of_mem_take hy
        obtain ⟨_, _, _, _, _, q6, q7⟩ := hN.ok y hy'
        have := hN.bd y hy'
        exact ⟨q6, q7, by simp only [lessM]; omega⟩
      have hwl : ws.length ≤ 5 := by rw [ew]; simp; omega
      have hq4 : q ≤ 4 := by rw [eq]; split <;> omega
      simp [hsm]
      have hro := fun s : Sto => rows_ok (T := T) (n := n) (k := 8) (st := s) H.j.rows hwl
      rw [wB_cons]
      simp [idx_net1, hro]
      rw [pull hr]
      have hr2 : r < (st ++ [O.lst ((rowsN ws.length).map rowN)]).length := by simp; omega
      have hs2 : ∀ o', ((st ++ [O.lst ((rowsN ws.length).map rowN)]).set r o')[st.length]? = some (.lst ((rowsN ws.length).map rowN)) := fun o' => by
        rw [List.getElem?_set_ne (by omega)]; simp
      generalize (st ++ [O.lst ((rowsN ws.length).map rowN)]) = st2 at hr2 hs2 ⊢
      rw [wB_cons]
      simp
      refine momB (k := 7) H.b.draw H.b.mom hr2 d1 (by omega) hws fun t o2 a2 b2 d2 => ?_
      simp [idx_net1]
      rw [show (1 : Int) = ((1 : Nat) : Int) from rfl, cutD_to, ← List.map_take]
      rw [compL_all mtD (fun x => .int x.t) rfl (ws.take 1) fun x hx => ⟨_, rfl, rfl, ev_eq (by simp [wipeD, mtD])⟩]
      obtain ⟨vs, ev⟩ : ∃ vs : List Int, vs = 0 :: t :: (ws.take 1).map (fun x => x.t) := ⟨_, rfl⟩
      have hvl : vs.length < 64 := by
        rw [ev]; simp; omega
      have hset := fun s : Sto => set_appJ (st := s) (ns := vs) hvl
      have ed : D.int 0 :: D.int t :: (ws.take 1).map (fun x => D.int x.t) = vs.map D.int := by rw [ev, List.map_cons, List.map_cons, List.map_map]; rfl
      simp only [ok2_some, ed, hset, okO_some, mat_tmp]
      refine ⟨sz_ok (by simp; omega), ?_⟩
      have hs3 : ((st2.set r o2) ++ [O.lst ((sortI vs).map D.int)])[st.length]? = some (.lst ((rowsN ws.length).map rowN)) := get_old (hs2 o2)
      have hm3 : ((st2.set r o2) ++ [O.lst ((sortI vs).map D.int)])[(st2.set r o2).length]? = some (.lst ((sortI vs).map D.int)) := by simp
      generalize (st2.set r o2).length = c5 at hm3 ⊢
      generalize ((st2.set r o2) ++ [O.lst ((sortI vs).map D.int)]) = s3 at hs3 hm3 ⊢
      have hl1 : ∀ x ∈ ws, 1 ≤ x.l := fun x hx => (hws x hx).2.1
      rw [wB_cons]
      simp [idx_net0, rngN (show q < 2 ^ 62 by omega)]
      refine for_rng (plI12 (.rol (ns.map .int)) (.int i) (.ref r) (netD q ws) (.ref st.length) (.ref c5) s3) ?_ ?_ _ _ ⟨rfl, _, _, _, rfl⟩
      · rintro ρ s ⟨rfl, r6, r7, r8, rfl⟩
        simp
        exact ⟨_, _, _, _, _, _, _, _, rfl⟩
      · rintro pl ρ s hpl ⟨rfl, r6, r7, r8, rfl⟩
        refine ⟨_, rfl, ?_⟩
        show wB _ _ _ _ _ _
        rw [wB_cons]
        simp only [wS_for, wV_ex, wE_var]
        simp
        rw [src_ref hm3]
        simp
        refine for_map D.int (moI12 (.rol (ns.map .int)) (.int i) (.ref r) (netD q ws) (.ref st.length) (.ref c5) (.int (pl : Nat)) s) ?_ ?_ (sortI vs) _ _ ⟨rfl, _, _, rfl⟩
        · rintro ρ s ⟨rfl, r7, r8, rfl⟩
          refine ⟨chk_one hm3, ?_⟩
          simp
          exact ⟨rfl, _, _, _, rfl⟩
        · rintro mo zs ρ s ⟨rfl, r7, r8, rfl⟩
          refine ⟨chk_one hm3, _, rfl, ?_⟩
          have hr := rightJ_ok (T := T) (n := n) (k := 5) (st := s) (m := (q : Int)) (p := (pl : Int)) (t := mo) H.j hl1 hwl hs3
          show wB _ _ _ _ _ _
          rw [wB_cons]
          simp [hr]
          exact ⟨rfl, _, _, rfl⟩
theorem lawok : LawOk fes 3000000 10 63 := by
  intro ns hl
  obtain ⟨d, s, e, rfl⟩ := ok2_ex.mp (key (T := tabOf fes) (n := 3000000) ⟨⟨drawB (by rfl), by rfl, by rfl, by rfl, by rfl, by rfl, by decide⟩, ⟨⟨by rfl, by rfl, by rfl, by rfl, by rfl, by rfl⟩, by rfl, by rfl, by rfl, by rfl, by rfl⟩, by rfl, by rfl⟩ hl)
  exact ⟨s, e⟩

end Mw.K12
open PySem PySem.W PySem.Calls PyProof.Rows
theorem PySem.Challenge.cw_meetways_k12_all_ways_of_small_nets_holds : PySem.Challenge.rw_meetways_k12_all_ways_of_small_nets.Holds := by
  w_on; o_law
  refine HandSHeadRun.head_any (r := OpenLaw.row PySem.Challenge.rw_meetways_k12_all_ways_of_small_nets) (q := view (OpenLaw.row PySem.Challenge.rw_meetways_k12_all_ways_of_small_nets).prog [22]) (H := Mw.K12.hk) (ob := Mw.K12.ob) (M := 3000) (loose := Mw.K12.loose) (d := HandSHeadRun.topDef (OpenLaw.row PySem.Challenge.rw_meetways_k12_all_ways_of_small_nets).prog 22) (kwd := []) Mw.K12.ob_eq
    (by kernel_rfl) (fun s => by kernel_rfl) Mw.K12.run (by kernel_rfl) (by kernel_rfl) (by kernel_rfl) (by rfl) (by first | assumption | decide +kernel) (by decide +kernel) ⟨rfl, rfl, rfl, rfl, rfl, by decide +kernel⟩ ?hw ?hc
  case hw => w_witness2
  case hc =>
    refine Mw.walk_ofG (l := PySem.Challenge.rw_meetways_k12_all_ways_of_small_nets) (n := 63) (k := 10) (x := "_law_script") rfl (by decide) (by kernel_rfl) ⟨rfl, by decide, by decide⟩ ?F (fun _ _ _ _ z => z)
    intro w mg fa h Y G hmg0
    have hn : (HandSHeadRun.topDef (OpenLaw.row PySem.Challenge.rw_meetways_k12_all_ways_of_small_nets).prog 22).name = Str.ofString "law" := by kernel_rfl
    exact Mw.law_F (P := (PySem.Challenge.rw_meetways_k12_all_ways_of_small_nets).prog) (e := Mw.K12.elaw) (List.mem_of_getElem? (i := 18) (by rfl)) (by rfl) (by rfl) Mw.K12.nd Mw.K12.ck Mw.K12.lawok w mg fa h Y G (hn ▸ hmg0)

