import PyProof.Rows.All
import Wide.All
import OpenK.AllK
import Wide.FinOn
import HandS.ForMost
import KE.SortData
import HandS.HeadHook1
import HandS.Lambda
import HandS.TupAny
import HandS.TupMul
import HandS.TupLe
import HandS.Deep
import HandS.IsInst
import HandS.SortInts
import HandS.RaiseMore
import HandS.More
import HandS.TupLen
import HandS.WordsDict
import HandS.Flow
import HandS.Style
import HandS.Walk
import KE.KRevSl
import KE.GoesMore
import KE.GoesEnum
import KE.GoesNew
import HandS.Iter
import HandS.Conv
import HandS.Comp
import HandS.Defaults
import HandS.HeadHook4
import HandS.HeadEnd
import HandS.ExcOwn
import HandS.WordsExc
import HandS.Call
import HandS.SortKw
import KE.DataMinMax
import HandS.RevRange
import KE.SortKeyHeap
import HandS.Keys
import PyProof.ReprRoads
import PyProof.Rows.NestShow
import KE.DatumIndex
import HandS.TryOnly
import HandS.ExcIs
import HandS.TupSets
import KE.KDictDisplayH
import KE.KDictCopyH
import KE.KDictList
import KE.KTupSum
import HandS.SetFor
import HandS.Strs
import HandS.Rev
import PyProof.ListNew
import HandS.HeadHook2
import HandS.Head2
import PyProof.P3Statements
import HandS.Text
import PySem.Challenge.RW_meetways_k44_waits_told
set_option Elab.async false
set_option linter.all false
set_option maxRecDepth 100000
/-! PyA: values, stores, core syntax and the interpreter (total, no heap addresses). -/
namespace Mw
open PySem

/-- values: tuples are deep, what can change stands in the store -/
inductive D where
  | non | bl (b : Bool) | int (i : Int) | str (s : Str) | tup (xs : List D) | rol (xs : List D) | ref (n : Nat)
  deriving Inhabited

mutual
def D.beq : D → D → Bool
  | .non, .non => true
  | .bl a, .bl b => a == b
  | .int a, .int b => a == b
  | .str a, .str b => decide (a = b)
  | .tup a, .tup b => D.beqL a b
  | .rol a, .rol b => D.beqL a b
  | .ref a, .ref b => a == b
  | _, _ => false
def D.beqL : List D → List D → Bool
  | [], [] => true
  | a :: as, b :: bs => D.beq a b && D.beqL as bs
  | _, _ => false
end
mutual
theorem D.beq_eq : ∀ (a b : D), D.beq a b = true → a = b
  | .non, b, h => by cases b <;> simp_all [D.beq]
  | .bl _, b, h => by cases b <;> simp_all [D.beq]
  | .int _, b, h => by cases b <;> simp_all [D.beq]
  | .str _, b, h => by cases b <;> simp_all [D.beq]
  | .ref _, b, h => by cases b <;> simp_all [D.beq]
  | .tup xs, b, h => by
    cases b with
    | tup ys => rw [D.beqL_eq xs ys (by simpa [D.beq] using h)]
    | _ => simp_all [D.beq]
  | .rol xs, b, h => by
    cases b with
    | rol ys => rw [D.beqL_eq xs ys (by simpa [D.beq] using h)]
    | _ => simp_all [D.beq]
theorem D.beqL_eq : ∀ (a b : List D), D.beqL a b = true → a = b
  | [], b, h => by cases b <;> simp_all [D.beqL]
  | x :: xs, b, h => by
    cases b with
    | nil => simp_all [D.beqL]
    | cons y ys =>
      simp only [D.beqL, Bool.and_eq_true] at h
      rw [D.beq_eq x y h.1, D.beqL_eq xs ys h.2]
end
mutual
theorem D.beq_refl : ∀ a : D, D.beq a a = true
  | .non | .bl _ | .int _ | .str _ | .ref _ => by simp [D.beq]
  | .tup xs => by simp only [D.beq]; exact D.beqL_refl xs
  | .rol xs => by simp only [D.beq]; exact D.beqL_refl xs
theorem D.beqL_refl : ∀ a : List D, D.beqL a a = true
  | [] => rfl
  | x :: xs => by simp only [D.beqL, D.beq_refl x, D.beqL_refl xs, Bool.and_self]
end
instance : DecidableEq D := fun a b => if h : D.beq a b = true then isTrue (D.beq_eq a b h) else isFalse fun e => h (e ▸ D.beq_refl a)

/-- objects of the store -/
inductive O where
  | lst (xs : List D) | dic (lk : Bool) (kvs : List (D × D)) | dit (lk : Bool) (kvs : List (D × D)) | ins (c : Str) (fs : List (Str × D))
  deriving DecidableEq, Inhabited
abbrev Sto := List O
abbrev Env := List (Option D)
/-- what an expression gives: a value, or a list just made that nothing else holds -/
inductive RV where
  | val (d : D) | tmp (xs : List D)
  deriving DecidableEq, Inhabited

inductive Op where
  | add | sub | mul | fdiv | mod | pow | shl | shr | band | bor
  deriving DecidableEq
inductive Cm where
  | eq | ne | lt | le | gt | ge | isin | notin | isN | notN
  deriving DecidableEq
inductive Ty where
  | int | bool | str | tuple | list | dict
  deriving DecidableEq
inductive BI where
  | len | int | str | repr | bool | tuple | list | max | min | sum | any | all | sorted | set | abs | revl
  deriving DecidableEq
inductive MT where
  | append | extend | insert | pop | index | remove | count | get | setdefault | values | join | split | replace | upper | tindex
  deriving DecidableEq

mutual
inductive Tgt where
  | nm (i : Nat) | tp (ts : Tgts)
inductive Tgts where
  | nil | cons (t : Tgt) (ts : Tgts)
end
mutual
inductive CE where
  | var (i : Nat) | cst (d : D)
  | bin (o : Op) (a b : CE) | neg (a : CE) | not (a : CE)
  | cmp (o : Cm) (a b : CE) | chain (o o' : Cm) (a b c : CE)
  | and (a b : CE) | or (a b : CE) | ite (c a b : CE)
  | tup (es : CEs) | lst (es : CEs)
  | idx (a i : CE) | sli (a : CE) (lo hi : CEs) | rev (a : CE) | stp (a s : CE) | los (tp : Bool) (a : CE) | mm (mx : Bool) (a d : CE) | srt (rv : Bool) (f : Str) (a : CE) | sri (k : Nat) (a : CE) | vals (a : CE)
  | call (f : Str) (es : CEs) | bi (b : BI) (es : CEs) | mt (m : MT) (o : CE) (es : CEs) | isi (a : CE) (t : Ty)
  | comp (t : Tgt) (s : Src) (c : CEs) (e : CE) (own : List Nat)
  | dic0 | dit0 | dic1 (k v : CE) | dit1 (k v : CE)
  | att (c : Str) (a : CE) (f : Str) | mcall (c m q : Str) (o : CE) (es : CEs) | make (c q : Str) (es : CEs) | dicS (ks : List Str) (es : CEs) | isx (cs : List Str)
  | bad
inductive CEs where
  | nil | cons (e : CE) (es : CEs)
inductive Src where
  | ex (e : CE) | rng (es : CEs) | enm (e : CE) | zp (es : CEs) | rv (e : CE) | dk (e : CE)
end
mutual
inductive CS where
  | asg (t : Tgt) (e : CE) | aug (i : Nat) (o : Op) (e : CE) | put (o i e : CE)
  | expr (e : CE) | ret (e : CE) | retN
  | ite (c : CE) (a b : CSs) | for (t : Tgt) (s : Src) (b : CSs) | while (c : CE) (b : CSs)
  | sat (c : Str) (o : CE) (f : Str) (e : CE) | ataug (c : Str) (o : CE) (f : Str) (e : CE) | raise (c : Str) | asgX (t : Tgt) (e : CE) | exprX (e : CE) | retX (e : CE) | tryx (b : CSs) (x : Str) (cs : List Str) (h : CSs) | tryas (b : CSs) (x : Str) (cs : List Str) (i : Nat) (h : CSs)
  | brk | cont | pass | bad
inductive CSs where
  | nil | cons (s : CS) (ss : CSs)
end

/-! ### small pieces -/
def mat : RV → Sto → D × Sto
  | .val d, st => (d, st)
  | .tmp xs, st => (.ref st.length, st ++ [.lst xs])
def seqOf (st : Sto) : RV → Option (List D)
  | .tmp xs => some xs
  | .val (.tup xs) => some xs
  | .val (.rol xs) => some xs
  | .val (.ref n) => match st[n]? with
    | some (.lst xs) => some xs
    | _ => none
  | _ => none
def szOk (n : Nat) : Bool := decide (n ≤ 16777216)
def truth (st : Sto) : RV → Option Bool
  | .tmp xs => some (!xs.isEmpty)
  | .val .non => some false
  | .val (.bl b) => some b
  | .val (.int i) => some (i != 0)
  | .val (.str s) => if szOk s.length then some (s.length != 0) else none
  | .val (.tup xs) => some (!xs.isEmpty)
  | .val (.rol xs) => some (!xs.isEmpty)
  | .val (.ref n) => match st[n]? with
    | some (.lst xs) => some (!xs.isEmpty)
    | some (.dic false kvs) => some (!kvs.isEmpty)
    | _ => none
def mapO {α β : Type} (f : α → Option β) : List α → Option (List β)
  | [] => some []
  | x :: xs => match f x with
    | some y => match mapO f xs with
      | some ys => some (y :: ys)
      | none => none
    | none => none
/-- a value as data of the model, what is held by handles read out (to a depth) -/
def toPy (st : Sto) : Nat → D → Option PyData
  | 0, d => match d with
    | .non => some .none
    | .bl b => some (.bool b)
    | .int i => some (.int i)
    | .str s => if s.cps.all (· < 0x110000) then some (.str s) else none
    | _ => none
  | k + 1, d => match d with
    | .non => some .none
    | .bl b => some (.bool b)
    | .int i => some (.int i)
    | .str s => if s.cps.all (· < 0x110000) then some (.str s) else none
    | .tup xs => (mapO (toPy st k) xs).map .tuple
    | .rol xs => (mapO (toPy st k) xs).map .list
    | .ref n => match st[n]? with
      | some (.lst xs) => (mapO (toPy st k) xs).map .list
      | _ => none
def rvPy (st : Sto) : RV → Option PyData
  | .val d => toPy st 60 d
  | .tmp xs => (mapO (toPy st 59) xs).map .list
def pyEqD (st : Sto) (x y : RV) : Option Bool := match rvPy st x, rvPy st y with
  | some p, some q => some (PyData.eqv p q)
  | _, _ => none
/-- a list's items (no tuple's) -/
def listOf (st : Sto) : RV → Option (List D)
  | .tmp xs => some xs
  | .val (.rol xs) => some xs
  | .val (.ref n) => match st[n]? with
    | some (.lst xs) => some xs
    | _ => none
  | _ => none
/-- rows of unlike lengths are not alike, whatever stands in them -/
def lenEq (st : Sto) (x y : RV) : Option Bool := match x, y with
  | .val (.tup xs), .val (.tup ys) => if (xs.isEmpty != ys.isEmpty) = true then some false else none
  | x, y => match listOf st x, listOf st y with
    | some xs, some ys => if decide (xs.length ≠ ys.length) = true then some false else none
    | _, _ => none
def orE {α : Type} (a b : Option α) : Option α := match a with
  | some x => some x
  | none => b
def pyEq (st : Sto) (x y : RV) : Option Bool := orE (pyEqD st x y) (lenEq st x y)
/-- a list's items that can be changed -/
def mutOf (st : Sto) : RV → Option (List D)
  | .tmp xs => some xs
  | .val (.ref n) => match st[n]? with
    | some (.lst xs) => some xs
    | _ => none
  | _ => none
def i62 : Int → Bool
  | .ofNat n => Nat.blt n 4611686018427387904
  | .negSucc n => Nat.blt n 4611686018427387904
theorem i62_iff {j : Int} : i62 j = true ↔ -(2 ^ 62) ≤ j ∧ j < 2 ^ 62 := by
  cases j with
  | ofNat n => simp only [i62, Nat.blt_eq, Int.ofNat_eq_natCast]; omega
  | negSucc n => simp only [i62, Nat.blt_eq]; omega
def mulOk (i j : Int) : Bool := decide ((-(2 ^ 64) < i ∧ i < 2 ^ 64) ∨ (-(2 ^ 64) < j ∧ j < 2 ^ 64))
def powOk (i j : Int) : Bool := decide (0 ≤ j ∧ j ≤ 1000000 ∧ i.natAbs < 2 ^ 64)
def intOp : Op → Int → Int → Option Int
  | .add, i, j => some (i + j)
  | .sub, i, j => some (i - j)
  | .mul, i, j => if mulOk i j then some (i * j) else none
  | .fdiv, i, j => if decide (0 < j ∧ j < 1000000000000000000000000000000) then some (i / j) else none
  | .mod, i, j => if decide (0 < j) then some (i % j) else none
  | .pow, i, j => if powOk i j then some (i ^ j.toNat) else none
  | .shl, i, j => if powOk i j then some (i * 2 ^ j.toNat) else none
  | .shr, i, j => if decide (0 ≤ j) then some (i / 2 ^ j.toNat) else none
  | .band, i, j => some (Builtin.bitAnd i j)
  | .bor, i, j => some (Builtin.bitOr i j)
def repD (xs : List D) (k : Int) : List D := (List.replicate k.toNat xs).flatten
def int2 (o : Op) (x y : RV) : Option RV := match x, y with
  | .val (.int i), .val (.int j) => (intOp o i j).map fun k => .val (.int k)
  | _, _ => none
def subApp (x y : RV) : Option RV := match x, y with
  | .val (.bl i), .val (.int j) => some (.val (.int ((if i = true then 1 else 0) - j)))
  | .val (.int i), .val (.bl j) => some (.val (.int (i - (if j = true then 1 else 0))))
  | x, y => int2 .sub x y
def addL (st : Sto) (x y : RV) : Option RV := match listOf st x, listOf st y with
  | some a, some b => if szOk (a.length + b.length) then some (.tmp (a ++ b)) else none
  | _, _ => none
def addApp (st : Sto) (x y : RV) : Option RV := match x, y with
  | .val (.int i), .val (.int j) => some (.val (.int (i + j)))
  | .val (.bl i), .val (.int j) => some (.val (.int ((if i = true then 1 else 0) + j)))
  | .val (.str a), .val (.str b) => if szOk (a.length + b.length) then some (.val (.str (a ++ b))) else none
  | .val (.tup a), .val (.tup b) => if szOk (a.length + b.length) then some (.val (.tup (a ++ b))) else none
  | x, y => addL st x y
def mulApp (st : Sto) (x y : RV) : Option RV := match x, y with
  | .val (.int i), .val (.int j) => if mulOk i j then some (.val (.int (i * j))) else none
  | .val (.tup a), .val (.int k) => if decide (a ≠ [] ∧ 2 ≤ k ∧ k ≤ 1000 ∧ a.length ≤ 1000) then some (.val (.tup (repD a k))) else none
  | x, .val (.int k) => match mutOf st x with
    | some a => if decide (-(2 ^ 62) ≤ k ∧ k < 2 ^ 62) && szOk (a.length * k.toNat) then some (.tmp (repD a k)) else none
    | none => none
  | _, _ => none
def binApp (st : Sto) (o : Op) (x y : RV) : Option RV := match o, x, y with
  | .add, x, y => addApp st x y
  | .mul, x, y => mulApp st x y
  | .sub, x, y => subApp x y
  | o, x, y => int2 o x y
def keyOk : D → Bool
  | .int _ => true
  | .str _ => true
  | _ => false
/-- a row of whole numbers, as a key -/
def tkOk : D → Bool
  | .tup xs => xs.all fun x => match x with
    | .int _ => true
    | _ => false
  | _ => false
def dicGet (k : D) : List (D × D) → Option D
  | [] => none
  | (a, v) :: r => if a = k then some v else dicGet k r
/-- in its place, or at the end -/
def dicPut (k v : D) (kvs : List (D × D)) : List (D × D) :=
  if (kvs.any fun p => decide (p.1 = k)) = true then kvs.map (fun p => if p.1 = k then (p.1, v) else p) else kvs ++ [(k, v)]
def inApp (st : Sto) (x y : RV) : Option Bool := match y with
  | .val (.str b) => match x with
    | .val (.str a) => some (!(Builtin.Str.occurrences b a 0 b.length 1).isEmpty)
    | _ => none
  | .val (.ref n) => match st[n]? with
    | some (.dic _ kvs) => match x with
      | .val k => if keyOk k then some (dicGet k kvs).isSome else none
      | _ => none
    | some (.dit _ kvs) => match x with
      | .val k => if tkOk k then some (dicGet k kvs).isSome else none
      | _ => none
    | some (.lst xs) => match rvPy st x, mapO (toPy st 59) xs with
      | some p, some qs => some (qs.any fun q => PyData.eqv q p)
      | _, _ => none
    | _ => none
  | .val (.rol xs) => match rvPy st x, mapO (toPy st 59) xs with
    | some p, some qs => some (qs.any fun q => PyData.eqv q p)
    | _, _ => none
  | .val (.tup xs) => match rvPy st x, mapO (toPy st 59) xs with
    | some p, some qs => some (qs.any fun q => PyData.eqv q p)
    | _, _ => none
  | .tmp xs => match rvPy st x, mapO (toPy st 59) xs with
    | some p, some qs => some (qs.any fun q => PyData.eqv q p)
    | _, _ => none
  | _ => none
def intsOf : List D → Option (List Int) := mapO fun
  | .int i => some i
  | _ => none
def blsOf : List D → Option (List Bool) := mapO fun
  | .bl b => some b
  | _ => none
def strsOf : List D → Option (List Str) := mapO fun
  | .str s => some s
  | _ => none
def isNon : RV → Bool
  | .val .non => true
  | _ => false
def cmpApp (st : Sto) (o : Cm) (x y : RV) : Option Bool := match o with
  | .eq => pyEq st x y
  | .ne => (pyEq st x y).map (!·)
  | .lt => match x, y with
    | .val (.int a), .val (.int b) => some (decide (a < b))
    | .val (.str a), .val (.str b) => some (decide (a.cps.toList < b.cps.toList))
    | .val (.tup a), .val (.tup b) => match intsOf a, intsOf b with
      | some ns, some ms => some (HT.lexLt ns ms)
      | _, _ => none
    | _, _ => none
  | .gt => match x, y with
    | .val (.int a), .val (.int b) => some (decide (b < a))
    | .val (.str a), .val (.str b) => some (decide (b.cps.toList < a.cps.toList))
    | _, _ => none
  | .le => match x, y with
    | .val (.int a), .val (.int b) => some (decide (a ≤ b))
    | .val (.str a), .val (.str b) => some (!decide (b.cps.toList < a.cps.toList))
    | _, _ => none
  | .ge => match x, y with
    | .val (.int a), .val (.int b) => some (decide (b ≤ a))
    | .val (.str a), .val (.str b) => some (!decide (a.cps.toList < b.cps.toList))
    | _, _ => none
  | .isin => inApp st x y
  | .notin => (inApp st x y).map (!·)
  | .isN => match y with
    | .val (.bl b) => match x with
      | .val (.bl a) => some (decide (a = b))
      | _ => none
    | y => if isNon y then some (isNon x) else none
  | .notN => match y with
    | .val (.bl b) => match x with
      | .val (.bl a) => some (!decide (a = b))
      | _ => none
    | y => if isNon y then some (!isNon x) else none
def idxApp (st : Sto) (x y : RV) : Option RV := match y with
  | .val (.int i) => match x with
    | .val (.str s) => if szOk s.length then (L2.atI s.cps.toList i).map fun c => .val (.str ⟨#[c]⟩) else none
    | .val (.ref n) => match st[n]? with
      | some (.lst xs) => (L2.atI xs i).map .val
      | some (.dic _ kvs) => (dicGet (.int i) kvs).map .val
      | _ => none
    | .val (.tup xs) => (L2.atI xs i).map .val
    | .val (.rol xs) => (L2.atI xs i).map .val
    | .tmp xs => (L2.atI xs i).map .val
    | _ => none
  | .val k => match x with
    | .val (.ref n) => match st[n]? with
      | some (.dic _ kvs) => if keyOk k then (dicGet k kvs).map .val else none
      | some (.dit _ kvs) => if tkOk k then (dicGet k kvs).map .val else none
      | _ => none
    | _ => none
  | _ => none
def cutD {α : Type} (xs : List α) (lo hi : Option Int) : List α := (xs.drop (HT.sIx xs.length 0 lo)).take (HT.sIx xs.length xs.length hi - HT.sIx xs.length 0 lo)
def sliApp (st : Sto) (x : RV) (lo hi : Option Int) : Option RV := match x with
  | .val (.tup xs) => some (.val (.tup (cutD xs lo hi)))
  | .val (.str s) => if szOk s.length then some (.val (.str (L2.cutS s lo hi))) else none
  | x => (listOf st x).map fun xs => .tmp (cutD xs lo hi)
def revApp (st : Sto) (x : RV) : Option RV := match x with
  | .val (.tup xs) => some (.val (.tup xs.reverse))
  | x => (listOf st x).map fun xs => .tmp xs.reverse
/-- xs[::s] of a list, s 1 or -1 -/
def stpApp (st : Sto) (x y : RV) : Option RV := match y with
  | .val (.int i) => if i = 1 then (listOf st x).map fun xs => .tmp xs else if i = -1 then (listOf st x).map fun xs => .tmp xs.reverse else none
  | _ => none
/-- a value as data, to be ordered -/
def pyD (st : Sto) (d : D) : PyData := (toPy st 58 d).getD .none
def alikeD (ds : List PyData) : Bool := ds.all fun d => ds.all fun e => PySem.W.alike d e
def tupC : PyData → Bool
  | .tuple (_ :: _) => true
  | _ => false
def notNT : PyData → Bool
  | .none => false
  | .tuple _ => false
  | _ => true
def sortD (st : Sto) (xs : List D) : Option (List D) := match mapO (toPy st 58) xs with
  | some ds => if alikeD ds && ((ds.all tupC || ds.all notNT) && szOk xs.length) then some (xs.mergeSort (PySem.W.dataLe false (pyD st))) else none
  | none => none
/-- each number once -/
def nubI : List Int → List Int
  | [] => []
  | x :: xs => x :: (nubI xs).filter fun y => decide (y ≠ x)
/-- each number once, in order -/
def sortI (is : List Int) : List Int := (nubI is).mergeSort fun a b => decide (a ≤ b)
def minI : List Int → Option Int
  | [] => none
  | x :: xs => some (xs.foldl (fun m y => if y < m then y else m) x)
def maxI : List Int → Option Int
  | [] => none
  | x :: xs => some (xs.foldl (fun m y => if y > m then y else m) x)
/-- min(xs, default=d), max(xs, default=d) -/
def mmApp (mx : Bool) (st : Sto) (x y : RV) : Option RV := match y with
  | .val d => (listOf st x).bind fun xs => (intsOf xs).bind fun ns => some (match (if mx then maxI ns else minI ns) with
    | some i => .val (.int i)
    | none => .val d)
  | _ => none
def strInt (i : Int) : Option Str := if i.natAbs.log2 < 1920 then some (toString i : String) else none
def biLen (st : Sto) : List RV → Option RV
  | [x] => match x with
    | .val (.str s) => if szOk s.length then some (.val (.int s.length)) else none
    | .val (.ref n) => match st[n]? with
      | some (.lst xs) => some (.val (.int xs.length))
      | some (.dic false kvs) => some (.val (.int kvs.length))
      | some (.dit false kvs) => some (.val (.int kvs.length))
      | _ => none
    | .val (.tup xs) => some (.val (.int xs.length))
    | .val (.rol xs) => some (.val (.int xs.length))
    | .tmp xs => some (.val (.int xs.length))
    | _ => none
  | _ => none
def biInt : List RV → Option RV
  | [.val (.int i)] => some (.val (.int i))
  | [.val (.bl b)] => some (.val (.int (if b then 1 else 0)))
  | [.val (.str s)] => if decide (s.length ≤ 640) then (PySem.intText? s).map fun n => .val (.int n) else none
  | _ => none
def biStr : List RV → Option RV
  | [.val (.int i)] => (strInt i).map fun s => .val (.str s)
  | [.val (.str s)] => some (.val (.str s))
  | [.val (.bl b)] => some (.val (.str (if b = true then "True" else "False")))
  | [.val .non] => some (.val (.str "None"))
  | _ => none
def biRepr (st : Sto) : List RV → Option RV
  | [x] => match rvPy st x with
    | some p => if p.showable && decide (p.shown.length ≤ 16777216) then some (.val (.str p.shown)) else none
    | none => none
  | _ => none
def biBool : List RV → Option RV
  | [.val (.int i)] => some (.val (.bl (i != 0)))
  | [.val (.bl b)] => some (.val (.bl b))
  | _ => none
def biTuple (st : Sto) : List RV → Option RV
  | [x] => (seqOf st x).map fun xs => .val (.tup xs)
  | _ => none
def biList (st : Sto) : List RV → Option RV
  | [x] => (seqOf st x).map fun xs => .tmp xs
  | _ => none
mutual
/-- no handle and no locked list within -/
def plnD : D → Bool
  | .ref _ => false
  | .rol _ => false
  | .tup xs => plnL xs
  | _ => true
def plnL : List D → Bool
  | [] => true
  | x :: xs => plnD x && plnL xs
end
def dLt (st : Sto) (a b : D) : Bool := PySem.W.dataLt (pyD st a) (pyD st b)
def notNn : PyData → Bool
  | .none => false
  | _ => true
/-- the first of the least, of the greatest, of data -/
def mmD (mx : Bool) (st : Sto) (xs : List D) : Option D := match mapO (toPy st 58) xs with
  | some ds => if alikeD ds && (ds.all notNn && plnL xs) then match xs with
      | [] => none
      | y :: ys => some (ys.foldl (fun a z => if (if mx then dLt st a z else dLt st z a) then z else a) y)
    else none
  | none => none
def biMaxI (st : Sto) : List RV → Option RV
  | [.val (.int i), .val (.int j)] => some (.val (.int (if j > i then j else i)))
  | [x] => (listOf st x).bind fun xs => (intsOf xs).bind fun ns => (maxI ns).map fun i => .val (.int i)
  | _ => none
def biMinI (st : Sto) : List RV → Option RV
  | [.val (.int i), .val (.int j)] => some (.val (.int (if j < i then j else i)))
  | [x] => (listOf st x).bind fun xs => (intsOf xs).bind fun ns => (minI ns).map fun i => .val (.int i)
  | _ => none
def biMmD (mx : Bool) (st : Sto) : List RV → Option RV
  | [x] => (seqOf st x).bind fun xs => (mmD mx st xs).map .val
  | _ => none
def biMax (st : Sto) (rs : List RV) : Option RV := orE (biMaxI st rs) (biMmD true st rs)
def biMin (st : Sto) (rs : List RV) : Option RV := orE (biMinI st rs) (biMmD false st rs)
def biSum (st : Sto) : List RV → Option RV
  | [x] => (seqOf st x).bind fun xs => (intsOf xs).map fun is => .val (.int is.sum)
  | _ => none
def biAny (st : Sto) : List RV → Option RV
  | [x] => (listOf st x).bind fun xs => (blsOf xs).map fun bs => .val (.bl (bs.any id))
  | _ => none
def biAll (st : Sto) : List RV → Option RV
  | [x] => (listOf st x).bind fun xs => (blsOf xs).map fun bs => .val (.bl (bs.all id))
  | _ => none
def biSortL (st : Sto) : List RV → Option RV
  | [x] => (listOf st x).bind fun xs => (sortD st xs).map .tmp
  | _ => none
/-- sorted(d), d a dict of whole numbers -/
def biSortDI (st : Sto) : List RV → Option RV
  | [.val (.ref n)] => match st[n]? with
    | some (.dic _ kvs) => (intsOf (kvs.map (·.1))).bind fun is => if decide (is.length < 64) = true then some (.tmp ((is.mergeSort fun a b => decide (a ≤ b)).map .int)) else none
    | _ => none
  | _ => none
def biSorted (st : Sto) (rs : List RV) : Option RV := orE (biSortL st rs) (biSortDI st rs)
def biSetI (st : Sto) : List RV → Option RV
  | [x] => (listOf st x).bind fun xs => (intsOf xs).bind fun is => if decide (is.length ≤ 4000) && decide ((nubI is).length < 64) then some (.tmp ((sortI is).map .int)) else none
  | _ => none
/-- rows of whole numbers -/
def rowsOf : List D → Option (List (List Int)) := mapO fun
  | .tup ys => intsOf ys
  | _ => none
def lexB : List Int → List Int → Bool
  | [], _ => true
  | _ :: _, [] => false
  | x :: xs, y :: ys => decide (x < y) || (decide (x = y) && lexB xs ys)
def nubT : List (List Int) → List (List Int)
  | [] => []
  | x :: xs => x :: (nubT xs).filter fun y => decide (y ≠ x)
/-- each row once, in order -/
def sortT (rs : List (List Int)) : List (List Int) := (nubT rs).mergeSort lexB
def biSetT (st : Sto) : List RV → Option RV
  | [x] => (listOf st x).bind fun xs => (rowsOf xs).bind fun rs => match rs with
    | [] => none
    | r0 :: _ => if decide (1 ≤ r0.length) && (decide (rs.length < 64) && rs.all fun r => decide (r.length = r0.length) && r.all fun i => decide (0 ≤ i)) then some (.tmp ((sortT rs).map fun r => .tup (r.map .int))) else none
  | _ => none
def biSet (st : Sto) (rs : List RV) : Option RV := orE (biSetI st rs) (biSetT st rs)
def biAbs : List RV → Option RV
  | [.val (.int i)] => some (.val (.int (if i < 0 then -i else i)))
  | _ => none
/-- list(reversed(t)), t a tuple -/
def biRevl : List RV → Option RV
  | [.val (.tup xs)] => some (.tmp xs.reverse)
  | _ => none
def biApp (st : Sto) (b : BI) (rs : List RV) : Option RV := match b with
  | .len => biLen st rs | .int => biInt rs | .str => biStr rs | .repr => biRepr st rs | .bool => biBool rs | .tuple => biTuple st rs | .list => biList st rs
  | .max => biMax st rs | .min => biMin st rs | .sum => biSum st rs | .any => biAny st rs | .all => biAll st rs | .sorted => biSorted st rs | .set => biSet st rs | .abs => biAbs rs | .revl => biRevl rs
def isTy (st : Sto) (t : Ty) : RV → Option Bool
  | .tmp _ => some (t == .list)
  | .val (.ref n) => match st[n]? with
    | some (.lst _) => some (t == .list)
    | some (.dic _ _) => some (t == .dict)
    | some (.dit false _) => some (t == .dict)
    | _ => none
  | .val .non => some false
  | .val (.bl _) => some (t == .bool || t == .int)
  | .val (.int _) => some (t == .int)
  | .val (.str _) => some (t == .str)
  | .val (.tup _) => some (t == .tuple)
  | .val (.rol _) => some (t == .list)
/-- what kind of thing a method is asked of -/
inductive Kd where
  | lst | dic | str | tup | oth
  deriving DecidableEq
def kdOf (st : Sto) : RV → Kd
  | .tmp _ => .lst
  | .val (.rol _) => .lst
  | .val (.str _) => .str
  | .val (.tup _) => .tup
  | .val (.ref n) => match st[n]? with
    | some (.lst _) => .lst
    | some (.dic _ _) => .dic
    | some (.dit _ _) => .dic
    | _ => .oth
  | _ => .oth
/-! what a method does: the answer, the store behind it -/
def mtAppend (st : Sto) (o : RV) (rs : List RV) : Option (RV × Sto) := match o, rs with
  | .val (.ref n), [r] => match st[n]? with
    | some (.lst xs) => if decide (xs.length < 16777216) then some (.val .non, (mat r st).2.set n (.lst (xs ++ [(mat r st).1]))) else none
    | _ => none
  | _, _ => none
def mtExtend (st : Sto) (o : RV) (rs : List RV) : Option (RV × Sto) := match o, rs with
  | .val (.ref n), [r] => match st[n]? with
    | some (.lst xs) => match mutOf st r with
      | some zs => if szOk (xs.length + zs.length) then some (.val .non, st.set n (.lst (xs ++ zs))) else none
      | none => none
    | _ => none
  | _, _ => none
def mtInsert (st : Sto) (o : RV) (rs : List RV) : Option (RV × Sto) := match o, rs with
  | .val (.ref n), [.val (.int i), r] => match st[n]? with
    | some (.lst xs) => if decide (0 ≤ i ∧ i ≤ xs.length ∧ xs.length < 16777216) then some (.val .non, (mat r st).2.set n (.lst (xs.take i.toNat ++ [(mat r st).1] ++ xs.drop i.toNat))) else none
    | _ => none
  | _, _ => none
def mtPop (st : Sto) (o : RV) (rs : List RV) : Option (RV × Sto) := match o, rs with
  | .val (.ref n), [] => match st[n]? with
    | some (.lst xs) => match xs[xs.length - 1]? with
      | some y => some (.val y, st.set n (.lst xs.dropLast))
      | none => none
    | _ => none
  | .val (.ref n), [.val (.int i)] => match st[n]? with
    | some (.lst xs) => match seqIndex? i xs.length with
      | some k => match xs[k]? with
        | some y => if i62 i then some (.val y, st.set n (.lst (xs.eraseIdx k))) else none
        | none => none
      | none => none
    | _ => none
  | _, _ => none
def mtIndex (st : Sto) (o : RV) (rs : List RV) : Option (RV × Sto) := match rs with
  | [r] => match listOf st o with
    | some xs => match rvPy st r, mapO (toPy st 59) xs with
      | some p, some qs => (qs.findIdx? fun q => PyData.eqv q p).map fun (j : Nat) => (.val (.int (j : Int)), st)
      | _, _ => none
    | none => none
  | _ => none
/-- t.index(x), t a tuple -/
def mtTindex (st : Sto) (o : RV) (rs : List RV) : Option (RV × Sto) := match o, rs with
  | .val (.tup xs), [r] => match rvPy st r, mapO (toPy st 59) xs with
    | some p, some qs => (qs.findIdx? fun q => PyData.eqv q p).map fun (j : Nat) => (.val (.int (j : Int)), st)
    | _, _ => none
  | _, _ => none
def mtGet (st : Sto) (o : RV) (rs : List RV) : Option (RV × Sto) := match o, rs with
  | .val (.ref n), [.val k] => match st[n]? with
    | some (.dic _ kvs) => if keyOk k then some (.val ((dicGet k kvs).getD .non), st) else none
    | some (.dit _ kvs) => if tkOk k then some (.val ((dicGet k kvs).getD .non), st) else none
    | _ => none
  | .val (.ref n), [.val k, r] => match st[n]? with
    | some (.dic _ kvs) => if keyOk k then match dicGet k kvs with
        | some w => some (.val w, st)
        | none => some (r, st)
      else none
    | some (.dit _ kvs) => if tkOk k then match dicGet k kvs with
        | some w => some (.val w, st)
        | none => some (r, st)
      else none
    | _ => none
  | _, _ => none
def mtSetdefault (_ : Sto) (_ : RV) (_ : List RV) : Option (RV × Sto) := none
def mtValues (_ : Sto) (_ : RV) (_ : List RV) : Option (RV × Sto) := none
def mtJoin (st : Sto) (o : RV) (rs : List RV) : Option (RV × Sto) := match o, rs with
  | .val (.str s), [r] => match seqOf st r with
    | some xs => match strsOf xs with
      | some ys => if decide ((ys.map (·.length)).sum + ys.length * s.length ≤ 16777216) then some (.val (.str (Txt.join s ys)), st) else none
      | none => none
    | none => none
  | _, _ => none
def mtSplit (st : Sto) (o : RV) (rs : List RV) : Option (RV × Sto) := match o, rs with
  | .val (.str s), [.val (.str b)] => if (b.length == 0) = false ∧ szOk (s.length + 2) = true then some (.tmp ((Txt.split s b).map .str), st) else none
  | _, _ => none
def mtUpper (st : Sto) (o : RV) (rs : List RV) : Option (RV × Sto) := match o, rs with
  | .val (.str s), [] => if decide (s.length ≤ 5592405) then some (.val (.str (Txt.upper s)), st) else none
  | _, _ => none
def mtApp (st : Sto) (m : MT) (o : RV) (rs : List RV) : Option (RV × Sto) := match m with
  | .append => mtAppend st o rs | .extend => mtExtend st o rs | .insert => mtInsert st o rs | .pop => mtPop st o rs | .index => mtIndex st o rs
  | .get => mtGet st o rs | .setdefault => mtSetdefault st o rs | .values => mtValues st o rs
  | .join => mtJoin st o rs | .split => mtSplit st o rs | .upper => mtUpper st o rs
  | .remove => none | .count => none | .replace => none | .tindex => mtTindex st o rs
def putApp (st : Sto) (o i : RV) (v : D) : Option Sto := match o with
  | .val (.ref n) => match st[n]? with
    | some (.lst xs) => match i with
      | .val (.int k) => (L2.ixN xs.length k).map fun j => st.set n (.lst (xs.set j v))
      | _ => none
    | some (.dic lk kvs) => match lk, i with
      | false, .val k => if keyOk k && decide (kvs.length < 16777216) then some (st.set n (.dic false (dicPut k v kvs))) else none
      | _, _ => none
    | some (.dit lk kvs) => match lk, i with
      | false, .val k => if tkOk k && decide (kvs.length < 16777216) then some (st.set n (.dit false (dicPut k v kvs))) else none
      | _, _ => none
    | _ => none
  | _ => none

/-! instances -/
def insAt (st : Sto) (c : Str) (x : RV) : Option (Nat × List (Str × D)) := match x with
  | .val (.ref n) => match st[n]? with
    | some (.ins c' fs) => if c' = c then some (n, fs) else none
    | _ => none
  | _ => none
def attApp (st : Sto) (c : Str) (x : RV) (f : Str) : Option D := match insAt st c x with
  | some (_, fs) => fs.lookup f
  | none => none
/-- an instance of the class c that has no attribute m of its own -/
def insOf (st : Sto) (c m : Str) (x : RV) : Option Nat := match insAt st c x with
  | some (n, fs) => if fs.lookup m = none then some n else none
  | none => none
def putFD (f : Str) (d : D) : List (Str × D) → List (Str × D)
  | [] => [(f, d)]
  | (g, e) :: r => if g = f then (g, d) :: r else (g, e) :: putFD f d r
def satApp (st : Sto) (c : Str) (x : RV) (f : Str) (d : D) : Option Sto := match insAt st c x with
  | some (n, fs) => if fs.length < 1000 then some (st.set n (.ins c (putFD f d fs))) else none
  | none => none
/-- the name under which a def's raising is told -/
def bang (f : Str) : Str := "!" ++ f
def unb (f : Str) : Option Str := match f.cps.toList with
  | 33 :: r => some ⟨r.toArray⟩
  | _ => none
/-! ### targets, sources, loops -/
mutual
def setT : Tgt → D → Env → Option Env
  | .nm i, d, σ => some (σ.set i (some d))
  | .tp ts, d, σ => match d with
    | .tup xs => setTs ts xs σ
    | _ => none
def setTs : Tgts → List D → Env → Option Env
  | .nil, ds, σ => match ds with
    | [] => some σ
    | _ => none
  | .cons t ts, ds, σ => match ds with
    | d :: r => match setT t d σ with
      | some σ' => setTs ts r σ'
      | none => none
    | [] => none
end
/-- what is walked: the items, and lists that must stay meanwhile; big: its length is told by nothing -/
structure SV where
  xs : List D
  ws : List (Nat × O) := []
  big : Bool := false
def chk (ws : List (Nat × O)) (st : Sto) : Bool := ws.all fun w => decide (st[w.1]? = some w.2)
def srcSeq (st : Sto) : RV → Option SV
  | .tmp xs => some ⟨xs, [], false⟩
  | .val (.tup xs) => some ⟨xs, [], false⟩
  | .val (.rol xs) => some ⟨xs, [], false⟩
  | .val (.ref n) => match st[n]? with
    | some (.lst xs) => some ⟨xs, [(n, .lst xs)], false⟩
    | _ => none
  | _ => none
def srcOf (st : Sto) (r : RV) : Option SV := match r with
  | .val (.str s) => some ⟨s.cps.toList.map fun c => .str ⟨#[c]⟩, [], true⟩
  | r => srcSeq st r
/-- the keys of a dict, which is written no more from now on -/
def dkOf (st : Sto) : RV → Option (SV × Sto)
  | .val (.ref n) => match st[n]? with
    | some (.dic _ kvs) => some (⟨kvs.map (·.1), [], false⟩, st.set n (.dic true kvs))
    | some (.dit _ kvs) => some (⟨kvs.map (·.1), [], false⟩, st.set n (.dit true kvs))
    | _ => none
  | _ => none
def rangeD (lo : Int) (n : Nat) : List D := (List.range n).map fun (i : Nat) => .int (lo + (i : Int))
def rngOf (rs : List RV) : Option SV := match rs with
  | [.val (.int j)] => if i62 j then some ⟨rangeD 0 j.toNat, [], true⟩ else none
  | [.val (.int i), .val (.int j)] => if i62 i && i62 j then some ⟨rangeD i (j - i).toNat, [], true⟩ else none
  | [.val (.int i), .val (.int j), .val (.int (-1))] => if i62 i && i62 j then some ⟨(List.range (i - j).toNat).map fun (k : Nat) => .int (i - (k : Int)), [], true⟩ else none
  | _ => none
/-- list(range(..)), tuple(range(..)) -/
def losOf (tp : Bool) (r : RV) : Option RV := match rngOf [r] with
  | some v => if szOk v.xs.length then some (if tp then .val (.tup v.xs) else .tmp v.xs) else none
  | none => none
def enmD (k : Nat) : List D → List D
  | [] => []
  | x :: xs => .tup [.int k, x] :: enmD (k + 1) xs
def zpOf (st : Sto) (rs : List RV) : Option SV := match rs with
  | [a, b] => match srcSeq st a, srcSeq st b with
    | some p, some q => some ⟨List.zipWith (fun x y => .tup [x, y]) p.xs q.xs, p.ws ++ q.ws, false⟩
    | _, _ => none
  | [a, b, c] => match srcSeq st a, srcSeq st b, srcSeq st c with
    | some p, some q, some r => some ⟨List.zipWith (fun x (y : D × D) => .tup [x, y.1, y.2]) p.xs (q.xs.zip r.xs), p.ws ++ q.ws ++ r.ws, false⟩
    | _, _, _ => none
  | _ => none

inductive Fl where
  | nx | rt (d : D) | bk | ct | ex (c : Str)
  deriving Inhabited
abbrev Call := Str → List D → Sto → Option (D × Sto)
/-- in an except suite: the class that is held -/
def exC (C : Call) (c : Str) : Call := fun q ds st => if q = "?ex" then some (.str c, st) else C q ds st
/-- the keys that a def gives, the store as it is -/
def keysC (C : Call) (st : Sto) (f : Str) : List D → Option (List Int)
  | [] => some []
  | d :: ds => match C f [d] st with
    | some (.int k, st') => if st' = st then (keysC C st f ds).map (k :: ·) else none
    | _ => none
def srtD (rv : Bool) (ps : List (D × Int)) : List D := (ps.mergeSort fun x y => if rv then decide (y.2 ≤ x.2) else decide (x.2 ≤ y.2)).map (·.1)
/-- sorted(xs, key=f, reverse=rv) -/
def srtApp (C : Call) (st : Sto) (rv : Bool) (f : Str) (x : RV) : Option RV := match srcSeq st x with
  | some v => match keysC C st f v.xs with
    | some ks => if szOk v.xs.length then some (.tmp (srtD rv (v.xs.zip ks))) else none
    | none => none
  | none => none
/-- the items' k-th parts -/
def keysI (k : Nat) : List D → Option (List Int)
  | [] => some []
  | d :: ds => match d with
    | .tup xs => match xs[k]? with
      | some (.int i) => (keysI k ds).map (i :: ·)
      | _ => none
    | _ => none
/-- sorted(xs, key=lambda y: y[k]) -/
def sriApp (st : Sto) (k : Nat) (x : RV) : Option RV := match srcSeq st x with
  | some v => match keysI k v.xs with
    | some ks => if szOk v.xs.length then some (.tmp (srtD false (v.xs.zip ks))) else none
    | none => none
  | none => none
/-- list(d.values()), d a dict by rows -/
def valsApp (st : Sto) : RV → Option RV
  | .val (.ref n) => match st[n]? with
    | some (.dit false kvs) => some (.tmp (kvs.map (·.2)))
    | _ => none
  | _ => none
def wipeD (σ : Env) : List Nat → Env
  | [] => σ
  | v :: vs => (wipeD σ vs).set v none
/-- a comprehension's turns -/
def compL (ws : List (Nat × O)) (t : D → Option Env) (c : Env → Sto → Option (Bool × Sto)) (e : Env → Sto → Option (RV × Sto)) : List D → Sto → Option (List D × Sto)
  | [], st => if chk ws st then some ([], st) else none
  | x :: xs, st => if chk ws st then match t x with
      | none => none
      | some σ => match c σ st with
        | none => none
        | some (false, st) => compL ws t c e xs st
        | some (true, st) => match e σ st with
          | none => none
          | some (r, st) => match compL ws t c e xs (mat r st).2 with
            | none => none
            | some (ys, st') => some ((mat r st).1 :: ys, st')
    else none
def forL (ws : List (Nat × O)) (t : D → Env → Option Env) (b : Env → Sto → Option (Fl × Env × Sto)) : List D → Env → Sto → Option (Fl × Env × Sto)
  | [], σ, st => if chk ws st then some (.nx, σ, st) else none
  | x :: xs, σ, st => if chk ws st then match t x σ with
      | none => none
      | some σ => match b σ st with
        | some (.nx, σ, st) => forL ws t b xs σ st
        | some (.ct, σ, st) => forL ws t b xs σ st
        | some (.bk, σ, st) => some (.nx, σ, st)
        | r => r
    else none
def whileL (c : Env → Sto → Option (Bool × Sto)) (b : Env → Sto → Option (Fl × Env × Sto)) : Nat → Env → Sto → Option (Fl × Env × Sto)
  | 0, _, _ => none
  | n + 1, σ, st => match c σ st with
    | none => none
    | some (false, st) => some (.nx, σ, st)
    | some (true, st) => match b σ st with
      | some (.nx, σ, st) => whileL c b n σ st
      | some (.ct, σ, st) => whileL c b n σ st
      | some (.bk, σ, st) => some (.nx, σ, st)
      | r => r

/-! ### expressions -/
mutual
def ev (C : Call) : CE → Env → Sto → Option (RV × Sto)
  | .var i, σ, st => match σ[i]? with
    | some (some d) => some (.val d, st)
    | _ => none
  | .cst d, _, st => some (.val d, st)
  | .bin o a b, σ, st => match ev C a σ st with
    | none => none
    | some (x, st) => match ev C b σ st with
      | none => none
      | some (y, st) => (binApp st o x y).map fun r => (r, st)
  | .neg a, σ, st => match ev C a σ st with
    | some (.val (.int i), st) => some (.val (.int (-i)), st)
    | _ => none
  | .not a, σ, st => match ev C a σ st with
    | none => none
    | some (x, st) => (truth st x).map fun b => (.val (.bl (!b)), st)
  | .cmp o a b, σ, st => match ev C a σ st with
    | none => none
    | some (x, st) => match ev C b σ st with
      | none => none
      | some (y, st) => (cmpApp st o x y).map fun r => (.val (.bl r), st)
  | .chain o o' a b c, σ, st => match ev C a σ st with
    | none => none
    | some (x, st) => match ev C b σ st with
      | none => none
      | some (y, st) => match cmpApp st o x y with
        | none => none
        | some false => some (.val (.bl false), st)
        | some true => match ev C c σ st with
          | none => none
          | some (z, st) => (cmpApp st o' y z).map fun r => (.val (.bl r), st)
  | .and a b, σ, st => match ev C a σ st with
    | none => none
    | some (x, st) => match truth st x with
      | none => none
      | some false => some (x, st)
      | some true => ev C b σ st
  | .or a b, σ, st => match ev C a σ st with
    | none => none
    | some (x, st) => match truth st x with
      | none => none
      | some true => some (x, st)
      | some false => ev C b σ st
  | .ite c a b, σ, st => match ev C c σ st with
    | none => none
    | some (x, st) => match truth st x with
      | none => none
      | some true => ev C a σ st
      | some false => ev C b σ st
  | .tup es, σ, st => (evA C es σ st).map fun r => (.val (.tup r.1), r.2)
  | .lst es, σ, st => (evA C es σ st).map fun r => (.tmp r.1, r.2)
  | .idx a i, σ, st => match ev C a σ st with
    | none => none
    | some (x, st) => match ev C i σ st with
      | none => none
      | some (y, st) => (idxApp st x y).map fun r => (r, st)
  | .sli a lo hi, σ, st => match ev C a σ st with
    | none => none
    | some (x, st) => match evP C lo σ st with
      | none => none
      | some (l, st) => match evP C hi σ st with
        | none => none
        | some (h, st) => (sliApp st x l h).map fun r => (r, st)
  | .rev a, σ, st => match ev C a σ st with
    | none => none
    | some (x, st) => (revApp st x).map fun r => (r, st)
  | .stp a i, σ, st => match ev C a σ st with
    | none => none
    | some (x, st) => match ev C i σ st with
      | none => none
      | some (y, st) => (stpApp st x y).map fun r => (r, st)
  | .mm mx a d, σ, st => match ev C a σ st with
    | none => none
    | some (x, st) => match ev C d σ st with
      | none => none
      | some (y, st) => (mmApp mx st x y).map fun r => (r, st)
  | .srt rv f a, σ, st => match ev C a σ st with
    | none => none
    | some (x, st) => (srtApp C st rv f x).map fun r => (r, st)
  | .sri k a, σ, st => match ev C a σ st with
    | none => none
    | some (x, st) => (sriApp st k x).map fun r => (r, st)
  | .vals a, σ, st => match ev C a σ st with
    | none => none
    | some (x, st) => (valsApp st x).map fun r => (r, st)
  | .los tp a, σ, st => match ev C a σ st with
    | none => none
    | some (x, st) => (losOf tp x).map fun r => (r, st)
  | .call f es, σ, st => match evA C es σ st with
    | none => none
    | some (ds, st) => (C f ds st).map fun r => (.val r.1, r.2)
  | .bi b es, σ, st => match evR C es σ st with
    | none => none
    | some (rs, st) => (biApp st b rs).map fun r => (r, st)
  | .mt m o es, σ, st => match ev C o σ st with
    | none => none
    | some (x, st) => match evR C es σ st with
      | none => none
      | some (rs, st') => if kdOf st x = kdOf st' x then mtApp st' m x rs else none
  | .isi a t, σ, st => match ev C a σ st with
    | none => none
    | some (x, st) => (isTy st t x).map fun b => (.val (.bl b), st)
  | .comp t s c e own, σ, st => match evS C s σ st with
    | none => none
    | some (v, st) => if v.big = false ∨ szOk v.xs.length = true then (compL v.ws (fun d => setT t d (wipeD σ own)) (fun σ st => evC C c σ st) (fun σ st => ev C e σ st) v.xs st).map fun r => (.tmp r.1, r.2) else none
  | .dic0, _, st => some (.val (.ref st.length), st ++ [.dic false []])
  | .dit0, _, st => some (.val (.ref st.length), st ++ [.dit false []])
  | .dic1 k v, σ, st => match ev C k σ st with
    | none => none
    | some (x, st) => match ev C v σ st with
      | none => none
      | some (y, st) => match x with
        | .val d => if keyOk d then some (.val (.ref (mat y st).2.length), (mat y st).2 ++ [.dic false [(d, (mat y st).1)]]) else none
        | _ => none
  | .dit1 k v, σ, st => match ev C k σ st with
    | none => none
    | some (x, st) => match ev C v σ st with
      | none => none
      | some (y, st) => match x with
        | .val d => if tkOk d then some (.val (.ref (mat y st).2.length), (mat y st).2 ++ [.dit false [(d, (mat y st).1)]]) else none
        | _ => none
  | .att c a f, σ, st => match ev C a σ st with
    | none => none
    | some (x, st) => (attApp st c x f).map fun d => (.val d, st)
  | .mcall c m q o es, σ, st => match ev C o σ st with
    | none => none
    | some (x, st) => match insOf st c m x with
      | none => none
      | some n => match evA C es σ st with
        | none => none
        | some (ds, st) => (C q (.ref n :: ds) st).map fun r => (.val r.1, r.2)
  | .make c q es, σ, st => match evA C es σ st with
    | none => none
    | some (ds, st) => match C q (.ref st.length :: ds) (st ++ [.ins c []]) with
      | some (.non, st') => some (.val (.ref st.length), st')
      | _ => none
  | .isx cs, _, st => match C "?ex" [] st with
    | some (.str c, _) => some (.val (.bl (decide (c ∈ cs))), st)
    | _ => none
  | .dicS ks es, σ, st => match evA C es σ st with
    | none => none
    | some (ds, st) => if ks.length = ds.length ∧ ks.Nodup then some (.val (.ref st.length), st ++ [.dic false ((ks.map .str).zip ds)]) else none
  | .bad, _, _ => none
/-- values of arguments, from the left, each laid down -/
def evA (C : Call) : CEs → Env → Sto → Option (List D × Sto)
  | .nil, _, st => some ([], st)
  | .cons e es, σ, st => match ev C e σ st with
    | none => none
    | some (r, st) => match evA C es σ (mat r st).2 with
      | none => none
      | some (ds, st') => some ((mat r st).1 :: ds, st')
def evR (C : Call) : CEs → Env → Sto → Option (List RV × Sto)
  | .nil, _, st => some ([], st)
  | .cons e es, σ, st => match ev C e σ st with
    | none => none
    | some (r, st) => match evR C es σ st with
      | none => none
      | some (rs, st) => some (r :: rs, st)
/-- a slice's part: left out, or a number -/
def evP (C : Call) : CEs → Env → Sto → Option (Option Int × Sto)
  | .nil, _, st => some (none, st)
  | .cons e es, σ, st => match es with
    | .nil => match ev C e σ st with
      | some (.val (.int i), st) => some (some i, st)
      | _ => none
    | _ => none
/-- a comprehension's tests, all -/
def evC (C : Call) : CEs → Env → Sto → Option (Bool × Sto)
  | .nil, _, st => some (true, st)
  | .cons e es, σ, st => match ev C e σ st with
    | none => none
    | some (x, st) => match truth st x with
      | none => none
      | some false => some (false, st)
      | some true => evC C es σ st
def evS (C : Call) : Src → Env → Sto → Option (SV × Sto)
  | .ex e, σ, st => match ev C e σ st with
    | none => none
    | some (x, st) => (srcOf st x).map fun v => (v, st)
  | .rng es, σ, st => match evR C es σ st with
    | none => none
    | some (rs, st) => (rngOf rs).map fun v => (v, st)
  | .enm e, σ, st => match ev C e σ st with
    | none => none
    | some (x, st) => (srcSeq st x).map fun v => (⟨enmD 0 v.xs, v.ws, false⟩, st)
  | .zp es, σ, st => match evR C es σ st with
    | none => none
    | some (rs, st) => (zpOf st rs).map fun v => (v, st)
  | .rv e, σ, st => match ev C e σ st with
    | none => none
    | some (x, st) => (srcSeq st x).map fun v => (⟨v.xs.reverse, v.ws, false⟩, st)
  | .dk e, σ, st => match ev C e σ st with
    | none => none
    | some (x, st) => dkOf st x
end
/-- a test -/
def evT (C : Call) (e : CE) (σ : Env) (st : Sto) : Option (Bool × Sto) := match ev C e σ st with
  | none => none
  | some (x, st) => (truth st x).map fun b => (b, st)

/-- what a call raises -/
def xcall (r : Option (D × Sto)) : Option (Str × Sto) := match r with
  | some (.str c, st') => some (c, st')
  | _ => none
def xE (C : Call) : CE → Env → Sto → Option (Str × Sto)
  | .call f es, σ, st => match evA C es σ st with
    | none => none
    | some (ds, st) => xcall (C (bang f) ds st)
  | .mcall c m q o es, σ, st => match ev C o σ st with
    | none => none
    | some (x, st) => match insOf st c m x with
      | none => none
      | some n => match evA C es σ st with
        | none => none
        | some (ds, st) => xcall (C (bang q) (.ref n :: ds) st)
  | _, _, _ => none
/-- a raised one goes out -/
def xout (σ : Env) (r : Option (Str × Sto)) : Option (Fl × Env × Sto) := match r with
  | some (c, st) => some (.ex c, σ, st)
  | none => none
/-! ### statements -/
mutual
def exS (C : Call) (n : Nat) : CS → Env → Sto → Option (Fl × Env × Sto)
  | .asg t e, σ, st => match ev C e σ st with
    | none => none
    | some (r, st) => (setT t (mat r st).1 σ).map fun σ' => (.nx, σ', (mat r st).2)
  | .aug i o e, σ, st => match σ[i]? with
    | some (some d) => match ev C e σ st with
      | none => none
      | some (y, st) => match d, y with
        | .int a, .val (.int b) => match o with
          | .add => some (.nx, σ.set i (some (.int (a + b))), st)
          | .sub => some (.nx, σ.set i (some (.int (a - b))), st)
          | _ => none
        | _, _ => none
    | _ => none
  | .put o i e, σ, st => match ev C e σ st with
    | none => none
    | some (r, st) => match ev C o σ (mat r st).2 with
      | none => none
      | some (x, st') => match ev C i σ st' with
        | none => none
        | some (y, st') => (putApp st' x y (mat r st).1).map fun s => (.nx, σ, s)
  | .expr e, σ, st => match ev C e σ st with
    | none => none
    | some (_, st) => some (.nx, σ, st)
  | .ret e, σ, st => match ev C e σ st with
    | none => none
    | some (r, st) => some (.rt (mat r st).1, σ, (mat r st).2)
  | .retN, σ, st => some (.rt .non, σ, st)
  | .ite c a b, σ, st => match evT C c σ st with
    | none => none
    | some (true, st) => exs C n a σ st
    | some (false, st) => exs C n b σ st
  | .for t s b, σ, st => match evS C s σ st with
    | none => none
    | some (v, st) => forL v.ws (fun d σ => setT t d σ) (fun σ st => exs C n b σ st) v.xs σ st
  | .while c b, σ, st => whileL (fun σ st => evT C c σ st) (fun σ st => exs C n b σ st) n σ st
  | .sat c o f e, σ, st => match ev C e σ st with
    | none => none
    | some (r, st) => match ev C o σ (mat r st).2 with
      | none => none
      | some (x, st') => (satApp st' c x f (mat r st).1).map fun s => (.nx, σ, s)
  | .ataug c o f e, σ, st => match ev C o σ st with
    | none => none
    | some (x, st) => match attApp st c x f with
      | some (.int i) => match ev C e σ st with
        | some (.val (.int j), st) => (satApp st c x f (.int (i + j))).map fun s => (.nx, σ, s)
        | _ => none
      | _ => none
  | .raise c, σ, st => some (.ex c, σ, st)
  | .asgX t e, σ, st => match ev C e σ st with
    | none => xout σ (xE C e σ st)
    | some (r, st) => (setT t (mat r st).1 σ).map fun σ' => (.nx, σ', (mat r st).2)
  | .exprX e, σ, st => match ev C e σ st with
    | none => xout σ (xE C e σ st)
    | some (_, st) => some (.nx, σ, st)
  | .retX e, σ, st => match ev C e σ st with
    | none => xout σ (xE C e σ st)
    | some (r, st) => some (.rt (mat r st).1, σ, (mat r st).2)
  | .tryx b _ cs h, σ, st => match exs C n b σ st with
    | some (.ex c, σ, st) => if c ∈ cs then exs C n h σ st else none
    | r => r
  | .tryas b _ cs i h, σ, st => match exs C n b σ st with
    | some (.ex c, σ, st) => if c ∈ cs ∧ i < σ.length then match exs (exC C c) n h (σ.set i none) st with
        | some (.nx, σ, st) => some (.nx, σ.set i none, st)
        | _ => none
      else none
    | r => r
  | .brk, σ, st => some (.bk, σ, st)
  | .cont, σ, st => some (.ct, σ, st)
  | .pass, σ, st => some (.nx, σ, st)
  | .bad, _, _ => none
def exs (C : Call) (n : Nat) : CSs → Env → Sto → Option (Fl × Env × Sto)
  | .nil, σ, st => some (.nx, σ, st)
  | .cons s ss, σ, st => match exS C n s σ st with
    | some (.nx, σ, st) => exs C n ss σ st
    | r => r
end

/-! ### calls -/
mutual
def D.low (m : Nat) : D → Bool
  | .ref n => decide (n < m)
  | .tup xs => D.lowL m xs
  | .rol xs => D.lowL m xs
  | _ => true
def D.lowL (m : Nat) : List D → Bool
  | [] => true
  | x :: xs => D.low m x && D.lowL m xs
end
def O.low (m : Nat) : O → Bool
  | .lst xs => D.lowL m xs
  | .dic _ kvs => kvs.all fun p => p.1.low m && p.2.low m
  | .dit _ kvs => kvs.all fun p => p.1.low m && p.2.low m
  | .ins _ fs => fs.all fun p => p.2.low m
/-- behind a call: objects that nothing holds any more are let go -/
def gcOld (st st' : Sto) : Bool := decide (st.length ≤ st'.length) && (List.range st.length).all fun i => decide (st'[i]? = st[i]?) || (match st'[i]? with
  | some o => o.low st.length
  | none => false)
def gc (st : Sto) (d : D) (st' : Sto) : D × Sto :=
  if gcOld st st' then
    if d.low st.length then (d, st'.take st.length)
    else match d with
      | .ref n => match st'[n]? with
        | some o => if o.low st.length then (.ref st.length, st'.take st.length ++ [o]) else (d, st')
        | none => (d, st')
      | _ => (d, st')
  else (d, st')
structure Fd where
  np : Nat
  ns : Nat
  body : CSs
abbrev Tab := List (Str × Fd)
def callF (T : Tab) (n : Nat) : Nat → Call
  | 0 => fun _ _ _ => none
  | k + 1 => fun f ds st => match T.lookup f with
    | none => match unb f with
      | none => none
      | some g => match T.lookup g with
        | none => none
        | some fd => if ds.length = fd.np then match exs (callF T n k) n fd.body (ds.map some ++ List.replicate (fd.ns - fd.np) none) st with
            | some (.ex c, _, st') => some (.str c, (gc st .non st').2)
            | _ => none
          else none
    | some fd => if ds.length = fd.np then match exs (callF T n k) n fd.body (ds.map some ++ List.replicate (fd.ns - fd.np) none) st with
        | some (.rt d, _, st') => some (gc st d st')
        | some (.nx, _, st') => some (gc st .non st')
        | _ => none
      else none
end Mw

set_option Elab.async false
set_option linter.all false
set_option autoImplicit false
set_option maxRecDepth 100000
/-! PyB: how values and stores lie in the abstract heap of the hand layer; each operation keeps that. -/
namespace Mw
open PySem PySem.Spec PyProof.Rows L2
/-- the tables of code objects that are told of: where they stand, what their code objects are called -/
class Tbs where
  T : List (Addr × Str)
variable [Tbs]

/-- a list that nobody writes: locked, or of the written part -/
def SqF (K : PySem.W.Frag) (H : Hp) (a : Addr) (xs : List V) : Prop :=
  (∃ o, H a = some (.frz o (.lst xs))) ∨
    ∃ (o : Obj) (its : Array Value) (n : Nat), K.lookup a = some o ∧ o.cls = .type "list" ∧ o.dict = none ∧ o.data = .seq its n ∧ its.size ≤ sizeLine ∧ Vals xs its.toList
theorem SqF.sq {K : PySem.W.Frag} {H : Hp} {a : Addr} {xs : List V} (h : SqF K H a xs) : SqL K H a xs := by
  rcases h with ⟨o, h⟩ | h
  · exact .inl (.inr ⟨o, h⟩)
  · exact .inr h
/-- a tuple; one of whole numbers alone is tracked -/
def SqU (K : PySem.W.Frag) (H : Hp) (a : Addr) (vs : List V) : Prop := H a = some (.tup vs) ∨ (SqT K H a vs ∧ ∃ v ∈ vs, ∀ i, v ≠ .int i)
theorem SqU.of {K : PySem.W.Frag} {H : Hp} {a : Addr} {vs : List V} (h : H a = some (.tup vs)) : SqU K H a vs := .inl h
theorem SqU.sq {K : PySem.W.Frag} {H : Hp} {a : Addr} {vs : List V} (h : SqU K H a vs) : SqT K H a vs := by
  rcases h with h | h
  · exact SqT.of h
  · exact h.1
mutual
def Rep (K : PySem.W.Frag) (β : List Addr) (H : Hp) : D → V → Prop
  | .non, v => v = .non
  | .bl b, v => v = .bl b
  | .int i, v => v = .int i
  | .str s, v => v = .str s
  | .tup xs, v => ∃ a vs, v = .ref a ∧ SqU K H a vs ∧ RepL K β H xs vs
  | .rol xs, v => ∃ a vs, v = .ref a ∧ SqF K H a vs ∧ RepL K β H xs vs
  | .ref n, v => ∃ a, β[n]? = some a ∧ v = .ref a
def RepL (K : PySem.W.Frag) (β : List Addr) (H : Hp) : List D → List V → Prop
  | [], vs => vs = []
  | x :: xs, vs => ∃ v r, vs = v :: r ∧ Rep K β H x v ∧ RepL K β H xs r
end
def keyD : Key → D
  | .inl i => .int i
  | .inr x => .str x
/-- the keys -/
def DicR (kvs : List (D × D)) (ks : List (Key × V)) : Prop := kvs.map (·.1) = ks.map fun p => keyD p.1
def tkD (k : List Key) : D := .tup (k.map keyD)
/-- the keys, rows of whole numbers -/
def DicT (kvs : List (D × D)) (ks : List (List Key × V)) : Prop := kvs.map (·.1) = ks.map fun p => tkD p.1
/-- an object of the store and what stands at its address -/
def ObjR (K : PySem.W.Frag) (β : List Addr) (H : Hp) (a : Addr) : O → Prop
  | .lst xs => ∃ vs, H a = some (.lst vs) ∧ RepL K β H xs vs
  | .dic lk kvs => ∃ ks : List (Key × V), (if lk = true then ∃ o, H a = some (.frz o (.dK ks)) else H a = some (.dK ks)) ∧ DicR kvs ks ∧ RepL K β H (kvs.map (·.2)) (ks.map (·.2))
  | .dit lk kvs => ∃ ks : List (List Key × V), (if lk = true then ∃ o, H a = some (.frz o (.dT ks)) else H a = some (.dT ks)) ∧ DicT kvs ks ∧ RepL K β H (kvs.map (·.2)) (ks.map (·.2))
  | .ins c fs => ∃ dx vs, H a = some (.ins (He.ga K c) dx vs) ∧ fs.map (·.1) = vs.map (·.1) ∧ RepL K β H (fs.map (·.2)) (vs.map (·.2))
structure Sim (K : PySem.W.Frag) (β : List Addr) (st : Sto) (H : Hp) : Prop where
  len : β.length = st.length
  nd : β.Nodup
  obj : ∀ (n : Nat) (a : Addr) (o : O), β[n]? = some a → st[n]? = some o → ObjR K β H a o
  tab : LamX.Tabs Tbs.T H
/-- what is not held by the store stays, but tables of code objects -/
structure Keep (β : List Addr) (H H' : Hp) : Prop where
  at_ : ∀ b o, H b = some o → b ∉ β → (∀ ps, o ≠ .tbl ps) → H' b = some o
theorem Keep.get {β : List Addr} {H H' : Hp} (k : Keep β H H') {b : Addr} {o : HO} (h : H b = some o) (n : b ∉ β) (nt : ∀ ps, o ≠ .tbl ps := by intro _ z; cases z) : H' b = some o := k.at_ b o h n nt
structure Ext (β : List Addr) (H : Hp) (β' : List Addr) (H' : Hp) : Prop where
  pre : ∃ new, β' = β ++ new ∧ ∀ b ∈ new, H b = none
  keep : Keep β H H'
  frz : ∀ b o u, H b = some (.frz o u) → H' b = some (.frz o u)
  tbn : ∀ b, H' b = none → b ∉ β → H b = none
  tab : LamX.Tabs Tbs.T H → LamX.Tabs Tbs.T H'
/-- an answer of an expression: H0 is the heap ahead of it -/
def RRep (K : PySem.W.Frag) (β : List Addr) (H H0 : Hp) : RV → V → Prop
  | .val d, v => Rep K β H d v
  | .tmp xs, v => ∃ a vs, v = .ref a ∧ H a = some (.lst vs) ∧ a ∉ β ∧ H0 a = none ∧ RepL K β H xs vs
def EnvR (K : PySem.W.Frag) (β : List Addr) (H : Hp) (ρ : Env) (σ : L2.St) : Prop :=
  ρ.length = σ.length ∧ ∀ (i : Nat) (d : D), ρ[i]? = some (some d) → ∃ v, σ[i]? = some (some v) ∧ Rep K β H d v

section
variable {K : PySem.W.Frag} {β β' β1 β2 : List Addr} {H H' H0 H1 H2 : Hp} {st st' : Sto}
theorem Ext.refl : Ext β H β H := ⟨⟨[], by simp⟩, ⟨fun _ _ h _ _ => h⟩, fun _ _ _ h => h, fun _ h _ => h, fun h => h⟩
/-- no lock, no table, nothing told by what is true of it -/
structure NF (H : Hp) (a : Addr) : Prop where
  frz : ∀ o u, H a ≠ some (.frz o u)
  tbl : ∀ ps, H a ≠ some (.tbl ps)
  ext : ∀ φ, H a ≠ some (.ext φ)
omit [Tbs] in
theorem tabs_upd {T : List (Addr × Str)} {H : Hp} {a : Addr} {u : HO} (n1 : ∀ ps, H a ≠ some (.tbl ps)) (n2 : ∀ φ, H a ≠ some (.ext φ)) (h : LamX.Tabs T H) : LamX.Tabs T (upd H a u) := fun p hp => by
  obtain ⟨ps, h1, h2, h3⟩ := h p hp
  refine ⟨ps, by rw [upd_ne fun z => n1 ps (by rw [← z]; exact h1)]; exact h1, h2, fun pos cv hc => ?_⟩
  obtain ⟨c, e1, e2⟩ := h3 pos cv hc
  exact ⟨c, e1, by rw [upd_ne fun z => n2 _ (by rw [← z]; exact e2)]; exact e2⟩
theorem Ext.mem (e : Ext β H β' H') {b : Addr} (h : b ∈ β) : b ∈ β' := by
  obtain ⟨new, rfl, _⟩ := e.pre
  exact List.mem_append_left _ h
theorem Ext.get (e : Ext β H β' H') {n : Nat} {a : Addr} (h : β[n]? = some a) : β'[n]? = some a := by
  obtain ⟨new, rfl, _⟩ := e.pre
  rw [List.getElem?_append_left (List.getElem?_eq_some_iff.mp h).1]
  exact h
/-- what was untracked or unheld behind a step was free ahead of it -/
theorem Ext.free (e : Ext β H β' H') {a : Addr} (h : H' a = none) (n : a ∉ β) : H a = none := e.tbn a h n
theorem Ext.trans (a : Ext β H β1 H1) (b : Ext β1 H1 β2 H2) (nd : β2.Nodup) : Ext β H β2 H2 := by
  obtain ⟨n1, e1, f1⟩ := a.pre
  obtain ⟨n2, e2, f2⟩ := b.pre
  refine ⟨⟨n1 ++ n2, by rw [e2, e1, List.append_assoc], fun c hc => ?_⟩, ⟨fun c o h n nt => ?_⟩, fun c o u h => b.frz c o u (a.frz c o u h), fun c hc n => ?_, fun h => b.tab (a.tab h)⟩
  · rcases List.mem_append.mp hc with h | h
    · exact f1 c h
    · refine a.free (f2 c h) fun hm => ?_
      rw [e2, e1] at nd
      exact (List.nodup_append.mp nd).2.2 c (List.mem_append_left _ hm) c h rfl
  · refine b.keep.get (a.keep.get h n nt) (fun hm => ?_) nt
    rw [e1] at hm
    rcases List.mem_append.mp hm with h' | h'
    · exact n h'
    · rw [f1 c h'] at h; cases h
  · by_cases hm : c ∈ n1
    · exact f1 c hm
    · refine a.free (b.free hc fun hm2 => ?_) n
      rw [e1] at hm2
      exact (List.mem_append.mp hm2).elim n hm
theorem Sim.at_ (s : Sim K β st H) {n : Nat} {a : Addr} (h : β[n]? = some a) : ∃ o, st[n]? = some o ∧ ObjR K β H a o := by
  have hl := (List.getElem?_eq_some_iff.mp h).1
  rw [s.len] at hl
  exact ⟨st[n], by simp [hl], s.obj n a _ h (by simp [hl])⟩
theorem Sim.held (s : Sim K β st H) {a : Addr} (h : a ∈ β) : (∃ vs, H a = some (.lst vs)) ∨ (∃ ks, H a = some (.dK ks)) ∨ (∃ o ks, H a = some (.frz o (.dK ks))) ∨ (∃ ks, H a = some (.dT ks)) ∨ (∃ o ks, H a = some (.frz o (.dT ks))) ∨ ∃ C dx vs, H a = some (.ins C dx vs) := by
  obtain ⟨n, hn⟩ := List.getElem?_of_mem h
  obtain ⟨o, _, r⟩ := s.at_ hn
  cases o with
  | lst xs => obtain ⟨vs, e, _⟩ := r; exact .inl ⟨vs, e⟩
  | dic lk _ =>
    obtain ⟨ks, e, _⟩ := r
    cases lk with
    | false => exact .inr (.inl ⟨ks, e⟩)
    | true => obtain ⟨o, e⟩ := e; exact .inr (.inr (.inl ⟨o, ks, e⟩))
  | dit lk _ =>
    obtain ⟨ks, e, _⟩ := r
    cases lk with
    | false => exact .inr (.inr (.inr (.inl ⟨ks, e⟩)))
    | true => obtain ⟨o, e⟩ := e; exact .inr (.inr (.inr (.inr (.inl ⟨o, ks, e⟩))))
  | ins c fs => obtain ⟨dx, vs, e, _⟩ := r; exact .inr (.inr (.inr (.inr (.inr ⟨_, dx, vs, e⟩))))
theorem Sim.off (s : Sim K β st H) {a : Addr} (h : H a = none) : a ∉ β := fun hm => by
  rcases s.held hm with ⟨vs, e⟩ | ⟨ks, e⟩ | ⟨o, ks, e⟩ | ⟨ks, e⟩ | ⟨o, ks, e⟩ | ⟨_, _, _, e⟩ <;> (rw [h] at e; cases e)
theorem Sim.tup (s : Sim K β st H) (k : Keep β H H') {a : Addr} {vs : List V} (h : SqT K H a vs) : SqT K H' a vs := by
  rcases h with h | h
  · refine .inl ?_
    rcases h with h | ⟨o, h⟩
    · exact .inl (k.get h fun hm => by rcases s.held hm with ⟨vs, e⟩ | ⟨ks, e⟩ | ⟨o, ks, e⟩ | ⟨ks, e⟩ | ⟨o, ks, e⟩ | ⟨_, _, _, e⟩ <;> (rw [h] at e; cases e))
    · exact .inr ⟨o, k.get h fun hm => by rcases s.held hm with ⟨vs, e⟩ | ⟨ks, e⟩ | ⟨o, ks, e⟩ | ⟨ks, e⟩ | ⟨o, ks, e⟩ | ⟨_, _, _, e⟩ <;> (rw [h] at e; cases e)⟩
  · exact .inr h
theorem Sim.tupU (s : Sim K β st H) (k : Keep β H H') {a : Addr} {vs : List V} (h : SqU K H a vs) : SqU K H' a vs := by
  rcases h with h | ⟨h, q⟩
  · exact .inl (k.get h fun hm => by rcases s.held hm with ⟨vs, e⟩ | ⟨ks, e⟩ | ⟨o, ks, e⟩ | ⟨ks, e⟩ | ⟨o, ks, e⟩ | ⟨_, _, _, e⟩ <;> (rw [h] at e; cases e))
  · exact .inr ⟨s.tup k h, q⟩
theorem Sim.fro (s : Sim K β st H) (k : Keep β H H') {a : Addr} {vs : List V} (h : SqF K H a vs) : SqF K H' a vs := by
  rcases h with ⟨o, h⟩ | h
  · exact .inl ⟨o, k.get h fun hm => by rcases s.held hm with ⟨vs, e⟩ | ⟨ks, e⟩ | ⟨o, ks, e⟩ | ⟨ks, e⟩ | ⟨o, ks, e⟩ | ⟨_, _, _, e⟩ <;> (rw [h] at e; cases e)⟩
  · exact .inr h
mutual
theorem Rep.mono (s : Sim K β st H) (e : Ext β H β' H') : ∀ (d : D) (v : V), Rep K β H d v → Rep K β' H' d v
  | .non, _, h => h
  | .bl _, _, h => h
  | .int _, _, h => h
  | .str _, _, h => h
  | .tup xs, v, h => by
    obtain ⟨a, vs, e1, h1, h2⟩ := h
    exact ⟨a, vs, e1, s.tupU e.keep h1, RepL.mono s e xs vs h2⟩
  | .rol xs, v, h => by
    obtain ⟨a, vs, e1, h1, h2⟩ := h
    exact ⟨a, vs, e1, s.fro e.keep h1, RepL.mono s e xs vs h2⟩
  | .ref n, v, h => by
    obtain ⟨a, h1, h2⟩ := h
    exact ⟨a, e.get h1, h2⟩
theorem RepL.mono (s : Sim K β st H) (e : Ext β H β' H') : ∀ (ds : List D) (vs : List V), RepL K β H ds vs → RepL K β' H' ds vs
  | [], _, h => h
  | x :: xs, vs, h => by
    obtain ⟨v, r, e1, h1, h2⟩ := h
    exact ⟨v, r, e1, Rep.mono s e x v h1, RepL.mono s e xs r h2⟩
end
theorem RRep.mono (s : Sim K β st H) (e : Ext β H β' H') (nd : β'.Nodup) {r : RV} {v : V} (h : RRep K β H H0 r v) : RRep K β' H' H0 r v := by
  cases r with
  | val d => exact Rep.mono s e d v h
  | tmp xs =>
    obtain ⟨a, vs, e1, h1, h2, h3, h4⟩ := h
    refine ⟨a, vs, e1, e.keep.get h1 h2, fun hm => ?_, h3, RepL.mono s e xs vs h4⟩
    obtain ⟨new, rfl, f⟩ := e.pre
    rcases List.mem_append.mp hm with z | z
    · exact h2 z
    · rw [f a z] at h1; cases h1
/-- the heap ahead taken further back -/
theorem RRep.back (e : Ext β H0 β1 H1) (e2 : Ext β1 H1 β2 H2) {r : RV} {v : V} (h : RRep K β2 H2 H1 r v) : RRep K β2 H2 H0 r v := by
  cases r with
  | val d => exact h
  | tmp xs =>
    obtain ⟨a, vs, e1, h1, h2, h3, h4⟩ := h
    exact ⟨a, vs, e1, h1, h2, e.free h3 fun hm => h2 (e2.mem (e.mem hm)), h4⟩
theorem EnvR.mono (s : Sim K β st H) (e : Ext β H β' H') {ρ : Env} {σ : L2.St} (h : EnvR K β H ρ σ) : EnvR K β' H' ρ σ :=
  ⟨h.1, fun i d hi => let ⟨v, h1, h2⟩ := h.2 i d hi; ⟨v, h1, Rep.mono s e d v h2⟩⟩
theorem EnvR.get {ρ : Env} {σ : L2.St} (h : EnvR K β H ρ σ) {i : Nat} {d : D} (hi : ρ[i]? = some (some d)) : ∃ v, σ[i]? = some (some v) ∧ Rep K β H d v := h.2 i d hi
theorem EnvR.set {ρ : Env} {σ : L2.St} (h : EnvR K β H ρ σ) {i : Nat} {d : D} {v : V} (r : Rep K β H d v) : EnvR K β H (ρ.set i (some d)) (σ.set i (some v)) := by
  refine ⟨by simp [h.1], fun j e hj => ?_⟩
  by_cases hij : i = j
  · subst hij
    by_cases hl : i < ρ.length
    · rw [List.getElem?_set_self hl] at hj
      have hl2 : i < σ.length := h.1 ▸ hl
      rw [List.getElem?_set_self hl2]
      simp only [Option.some.injEq] at hj
      subst hj
      exact ⟨v, rfl, r⟩
    · rw [List.getElem?_eq_none (by simp; omega)] at hj; cases hj
  · rw [List.getElem?_set_ne hij] at hj ⊢
    exact h.2 j e hj
theorem RepL.length : ∀ {xs : List D} {vs : List V}, RepL K β H xs vs → xs.length = vs.length
  | [], _, h => by simp only [RepL] at h; subst h; rfl
  | x :: xs, _, h => by
    obtain ⟨v, r, rfl, _, h2⟩ := h
    simp [RepL.length h2]
theorem RepL.get : ∀ {xs : List D} {vs : List V} {i : Nat} {d : D}, RepL K β H xs vs → xs[i]? = some d → ∃ v, vs[i]? = some v ∧ Rep K β H d v
  | [], _, _, _, _, hi => by simp at hi
  | x :: xs, _, 0, d, h, hi => by
    obtain ⟨v, r, rfl, h1, _⟩ := h
    simp at hi; subst hi
    exact ⟨v, rfl, h1⟩
  | x :: xs, _, i + 1, d, h, hi => by
    obtain ⟨v, r, rfl, _, h2⟩ := h
    exact RepL.get (i := i) h2 (by simpa using hi)
theorem RepL.append : ∀ {xs ys : List D} {vs ws : List V}, RepL K β H xs vs → RepL K β H ys ws → RepL K β H (xs ++ ys) (vs ++ ws)
  | [], _, _, _, h, q => by simp only [RepL] at h; subst h; exact q
  | x :: xs, _, _, _, h, q => by
    obtain ⟨v, r, rfl, h1, h2⟩ := h
    exact ⟨v, r ++ _, rfl, h1, RepL.append h2 q⟩
theorem RepL.take : ∀ {xs : List D} {vs : List V} (n : Nat), RepL K β H xs vs → RepL K β H (xs.take n) (vs.take n)
  | _, _, 0, _ => by simp [RepL]
  | [], _, n + 1, h => by simp only [RepL] at h; subst h; simp [RepL]
  | x :: xs, _, n + 1, h => by
    obtain ⟨v, r, rfl, h1, h2⟩ := h
    exact ⟨v, r.take n, rfl, h1, RepL.take n h2⟩
theorem RepL.drop : ∀ {xs : List D} {vs : List V} (n : Nat), RepL K β H xs vs → RepL K β H (xs.drop n) (vs.drop n)
  | _, _, 0, h => h
  | [], _, n + 1, h => by simp only [RepL] at h; subst h; simp [RepL]
  | x :: xs, _, n + 1, h => by
    obtain ⟨v, r, rfl, h1, h2⟩ := h
    exact RepL.drop n h2
theorem RepL.set : ∀ {xs : List D} {vs : List V} (i : Nat) {d : D} {v : V}, RepL K β H xs vs → Rep K β H d v → RepL K β H (xs.set i d) (vs.set i v)
  | [], _, _, _, _, h, _ => by simp only [RepL] at h; subst h; simp [RepL]
  | x :: xs, _, 0, d, w, h, q => by
    obtain ⟨v, r, rfl, h1, h2⟩ := h
    exact ⟨w, r, rfl, q, h2⟩
  | x :: xs, _, i + 1, d, w, h, q => by
    obtain ⟨v, r, rfl, h1, h2⟩ := h
    exact ⟨v, r.set i w, rfl, h1, RepL.set i h2 q⟩
theorem RepL.erase : ∀ {xs : List D} {vs : List V} (i : Nat), RepL K β H xs vs → RepL K β H (xs.eraseIdx i) (vs.eraseIdx i)
  | [], _, _, h => by simp only [RepL] at h; subst h; simp [RepL]
  | x :: xs, _, 0, h => by
    obtain ⟨v, r, rfl, h1, h2⟩ := h
    exact h2
  | x :: xs, _, i + 1, h => by
    obtain ⟨v, r, rfl, h1, h2⟩ := h
    exact ⟨v, r.eraseIdx i, rfl, h1, RepL.erase i h2⟩
theorem RepL.one {d : D} {v : V} (h : Rep K β H d v) : RepL K β H [d] [v] := ⟨v, [], rfl, h, rfl⟩
theorem RepL.reverse : ∀ {xs : List D} {vs : List V}, RepL K β H xs vs → RepL K β H xs.reverse vs.reverse
  | [], _, h => by simp only [RepL] at h; subst h; simp [RepL]
  | x :: xs, _, h => by
    obtain ⟨v, r, rfl, h1, h2⟩ := h
    simp only [List.reverse_cons]
    exact RepL.append (RepL.reverse h2) (RepL.one h1)
theorem RepL.rep : ∀ (k : Nat) {xs : List D} {vs : List V}, RepL K β H xs vs → RepL K β H (List.replicate k xs).flatten (List.replicate k vs).flatten
  | 0, _, _, _ => by simp [RepL]
  | k + 1, _, _, h => by
    simp only [List.replicate_succ, List.flatten_cons]
    exact RepL.append h (RepL.rep k h)
/-- a new object at a free address -/
theorem Ext.new {p : Addr} {o : HO} (h : H p = none) : Ext β H β (upd H p o) := ⟨⟨[], by simp⟩, ⟨fun b u hb _ _ => by rw [upd_ne (ne_of_none hb h)]; exact hb⟩, fun b u w hb => by rw [upd_ne (ne_of_none hb h)]; exact hb,
  fun b hb _ => by
    by_cases z : b = p
    · rw [z]; exact h
    · rwa [upd_ne z] at hb,
  tabs_upd (fun _ z => by rw [h] at z; cases z) (fun _ z => by rw [h] at z; cases z)⟩
theorem ObjR.mono (s : Sim K β st H) (e : Ext β H β' H') {a : Addr} {o : O} (h : ObjR K β H a o) (ha : H' a = H a) : ObjR K β' H' a o := by
  cases o with
  | lst xs => obtain ⟨vs, h1, h2⟩ := h; exact ⟨vs, ha.trans h1, RepL.mono s e xs vs h2⟩
  | dic lk kvs => obtain ⟨ks, h1, h2, h3⟩ := h; exact ⟨ks, by rw [ha]; exact h1, h2, RepL.mono s e _ _ h3⟩
  | dit lk kvs => obtain ⟨ks, h1, h2, h3⟩ := h; exact ⟨ks, by rw [ha]; exact h1, h2, RepL.mono s e _ _ h3⟩
  | ins c fs => obtain ⟨dx, vs, h1, h2, h3⟩ := h; exact ⟨dx, vs, ha.trans h1, h2, RepL.mono s e _ _ h3⟩
/-- objects outside of the store come and change: nothing of the store turns -/
theorem Sim.out (s : Sim K β st H) (e : Ext β H β H') (ha : ∀ a ∈ β, H' a = H a) : Sim K β st H' :=
  ⟨s.len, s.nd, fun n a o h1 h2 => (s.obj n a o h1 h2).mono s e (ha a (List.mem_of_getElem? h1)), e.tab s.tab⟩
theorem Sim.new (s : Sim K β st H) {p : Addr} {o : HO} (h : H p = none) : Sim K β st (upd H p o) :=
  s.out (Ext.new h) fun a ha => upd_ne fun z => s.off h (z ▸ ha)
/-- a list that nothing holds is laid into the store -/
theorem Sim.lay (s : Sim K β st H) {p : Addr} {xs : List D} {vs : List V} (h : H p = some (.lst vs)) (hp : p ∉ β) (r : RepL K β H xs vs) : Sim K (β ++ [p]) (st ++ [.lst xs]) H := by
  have get : ∀ {n : Nat} {a : Addr}, β[n]? = some a → (β ++ [p])[n]? = some a := fun {n a} h => by
    rw [List.getElem?_append_left (List.getElem?_eq_some_iff.mp h).1]; exact h
  have mono : ∀ (ds : List D) (ws : List V), RepL K β H ds ws → RepL K (β ++ [p]) H ds ws := by
    have m1 : ∀ d : D, ∀ v, Rep K β H d v → Rep K (β ++ [p]) H d v := by
      intro d
      refine D.rec (motive_1 := fun d => ∀ v, Rep K β H d v → Rep K (β ++ [p]) H d v) (motive_2 := fun ds => ∀ ws, RepL K β H ds ws → RepL K (β ++ [p]) H ds ws) ?_ ?_ ?_ ?_ ?_ ?_ ?_ ?_ ?_ d
      · exact fun _ h => h
      · exact fun _ _ h => h
      · exact fun _ _ h => h
      · exact fun _ _ h => h
      · intro xs ih v h
        obtain ⟨a, vs, e1, h1, h2⟩ := h
        exact ⟨a, vs, e1, h1, ih vs h2⟩
      · intro xs ih v h
        obtain ⟨a, vs, e1, h1, h2⟩ := h
        exact ⟨a, vs, e1, h1, ih vs h2⟩
      · intro n v h
        obtain ⟨a, h1, h2⟩ := h
        exact ⟨a, get h1, h2⟩
      · exact fun _ h => h
      · intro x xs i1 i2 ws h
        obtain ⟨v, r, e1, h1, h2⟩ := h
        exact ⟨v, r, e1, i1 v h1, i2 r h2⟩
    intro ds
    induction ds with
    | nil => exact fun _ h => h
    | cons x xs ih =>
      intro ws h
      obtain ⟨v, r, e1, h1, h2⟩ := h
      exact ⟨v, r, e1, m1 x v h1, ih r h2⟩
  refine ⟨by simp [s.len], List.nodup_append.mpr ⟨s.nd, by simp, fun a ha b hb => ?_⟩, fun n a o h1 h2 => ?_, s.tab⟩
  · simp only [List.mem_singleton] at hb
    subst hb
    exact fun z => hp (z ▸ ha)
  · by_cases hn : n < β.length
    · rw [List.getElem?_append_left hn] at h1
      rw [List.getElem?_append_left (s.len ▸ hn)] at h2
      have q := s.obj n a o h1 h2
      cases o with
      | lst xs => obtain ⟨ws, q1, q2⟩ := q; exact ⟨ws, q1, mono _ _ q2⟩
      | dic _ _ => obtain ⟨ws, q1, q2, q3⟩ := q; exact ⟨ws, q1, q2, mono _ _ q3⟩
      | dit _ _ => obtain ⟨ws, q1, q2, q3⟩ := q; exact ⟨ws, q1, q2, mono _ _ q3⟩
      | ins _ _ => obtain ⟨dx, ws, q1, q2, q3⟩ := q; exact ⟨dx, ws, q1, q2, mono _ _ q3⟩
    · have hl : n < (β ++ [p]).length := (List.getElem?_eq_some_iff.mp h1).1
      have en : n = β.length := by simp at hl; omega
      subst en
      rw [List.getElem?_append_right (Nat.le_refl _)] at h1
      rw [s.len, List.getElem?_append_right (Nat.le_refl _)] at h2
      simp at h1 h2
      subst h1 h2
      exact ⟨vs, h, mono _ _ r⟩
/-! ### dicts -/
def ORep (K : PySem.W.Frag) (β : List Addr) (H : Hp) : Option D → Option V → Prop
  | none, none => True
  | some d, some v => Rep K β H d v
  | _, _ => False
theorem ORep.some_eq {o : Option D} {u : Option V} (h : ORep K β H o u) : o.isSome = u.isSome := by
  cases o <;> cases u <;> first | rfl | exact h.elim
theorem keyD_inj : ∀ {a b : Key}, keyD a = keyD b → a = b
  | .inl i, .inl j, h => by cases h; rfl
  | .inr x, .inr y, h => by cases h; rfl
  | .inl _, .inr _, h => by cases h
  | .inr _, .inl _, h => by cases h
theorem keyOk_iff {d : D} (h : keyOk d = true) : ∃ k, d = keyD k := by
  cases d with
  | int i => exact ⟨.inl i, rfl⟩
  | str x => exact ⟨.inr x, rfl⟩
  | _ => cases h
theorem rep_keyD {k : Key} {v : V} (h : Rep K β H (keyD k) v) : v = kV k := by
  cases k with
  | inl i => exact h
  | inr x => exact h
theorem rep_key : ∀ k : Key, Rep K β H (keyD k) (kV k)
  | .inl _ => rfl
  | .inr _ => rfl
theorem dic_val (k : Key) : ∀ {kvs : List (D × D)} {ks : List (Key × V)}, DicR kvs ks → RepL K β H (kvs.map (·.2)) (ks.map (·.2)) → ORep K β H (dicGet (keyD k) kvs) (valV ks k)
  | [], ks, h, _ => by
    have : ks = [] := by
      unfold DicR at h
      cases ks with
      | nil => rfl
      | cons a l => simp at h
    subst this
    exact True.intro
  | (a, w) :: kvs, ks, h, r => by
    unfold DicR at h
    cases ks with
    | nil => simp at h
    | cons p ps =>
      obtain ⟨v, vs, e, r1, r2⟩ := r
      simp only [List.map_cons, List.cons.injEq] at h e
      obtain ⟨h1, h2⟩ := h
      obtain ⟨e1, e2⟩ := e
      simp only [dicGet]
      by_cases hk : p.1 = k
      · rw [if_pos (by rw [h1, hk]), valV_pos hk, e1]
        exact r1
      · rw [if_neg (fun z => hk (keyD_inj (h1.symm.trans z))), valV_neg hk]
        exact dic_val k h2 (by rw [e2]; exact r2)
theorem DicR.any (k : Key) : ∀ {kvs : List (D × D)} {ks : List (Key × V)}, DicR kvs ks → (kvs.any fun p => decide (p.1 = keyD k)) = ks.any fun p => decide (p.1 = k)
  | [], ks, h => by
    unfold DicR at h
    cases ks with
    | nil => rfl
    | cons a l => simp at h
  | (a, w) :: kvs, ks, h => by
    unfold DicR at h
    cases ks with
    | nil => simp at h
    | cons p ps =>
      simp only [List.map_cons, List.cons.injEq] at h
      obtain ⟨h1, h2⟩ := h
      rw [List.any_cons, List.any_cons, DicR.any k h2]
      have : decide (a = keyD k) = decide (p.1 = k) := by
        rw [h1]
        exact decide_eq_decide.mpr ⟨keyD_inj, fun z => by rw [z]⟩
      simp only [this]
theorem DicR.repl (k : Key) (d : D) (v : V) : ∀ {kvs : List (D × D)} {ks : List (Key × V)}, DicR kvs ks → RepL K β H (kvs.map (·.2)) (ks.map (·.2)) → Rep K β H d v →
    DicR (kvs.map fun p => if p.1 = keyD k then (p.1, d) else p) (ks.map fun p => if p.1 = k then (p.1, v) else p) ∧
      RepL K β H ((kvs.map fun p => if p.1 = keyD k then (p.1, d) else p).map (·.2)) ((ks.map fun p => if p.1 = k then (p.1, v) else p).map (·.2))
  | [], ks, h, _, _ => by
    have : ks = [] := by
      unfold DicR at h
      cases ks with
      | nil => rfl
      | cons a l => simp at h
    subst this
    exact ⟨rfl, rfl⟩
  | (a, w) :: kvs, ks, h, r, rd => by
    unfold DicR at h
    cases ks with
    | nil => simp at h
    | cons p ps =>
      obtain ⟨u, vs, e, r1, r2⟩ := r
      simp only [List.map_cons, List.cons.injEq] at h e
      obtain ⟨h1, h2⟩ := h
      obtain ⟨e1, e2⟩ := e
      obtain ⟨i1, i2⟩ := DicR.repl k d v h2 (by rw [e2]; exact r2) rd
      simp only [List.map_cons]
      by_cases hk : p.1 = k
      · rw [if_pos (show a = keyD k by rw [h1, hk]), if_pos hk]
        refine ⟨?_, _, _, rfl, rd, i2⟩
        show _ :: _ = _ :: _
        rw [show List.map (fun p : D × D => p.1) (kvs.map fun p => if p.1 = keyD k then (p.1, d) else p) = _ from i1, h1]
      · rw [if_neg (fun z => hk (keyD_inj (h1.symm.trans z))), if_neg hk]
        refine ⟨?_, _, _, rfl, by rw [e1]; exact r1, i2⟩
        show _ :: _ = _ :: _
        rw [show List.map (fun p : D × D => p.1) (kvs.map fun p => if p.1 = keyD k then (p.1, d) else p) = _ from i1, h1]
theorem DicR.put (k : Key) {d : D} {v : V} {kvs : List (D × D)} {ks : List (Key × V)} (h : DicR kvs ks) (r : RepL K β H (kvs.map (·.2)) (ks.map (·.2))) (rd : Rep K β H d v) :
    DicR (dicPut (keyD k) d kvs) (putK ks k v) ∧ RepL K β H ((dicPut (keyD k) d kvs).map (·.2)) ((putK ks k v).map (·.2)) := by
  unfold dicPut putK
  rw [h.any k]
  split
  · exact DicR.repl k d v h r rd
  · refine ⟨?_, ?_⟩
    · unfold DicR at h ⊢
      rw [List.map_append, List.map_append, h]
      rfl
    · rw [List.map_append, List.map_append]
      exact r.append (RepL.one rd)
theorem DicR.length {kvs : List (D × D)} {ks : List (Key × V)} (h : DicR kvs ks) : kvs.length = ks.length := by
  have := congrArg List.length h
  simpa using this
theorem keysD_inj : ∀ {a b : List Key}, a.map keyD = b.map keyD → a = b
  | [], [], _ => rfl
  | [], _ :: _, h => by simp at h
  | _ :: _, [], h => by simp at h
  | x :: xs, y :: ys, h => by
    simp only [List.map_cons, List.cons.injEq] at h
    rw [keyD_inj h.1, keysD_inj h.2]
theorem tkD_inj {a b : List Key} (h : tkD a = tkD b) : a = b := by
  simp only [tkD, D.tup.injEq] at h
  exact keysD_inj h
theorem tkOk_iff {d : D} (h : tkOk d = true) : ∃ ns : List Int, d = .tup (ns.map .int) := by
  cases d with
  | tup xs =>
    simp only [tkOk] at h
    induction xs with
    | nil => exact ⟨[], rfl⟩
    | cons x xs ih =>
      rw [List.all_cons, Bool.and_eq_true] at h
      obtain ⟨ns, e⟩ := ih h.2
      simp only [D.tup.injEq] at e
      cases x with
      | int i => exact ⟨i :: ns, by rw [e]; rfl⟩
      | _ => simp at h
  | _ => cases h
theorem rep_intsV : ∀ {ns : List Int} {vs : List V}, RepL K β H (ns.map .int) vs → vs = ns.map V.int
  | [], vs, h => h
  | n :: ns, vs, h => by
    obtain ⟨v, r, rfl, h1, h2⟩ := h
    rw [List.map_cons, rep_intsV h2, show v = .int n from h1]
/-- a row of whole numbers is tracked: a key -/
theorem rep_tk {ns : List Int} {v : V} (h : Rep K β H (.tup (ns.map .int)) v) : ∃ b, v = .ref b ∧ H b = some (.tup ((ns.map Sum.inl).map kV)) := by
  obtain ⟨a, vs, rfl, h1, h2⟩ := h
  rw [rep_intsV h2] at h1
  have e : (ns.map Sum.inl).map kV = ns.map V.int := by rw [List.map_map]; rfl
  refine ⟨a, rfl, ?_⟩
  rw [e]
  rcases h1 with h1 | ⟨_, v, hv, hn⟩
  · exact h1
  · obtain ⟨i, _, rfl⟩ := List.mem_map.mp hv
    exact absurd rfl (hn i)
theorem tkD_ints {ns : List Int} : tkD (ns.map Sum.inl) = .tup (ns.map .int) := by
  simp only [tkD, List.map_map]
  rfl
theorem dit_val (k : List Key) : ∀ {kvs : List (D × D)} {ks : List (List Key × V)}, DicT kvs ks → RepL K β H (kvs.map (·.2)) (ks.map (·.2)) → ORep K β H (dicGet (tkD k) kvs) (valV ks k)
  | [], ks, h, _ => by
    have : ks = [] := by
      unfold DicT at h
      cases ks with
      | nil => rfl
      | cons a l => simp at h
    subst this
    exact True.intro
  | (a, w) :: kvs, ks, h, r => by
    unfold DicT at h
    cases ks with
    | nil => simp at h
    | cons p ps =>
      obtain ⟨v, vs, e, r1, r2⟩ := r
      simp only [List.map_cons, List.cons.injEq] at h e
      obtain ⟨h1, h2⟩ := h
      obtain ⟨e1, e2⟩ := e
      simp only [dicGet]
      by_cases hk : p.1 = k
      · rw [if_pos (by rw [h1, hk]), valV_pos hk, e1]
        exact r1
      · rw [if_neg (fun z => hk (tkD_inj (h1.symm.trans z))), valV_neg hk]
        exact dit_val k h2 (by rw [e2]; exact r2)
theorem DicT.any (k : List Key) : ∀ {kvs : List (D × D)} {ks : List (List Key × V)}, DicT kvs ks → (kvs.any fun p => decide (p.1 = tkD k)) = ks.any fun p => decide (p.1 = k)
  | [], ks, h => by
    unfold DicT at h
    cases ks with
    | nil => rfl
    | cons a l => simp at h
  | (a, w) :: kvs, ks, h => by
    unfold DicT at h
    cases ks with
    | nil => simp at h
    | cons p ps =>
      simp only [List.map_cons, List.cons.injEq] at h
      obtain ⟨h1, h2⟩ := h
      rw [List.any_cons, List.any_cons, DicT.any k h2]
      have : decide (a = tkD k) = decide (p.1 = k) := by
        rw [h1]
        exact decide_eq_decide.mpr ⟨tkD_inj, fun z => by rw [z]⟩
      simp only [this]
theorem DicT.repl (k : List Key) (d : D) (v : V) : ∀ {kvs : List (D × D)} {ks : List (List Key × V)}, DicT kvs ks → RepL K β H (kvs.map (·.2)) (ks.map (·.2)) → Rep K β H d v →
    DicT (kvs.map fun p => if p.1 = tkD k then (p.1, d) else p) (ks.map fun p => if p.1 = k then (p.1, v) else p) ∧
      RepL K β H ((kvs.map fun p => if p.1 = tkD k then (p.1, d) else p).map (·.2)) ((ks.map fun p => if p.1 = k then (p.1, v) else p).map (·.2))
  | [], ks, h, _, _ => by
    have : ks = [] := by
      unfold DicT at h
      cases ks with
      | nil => rfl
      | cons a l => simp at h
    subst this
    exact ⟨rfl, rfl⟩
  | (a, w) :: kvs, ks, h, r, rd => by
    unfold DicT at h
    cases ks with
    | nil => simp at h
    | cons p ps =>
      obtain ⟨u, vs, e, r1, r2⟩ := r
      simp only [List.map_cons, List.cons.injEq] at h e
      obtain ⟨h1, h2⟩ := h
      obtain ⟨e1, e2⟩ := e
      obtain ⟨i1, i2⟩ := DicT.repl k d v h2 (by rw [e2]; exact r2) rd
      simp only [List.map_cons]
      by_cases hk : p.1 = k
      · rw [if_pos (show a = tkD k by rw [h1, hk]), if_pos hk]
        refine ⟨?_, _, _, rfl, rd, i2⟩
        show _ :: _ = _ :: _
        rw [show List.map (fun p : D × D => p.1) (kvs.map fun p => if p.1 = tkD k then (p.1, d) else p) = _ from i1, h1]
      · rw [if_neg (fun z => hk (tkD_inj (h1.symm.trans z))), if_neg hk]
        refine ⟨?_, _, _, rfl, by rw [e1]; exact r1, i2⟩
        show _ :: _ = _ :: _
        rw [show List.map (fun p : D × D => p.1) (kvs.map fun p => if p.1 = tkD k then (p.1, d) else p) = _ from i1, h1]
theorem DicT.put (k : List Key) {d : D} {v : V} {kvs : List (D × D)} {ks : List (List Key × V)} (h : DicT kvs ks) (r : RepL K β H (kvs.map (·.2)) (ks.map (·.2))) (rd : Rep K β H d v) :
    DicT (dicPut (tkD k) d kvs) (putK ks k v) ∧ RepL K β H ((dicPut (tkD k) d kvs).map (·.2)) ((putK ks k v).map (·.2)) := by
  unfold dicPut putK
  rw [h.any k]
  split
  · exact DicT.repl k d v h r rd
  · refine ⟨?_, ?_⟩
    · unfold DicT at h ⊢
      rw [List.map_append, List.map_append, h]
      rfl
    · rw [List.map_append, List.map_append]
      exact r.append (RepL.one rd)
theorem DicT.length {kvs : List (D × D)} {ks : List (List Key × V)} (h : DicT kvs ks) : kvs.length = ks.length := by
  have := congrArg List.length h
  simpa using this
/-- a dict of the store -/
theorem Sim.dic (s : Sim K β st H) {n : Nat} {a : Addr} {lk : Bool} {kvs : List (D × D)} (h1 : β[n]? = some a) (h2 : st[n]? = some (.dic lk kvs)) :
    ∃ ks, L2.Rd H a (.dK ks) ∧ DicR kvs ks ∧ RepL K β H (kvs.map (·.2)) (ks.map (·.2)) := by
  obtain ⟨ks, q1, q2, q3⟩ := s.obj n a _ h1 h2
  refine ⟨ks, ?_, q2, q3⟩
  cases lk with
  | false => exact .inl q1
  | true => exact .inr q1
theorem dic_get (s : Sim K β st H) {n : Nat} {a : Addr} {lk : Bool} {kvs : List (D × D)} {k : D} {x : V} (h1 : β[n]? = some a) (h2 : st[n]? = some (.dic lk kvs)) (hk : keyOk k = true) (hx : Rep K β H k x) :
    ∃ o, DGet H a x o ∧ ORep K β H (dicGet k kvs) o := by
  obtain ⟨ks, q1, q2, q3⟩ := s.dic h1 h2
  obtain ⟨j, rfl⟩ := keyOk_iff hk
  exact ⟨valV ks j, .inl ⟨ks, j, q1, rep_keyD hx, rfl⟩, dic_val j q2 q3⟩
theorem Sim.dit (s : Sim K β st H) {n : Nat} {a : Addr} {lk : Bool} {kvs : List (D × D)} (h1 : β[n]? = some a) (h2 : st[n]? = some (.dit lk kvs)) :
    ∃ ks, L2.Rd H a (.dT ks) ∧ DicT kvs ks ∧ RepL K β H (kvs.map (·.2)) (ks.map (·.2)) := by
  obtain ⟨ks, q1, q2, q3⟩ := s.obj n a _ h1 h2
  refine ⟨ks, ?_, q2, q3⟩
  cases lk with
  | false => exact .inl q1
  | true => exact .inr q1
theorem dit_get (s : Sim K β st H) {n : Nat} {a : Addr} {lk : Bool} {kvs : List (D × D)} {k : D} {x : V} (h1 : β[n]? = some a) (h2 : st[n]? = some (.dit lk kvs)) (hk : tkOk k = true) (hx : Rep K β H k x) :
    ∃ o, DGet H a x o ∧ ORep K β H (dicGet k kvs) o := by
  obtain ⟨ks, q1, q2, q3⟩ := s.dit h1 h2
  obtain ⟨ns, rfl⟩ := tkOk_iff hk
  obtain ⟨b, rfl, hb⟩ := rep_tk hx
  refine ⟨valV ks (ns.map Sum.inl), .inr ⟨ks, _, b, q1, rfl, hb, rfl⟩, ?_⟩
  have := dit_val (ns.map Sum.inl) q2 q3
  rw [tkD_ints] at this
  exact this
end
end Mw

set_option Elab.async false
set_option linter.all false
set_option autoImplicit false
set_option maxRecDepth 100000
/-! PyB2: operators keep what PyB says. -/
namespace Mw
open PySem PySem.Spec PyProof.Rows L2
variable [Tbs]

structure Cond (K : PySem.W.Frag) (β : List Addr) (st : Sto) (H0 H : Hp) : Prop where
  sim : Sim K β st H
  ext : ∃ β0, Ext β0 H0 β H
def Res (K : PySem.W.Frag) (β : List Addr) (st : Sto) (H H0 : Hp) (r : RV) (Q : VK) : Prop :=
  ∀ v H', Ext β H β H' → Sim K β st H' → RRep K β H' H0 r v → Q v H'
section
variable {K : PySem.W.Frag} {β : List Addr} {st : Sto} {H H0 : Hp} {Q : VK} {r rx ry : RV} {xs ys : List D} {vs : List V} {d : D} {v x y : V}
theorem Cond.free (c : Cond K β st H0 H) {p : Addr} (h : H p = none) : H0 p = none := by
  obtain ⟨β0, e⟩ := c.ext
  exact e.free h fun hm => c.sim.off h (e.mem hm)
theorem Res.val (q : Res K β st H H0 (.val d) Q) (s : Sim K β st H) (h : Rep K β H d v) : Q v H := q v H Ext.refl s h
theorem Res.tup (q : Res K β st H H0 (.val (.tup xs)) Q) (s : Sim K β st H) {a : Addr} (h : SqU K H a vs) (h2 : RepL K β H xs vs) : Q (.ref a) H := q _ H Ext.refl s ⟨a, vs, rfl, h, h2⟩
theorem Res.tmp (q : Res K β st H H0 (.tmp xs) Q) (c : Cond K β st H0 H) (h : RepL K β H xs vs) : ∀ p, H p = none → Q (.ref p) (upd H p (.lst vs)) := fun p hp =>
  q _ _ (Ext.new hp) (c.sim.new hp) ⟨p, vs, rfl, upd_same, c.sim.off hp, c.free hp, RepL.mono c.sim (Ext.new hp) _ _ h⟩
theorem Res.newTup (q : Res K β st H H0 (.val (.tup xs)) Q) (s : Sim K β st H) (h : RepL K β H xs vs) : ∀ p, H p = none → Q (.ref p) (upd H p (.tup vs)) := fun p hp =>
  q _ _ (Ext.new hp) (s.new hp) ⟨p, vs, rfl, SqU.of upd_same, RepL.mono s (Ext.new hp) _ _ h⟩
theorem listOf_sq (s : Sim K β st H) (h : RRep K β H H0 rx x) (e : listOf st rx = some xs) : ∃ a vs, x = .ref a ∧ SqL K H a vs ∧ RepL K β H xs vs := by
  cases rx with
  | tmp zs =>
    simp only [listOf, Option.some.injEq] at e; subst e
    obtain ⟨a, vs, e1, h1, _, _, h2⟩ := h
    exact ⟨a, vs, e1, SqL.of h1, h2⟩
  | val d =>
    cases d with
    | rol zs =>
      simp only [listOf, Option.some.injEq] at e; subst e
      obtain ⟨a, vs, e1, h1, h2⟩ := h
      exact ⟨a, vs, e1, h1.sq, h2⟩
    | ref n =>
      simp only [listOf] at e
      split at e
      · rename_i zs hz
        simp only [Option.some.injEq] at e; subst e
        obtain ⟨a, h1, e1⟩ := h
        obtain ⟨vs, h2, h3⟩ := s.obj n a _ h1 hz
        exact ⟨a, vs, e1, SqL.of h2, h3⟩
      · cases e
    | _ => simp [listOf] at e
theorem seqOf_sq (s : Sim K β st H) (h : RRep K β H H0 rx x) (e : seqOf st rx = some xs) : ∃ a vs, x = .ref a ∧ (SqL K H a vs ∨ SqT K H a vs) ∧ RepL K β H xs vs := by
  cases rx with
  | tmp zs => obtain ⟨a, vs, h1, h2, h3⟩ := listOf_sq s h (show listOf st (.tmp zs) = some xs from e); exact ⟨a, vs, h1, .inl h2, h3⟩
  | val d =>
    cases d with
    | rol zs => obtain ⟨a, vs, h1, h2, h3⟩ := listOf_sq s h (show listOf st (.val (.rol zs)) = some xs from e); exact ⟨a, vs, h1, .inl h2, h3⟩
    | ref n => obtain ⟨a, vs, h1, h2, h3⟩ := listOf_sq s h (show listOf st (.val (.ref n)) = some xs from e); exact ⟨a, vs, h1, .inl h2, h3⟩
    | tup zs =>
      simp only [seqOf, Option.some.injEq] at e; subst e
      obtain ⟨a, vs, e1, h1, h2⟩ := h
      exact ⟨a, vs, e1, .inr h1.sq, h2⟩
    | _ => simp [seqOf] at e
theorem seqOf_sqU (s : Sim K β st H) (h : RRep K β H H0 rx x) (e : seqOf st rx = some xs) : ∃ a vs, x = .ref a ∧ (SqL K H a vs ∨ SqU K H a vs) ∧ RepL K β H xs vs := by
  by_cases ht : ∃ zs, rx = .val (.tup zs)
  · obtain ⟨zs, rfl⟩ := ht
    simp only [seqOf, Option.some.injEq] at e; subst e
    obtain ⟨a, vs, e1, h1, h2⟩ := h
    exact ⟨a, vs, e1, .inr h1, h2⟩
  · have e' : listOf st rx = some xs := by
      cases rx with
      | tmp zs => exact e
      | val d =>
        cases d with
        | tup zs => exact absurd ⟨zs, rfl⟩ ht
        | rol zs => exact e
        | ref n => exact e
        | _ => simp [seqOf] at e
    obtain ⟨a, vs, h1, h2, h3⟩ := listOf_sq s h e'
    exact ⟨a, vs, h1, .inl h2, h3⟩
theorem mutOf_lst (s : Sim K β st H) (h : RRep K β H H0 rx x) (e : mutOf st rx = some xs) : ∃ a vs, x = .ref a ∧ H a = some (.lst vs) ∧ RepL K β H xs vs := by
  cases rx with
  | tmp zs =>
    simp only [mutOf, Option.some.injEq] at e; subst e
    obtain ⟨a, vs, e1, h1, _, _, h2⟩ := h
    exact ⟨a, vs, e1, h1, h2⟩
  | val d =>
    cases d with
    | ref n =>
      simp only [mutOf] at e
      split at e
      · rename_i zs hz
        simp only [Option.some.injEq] at e; subst e
        obtain ⟨a, h1, e1⟩ := h
        obtain ⟨vs, h2, h3⟩ := s.obj n a _ h1 hz
        exact ⟨a, vs, e1, h2, h3⟩
      · cases e
    | _ => simp [mutOf] at e
theorem szOk_le {n : Nat} (h : szOk n = true) : n ≤ sizeLine := by rw [sizeLine_eq]; simpa [szOk] using h
end
/-- the reading of a two-place operation -/
def rOp (K : PySem.W.Frag) (f : Sto → RV → RV → Option RV) : R2 := fun x y H Q =>
  ∃ β st H0 rx ry r, Cond K β st H0 H ∧ RRep K β H H0 rx x ∧ RRep K β H H0 ry y ∧ f st rx ry = some r ∧ Res K β st H H0 r Q
section
variable {X : Cx}
/-- list + list, any two that can be read -/
theorem op_catL : OpR X (binaryOp .Add) (fun x y H Q => ∃ l b xs zs, x = .ref l ∧ y = .ref b ∧ SqL X.K H l xs ∧ SqL X.K H b zs ∧ xs.length + zs.length ≤ sizeLine ∧ ∀ p, H p = none → Q (.ref p) (upd H p (.lst (xs ++ zs)))) := by
  intro pins s σ H x y v u Q I rx ry h
  obtain ⟨l, b, xs, zs, rfl, rfl, hH, hB, hz, q⟩ := h
  cases rx
  cases ry
  obtain ⟨its, r1, ⟨⟨cls, dd, data, sl⟩, n, ho, hc, hd, hs⟩, z1⟩ := I.list hH
  obtain ⟨its2, r2, ⟨⟨cls2, dd2, data2, sl2⟩, n2, ho2, hc2, hd2, hs2⟩, z2⟩ := I.list hB
  simp only at hc hd hs hc2 hd2 hs2
  subst hc hd hs hc2 hd2 hs2
  have l1 := r1.length
  have l2 := r2.length
  refine concat_meets ⟨_, ho, rfl⟩ ⟨_, ho2, rfl⟩ noFill_list_add seq_list_add PySem.F.slot_list_add PySem.F.entry_list_add (PySem.F.args_list_add_2 _ _) (list_addW l b its.toArray its2.toArray n n2 none none sl sl2 (by simp; omega)) ⟨ho, ho2, ?_⟩
  have e : its.toArray ++ its2.toArray = (its ++ its2).toArray := by simp
  rw [e]
  exact ⟨.ref _, _, I.lnew (t' := s.toks) (r1.append r2) (by rw [List.length_append]; omega), rfl, q _ I.fresh⟩
theorem or_mono {f : Value → Value → Sem Value} {r r' : R2} (h : OpR X f r) (i : ∀ x y H Q, r' x y H Q → r x y H Q) : OpR X f r' := fun pins s σ H x y v u Q I rx ry q => h pins s σ H x y v u Q I rx ry (i x y H Q q)
theorem int2_ok {f : Value → Value → Sem Value} {o : Op} {C : Int → Int → Prop} {g : Int → Int → V}
    (h : OpR X f (rI C g)) (hi : ∀ i j k, intOp o i j = some k → C i j ∧ g i j = .int k) : OpR X f (rOp X.K fun _ => int2 o) := by
  refine or_mono h fun x y H Q hw => ?_
  obtain ⟨β, st, H0, rx, ry, r, c, hx, hy, e, q⟩ := hw
  cases rx with
  | tmp _ => simp [int2] at e
  | val dx =>
    cases dx with
    | int i =>
      cases ry with
      | tmp _ => simp [int2] at e
      | val dy =>
        cases dy with
        | int j =>
          simp only [int2, Option.map_eq_some_iff] at e
          obtain ⟨k, e1, rfl⟩ := e
          obtain ⟨h1, h2⟩ := hi i j k e1
          exact ⟨i, j, hx, hy, h1, by rw [h2]; exact q.val c.sim rfl⟩
        | _ => simp [int2] at e
    | _ => simp [int2] at e
theorem rI0_rI {g : Int → Int → V} {x y : V} {H : Hp} {Q : VK} (h : rI (fun _ _ => True) g x y H Q) : rI0 g x y H Q := by
  obtain ⟨i, j, a, b, _, q⟩ := h
  exact ⟨i, j, a, b, q⟩
def rBI (f : Int → Int → Int) : R2 := fun x y H Q => ∃ a b, x = .bl a ∧ y = .int b ∧ Q (.int (f (if a = true then 1 else 0) b)) H
theorem op_addB : OpR X (binaryOp .Add) (rBI fun i j => i + j) := by
  intro pins s σ H x y v u Q I rx ry h
  obtain ⟨a, b, rfl, rfl, q⟩ := h
  cases rx
  obtain ⟨t, rfl⟩ := ry
  exact PySem.IntBool.add_bool_int ⟨.int _, H, I.tok _, ⟨_, rfl⟩, q⟩
theorem op_subB : OpR X (binaryOp .Sub) (rBI fun i j => i - j) := by
  intro pins s σ H x y v u Q I rx ry h
  obtain ⟨a, b, rfl, rfl, q⟩ := h
  cases rx
  obtain ⟨t, rfl⟩ := ry
  exact PySem.IntBool.sub_bool_int ⟨.int _, H, I.tok _, ⟨_, rfl⟩, q⟩
theorem op_subB2 : OpR X (binaryOp .Sub) (fun x y H Q => ∃ a b, x = .int a ∧ y = .bl b ∧ Q (.int (a - (if b = true then 1 else 0))) H) := by
  intro pins s σ H x y v u Q I rx ry h
  obtain ⟨a, b, rfl, rfl, q⟩ := h
  obtain ⟨t, rfl⟩ := rx
  cases ry
  exact PySem.IntBool.sub_int_bool ⟨.int _, H, I.tok _, ⟨_, rfl⟩, q⟩
theorem op_addD : OpR X (binaryOp .Add) (rOp X.K fun st => addApp st) := by
  refine or_mono ((((op_add (X := X)).or op_addB).or op_add_str).or ((op_catA (X := X)).or op_catL)) fun x y H Q hw => ?_
  obtain ⟨β, st, H0, rx, ry, r, c, hx, hy, e, q⟩ := hw
  have lists : addL st rx ry = some r → (∃ l b xs zs, x = V.ref l ∧ y = V.ref b ∧ SqL X.K H l xs ∧ SqL X.K H b zs ∧ xs.length + zs.length ≤ sizeLine ∧ ∀ p, H p = none → Q (.ref p) (upd H p (.lst (xs ++ zs)))) := fun e => by
    unfold addL at e
    split at e
    · rename_i a b ea eb
      split at e
      · rename_i hs
        simp only [Option.some.injEq] at e; subst e
        obtain ⟨l, vs, h1, h2, h3⟩ := listOf_sq c.sim hx ea
        obtain ⟨l', ws, g1, g2, g3⟩ := listOf_sq c.sim hy eb
        refine ⟨l, l', vs, ws, h1, g1, h2, g2, ?_, q.tmp c (h3.append g3)⟩
        rw [← h3.length, ← g3.length]
        exact szOk_le hs
      · cases e
    · cases e
  unfold addApp at e
  dsimp only at e
  split at e
  · simp only [Option.some.injEq] at e; subst e
    exact .inl (.inl (.inl ⟨_, _, hx, hy, q.val c.sim rfl⟩))
  · simp only [Option.some.injEq] at e; subst e
    exact .inl (.inl (.inr ⟨_, _, hx, hy, q.val c.sim rfl⟩))
  · split at e
    · rename_i hs
      simp only [Option.some.injEq] at e; subst e
      exact .inl (.inr ⟨_, _, hx, hy, szOk_le hs, q.val c.sim rfl⟩)
    · cases e
  · rename_i a b
    split at e
    · rename_i hs
      simp only [Option.some.injEq] at e; subst e
      obtain ⟨l, vs, h1, h2, h3⟩ := hx
      obtain ⟨l', ws, g1, g2, g3⟩ := hy
      refine .inr (.inl ⟨l, l', vs, ws, h1, g1, h2.sq, g2.sq, ?_, fun ez => ?_, fun _ ez => ?_, fun _ _ => q.newTup c.sim (h3.append g3)⟩)
      · rw [← h3.length, ← g3.length]
        exact szOk_le hs
      · subst ez
        have : a = [] := List.length_eq_zero_iff.mp (by rw [h3.length]; rfl)
        subst this
        exact q.tup c.sim g2 (by simpa using g3)
      · subst ez
        have : b = [] := List.length_eq_zero_iff.mp (by rw [g3.length]; rfl)
        subst this
        exact q.tup c.sim h2 (by simpa using h3)
    · cases e
  · exact .inr (.inr (lists e))
theorem op_mulD : OpR X (binaryOp .Mult) (rOp X.K mulApp) := by
  refine or_mono ((op_mul (X := X)).or ((op_repT (X := X)).or op_rep)) fun x y H Q hw => ?_
  obtain ⟨β, st, H0, rx, ry, r, c, hx, hy, e, q⟩ := hw
  unfold mulApp at e
  split at e
  · split at e
    · rename_i hs
      simp only [Option.some.injEq] at e; subst e
      exact .inl ⟨_, _, hx, hy, show _ ∨ _ from of_decide_eq_true hs, q.val c.sim rfl⟩
    · cases e
  · rename_i a k
    split at e
    · rename_i hs
      simp only [Option.some.injEq] at e; subst e
      obtain ⟨s1, s2, s3, s4⟩ := of_decide_eq_true hs
      obtain ⟨l, vs, h1, h2, h3⟩ := hx
      refine .inr (.inl ⟨l, k, vs, h1, hy, h2.sq, fun z => s1 ?_, s2, s3, by rw [← h3.length]; exact s4, q.newTup c.sim (h3.rep k.toNat)⟩)
      subst z
      exact List.length_eq_zero_iff.mp (by rw [h3.length]; rfl)
    · cases e
  · rename_i k _ _
    split at e
    · rename_i a ea
      split at e
      · rename_i hs
        simp only [Option.some.injEq] at e; subst e
        simp only [Bool.and_eq_true, decide_eq_true_eq] at hs
        obtain ⟨l, vs, h1, h2, h3⟩ := mutOf_lst c.sim hx ea
        exact .inr (.inr ⟨l, k, vs, h1, hy, h2, by omega, by omega, by rw [← h3.length]; exact szOk_le hs.2, q.tmp c (h3.rep k.toNat)⟩)
      · cases e
    · cases e
  · cases e
/-- which of the model's operators an operator is -/
def opIs : Op → Operator → Bool
  | .add, .Add => true | .sub, .Sub => true | .mul, .Mult => true | .fdiv, .FloorDiv => true | .mod, .Mod => true | .pow, .Pow => true
  | .shl, .LShift => true | .shr, .RShift => true | .band, .BitAnd => true | .bor, .BitOr => true
  | _, _ => false
/-- // by a positive divisor, not small -/
def CDivW (i j : Int) : Prop := 0 < j ∧ j < 1000000000000000000000000000000
theorem op_fdivW : OpR X (binaryOp .FloorDiv) (rI CDivW fun i j => .int (i / j)) := opI fun i j _ _ _ _ _ hc q => by
  have h1 : (0 : Int) < j := hc.1
  have h2 : j < 1000000000000000000000000000000 := hc.2
  refine floordiv_int (by omega) (by rw [Int.fdiv_eq_ediv_of_nonneg i (by omega)]; exact q) (.inl (PyProof.noPylong_of_log2 ?_))
  have h0 : j.natAbs ≠ 0 := by omega
  exact Nat.lt_trans ((Nat.log2_lt h0).mpr (show j.natAbs < 2 ^ 100 by
    have : (1000000000000000000000000000000 : Nat) < 2 ^ 100 := by decide
    omega)) (by decide)
theorem op_ok {o : Op} {p : Operator} (h : opIs o p = true) : OpR X (binaryOp p) (rOp X.K fun st => binApp st o) := by
  have i0 : ∀ {f : Value → Value → Sem Value} {g : Int → Int → V}, OpR X f (rI0 g) → OpR X f (rI (fun _ _ => True) g) := fun h => or_mono h fun _ _ _ _ => rI0_rI
  cases o <;> cases p <;> first | cases h | skip
  · exact op_addD
  · refine or_mono (((int2_ok (o := .sub) (i0 op_sub) fun i j k e => ⟨trivial, by simp only [intOp, Option.some.injEq] at e; rw [e]⟩)).or (op_subB.or op_subB2)) fun x y H Q hw => ?_
    obtain ⟨β, st, H0, rx, ry, r, c, hx, hy, e, q⟩ := hw
    simp only [binApp] at e
    unfold subApp at e
    split at e
    · simp only [Option.some.injEq] at e; subst e
      exact .inr (.inl ⟨_, _, hx, hy, q.val c.sim rfl⟩)
    · simp only [Option.some.injEq] at e; subst e
      exact .inr (.inr ⟨_, _, hx, hy, q.val c.sim rfl⟩)
    · exact .inl ⟨β, st, H0, rx, ry, r, c, hx, hy, e, q⟩
  · exact op_mulD
  · refine int2_ok (o := .fdiv) op_fdivW fun i j k e => ?_
    simp only [intOp] at e
    split at e
    · rename_i hc
      simp only [Option.some.injEq] at e
      exact ⟨by simpa [CDivW] using hc, by rw [e]⟩
    · cases e
  · refine int2_ok (o := .mod) op_mod fun i j k e => ?_
    simp only [intOp] at e
    split at e
    · rename_i hc
      simp only [Option.some.injEq] at e
      exact ⟨by simpa [CDiv, CPow, powOk] using hc, by rw [e]⟩
    · cases e
  · refine int2_ok (o := .pow) op_pow fun i j k e => ?_
    simp only [intOp] at e
    split at e
    · rename_i hc
      simp only [Option.some.injEq] at e
      exact ⟨by simpa [CDiv, CPow, powOk] using hc, by rw [e]⟩
    · cases e
  · refine int2_ok (o := .shl) op_shl fun i j k e => ?_
    simp only [intOp] at e
    split at e
    · rename_i hc
      simp only [Option.some.injEq] at e
      exact ⟨by simpa [CDiv, CPow, powOk] using hc, by rw [e]⟩
    · cases e
  · refine int2_ok (o := .shr) op_shr fun i j k e => ?_
    simp only [intOp] at e
    split at e
    · rename_i hc
      simp only [Option.some.injEq] at e
      exact ⟨by simpa [CDiv, CPow, powOk] using hc, by rw [e]⟩
    · cases e
  · exact int2_ok (o := .band) (i0 op_and) fun i j k e => ⟨trivial, by simp only [intOp, Option.some.injEq] at e; rw [e]⟩
  · exact int2_ok (o := .bor) (i0 op_or) fun i j k e => ⟨trivial, by simp only [intOp, Option.some.injEq] at e; rw [e]⟩
end
end Mw

set_option Elab.async false
set_option linter.all false
set_option autoImplicit false
set_option maxRecDepth 100000
/-! PyB3: comparisons, subscripts, slices. -/
namespace Mw
open PySem PySem.Spec PyProof.Rows L2
variable [Tbs]
section
variable {K : PySem.W.Frag} {β : List Addr} {st : Sto} {H H0 : Hp} {Q : VK} {r rx ry : RV} {xs ys : List D} {vs : List V} {d : D} {v x y : V}
theorem strOk_of {s : Str} (h : (s.cps.all fun x => decide (x < 1114112)) = true) : PyData.strOk s = true := by
  unfold PyData.strOk
  exact h
/-- data read off: what the model's rules for == ask -/
theorem toPy_dp (s : Sim K β st H) : ∀ (k : Nat) (d : D) (p : PyData) (v : V), toPy st k d = some p → Rep K β H d v → Dp K H v p ∧ p.canLay0 = true ∧ p.depth ≤ k := by
  have leaf : ∀ (k : Nat) (d : D) (p : PyData) (v : V), (match d with
      | .non => some PyData.none
      | .bl b => some (.bool b)
      | .int i => some (.int i)
      | .str s => if (s.cps.all fun x => decide (x < 1114112)) = true then some (.str s) else none
      | _ => none) = some p → Rep K β H d v → Dp K H v p ∧ p.canLay0 = true ∧ p.depth ≤ k := by
    intro k d p v h r
    cases d with
    | non => simp only [Option.some.injEq] at h; subst h; cases r; exact ⟨.non, rfl, Nat.zero_le _⟩
    | bl b => simp only [Option.some.injEq] at h; subst h; cases r; exact ⟨.bl b, rfl, Nat.zero_le _⟩
    | int b => simp only [Option.some.injEq] at h; subst h; cases r; exact ⟨.int b, rfl, Nat.zero_le _⟩
    | str b =>
      simp only at h
      split at h
      · rename_i hs
        simp only [Option.some.injEq] at h; subst h; cases r
        exact ⟨.str b, by simpa [PyData.canLay0] using strOk_of hs, Nat.zero_le _⟩
      · cases h
    | _ => cases h
  intro k
  induction k with
  | zero => exact fun d p v h r => leaf 0 d p v h r
  | succ k ih =>
    have all : ∀ (xs : List D) (ps : List PyData) (vs : List V), mapO (toPy st k) xs = some ps → RepL K β H xs vs → DpAll K H vs ps ∧ PyData.canLayAll0 ps = true ∧ PyData.depthAll ps ≤ k := by
      intro xs
      induction xs with
      | nil =>
        intro ps vs h r
        simp only [mapO, Option.some.injEq] at h; subst h
        simp only [RepL] at r; subst r
        exact ⟨.nil, rfl, Nat.zero_le _⟩
      | cons x xs ihx =>
        intro ps vs h r
        obtain ⟨v, rs, rfl, h1, h2⟩ := r
        simp only [mapO] at h
        split at h
        · rename_i p hp
          split at h
          · rename_i qs hq
            simp only [Option.some.injEq] at h; subst h
            obtain ⟨a1, a2, a3⟩ := ih x p v hp h1
            obtain ⟨b1, b2, b3⟩ := ihx qs rs hq h2
            refine ⟨.cons a1 b1, ?_, ?_⟩
            · simp [PyData.canLayAll0, a2, b2]
            · simp only [PyData.depthAll]; omega
          · cases h
        · cases h
    intro d p v h r
    cases d with
    | tup xs =>
      simp only [toPy, Option.map_eq_some_iff] at h
      obtain ⟨ps, h1, rfl⟩ := h
      obtain ⟨a, vs, rfl, h2, h3⟩ := r
      obtain ⟨a1, a2, a3⟩ := all xs ps vs h1 h3
      exact ⟨.tup h2.sq a1, by simpa [PyData.canLay0] using a2, by simp only [PyData.depth]; omega⟩
    | rol xs =>
      simp only [toPy, Option.map_eq_some_iff] at h
      obtain ⟨ps, h1, rfl⟩ := h
      obtain ⟨a, vs, rfl, h2, h3⟩ := r
      obtain ⟨a1, a2, a3⟩ := all xs ps vs h1 h3
      exact ⟨.lst h2.sq a1, by simpa [PyData.canLay0] using a2, by simp only [PyData.depth]; omega⟩
    | ref n =>
      simp only [toPy] at h
      split at h
      · rename_i xs hx
        simp only [Option.map_eq_some_iff] at h
        obtain ⟨ps, h1, rfl⟩ := h
        obtain ⟨a, h2, rfl⟩ := r
        obtain ⟨vs, h3, h4⟩ := s.obj n a _ h2 hx
        obtain ⟨a1, a2, a3⟩ := all xs ps vs h1 h4
        exact ⟨.lst (SqL.of h3) a1, by simpa [PyData.canLay0] using a2, by simp only [PyData.depth]; omega⟩
      · cases h
    | non => exact leaf _ _ p v (by simpa [toPy] using h) r
    | bl b => exact leaf _ _ p v (by simpa [toPy] using h) r
    | int b => exact leaf _ _ p v (by simpa [toPy] using h) r
    | str b => exact leaf _ (.str b) p v (by simpa only [toPy] using h) r
theorem toPyL_dp (s : Sim K β st H) (k : Nat) : ∀ (xs : List D) (ps : List PyData) (vs : List V), mapO (toPy st k) xs = some ps → RepL K β H xs vs → DpAll K H vs ps ∧ PyData.canLayAll0 ps = true ∧ PyData.depthAll ps ≤ k := by
  intro xs
  induction xs with
  | nil =>
    intro ps vs h r
    simp only [mapO, Option.some.injEq] at h; subst h
    simp only [RepL] at r; subst r
    exact ⟨.nil, rfl, Nat.zero_le _⟩
  | cons x xs ihx =>
    intro ps vs h r
    obtain ⟨v, rs, rfl, h1, h2⟩ := r
    simp only [mapO] at h
    split at h
    · rename_i p hp
      split at h
      · rename_i qs hq
        simp only [Option.some.injEq] at h; subst h
        obtain ⟨a1, a2, a3⟩ := toPy_dp s k x p v hp h1
        obtain ⟨b1, b2, b3⟩ := ihx qs rs hq h2
        refine ⟨.cons a1 b1, ?_, ?_⟩
        · simp [PyData.canLayAll0, a2, b2]
        · simp only [PyData.depthAll]; omega
      · cases h
    · cases h
theorem shaped_of {p : PyData} (a : p.canLay0 = true) (b : p.depth ≤ 60) : SeqAt.shaped p = true := by
  unfold SeqAt.shaped
  rw [a, decide_eq_true (show p.depth ≤ 64 by omega)]
  rfl
theorem rvPy_dp (s : Sim K β st H) {p : PyData} (h : rvPy st rx = some p) (r : RRep K β H H0 rx x) : Dp K H x p ∧ SeqAt.shaped p = true := by
  cases rx with
  | val d =>
    obtain ⟨a, b, c⟩ := toPy_dp s 60 d p x h r
    exact ⟨a, shaped_of b c⟩
  | tmp xs =>
    simp only [rvPy, Option.map_eq_some_iff] at h
    obtain ⟨ps, h1, rfl⟩ := h
    obtain ⟨a, vs, rfl, h2, _, _, h3⟩ := r
    obtain ⟨a1, a2, a3⟩ := toPyL_dp s 59 xs ps vs h1 h3
    exact ⟨.lst (SqL.of h2) a1, shaped_of (by simpa [PyData.canLay0] using a2) (by simp only [PyData.depth]; omega)⟩
end
/-- an operation that answers a truth -/
def rBl (K : PySem.W.Frag) (f : Sto → RV → RV → Option Bool) : R2 := rOp K fun st x y => (f st x y).map fun b => .val (.bl b)
theorem rBl_out {K : PySem.W.Frag} {f : Sto → RV → RV → Option Bool} {x y : V} {H : Hp} {Q : VK} (h : rBl K f x y H Q) :
    ∃ β st H0 rx ry b, Sim K β st H ∧ RRep K β H H0 rx x ∧ RRep K β H H0 ry y ∧ f st rx ry = some b ∧ Q (.bl b) H := by
  obtain ⟨β, st, H0, rx, ry, r, c, hx, hy, e, q⟩ := h
  simp only [Option.map_eq_some_iff] at e
  obtain ⟨b, e1, rfl⟩ := e
  exact ⟨β, st, H0, rx, ry, b, c.sim, hx, hy, e1, q.val c.sim rfl⟩
section
variable {X : Cx}
def cmIs : Cm → CmpOp → Bool
  | .eq, .Eq => true | .ne, .NotEq => true | .lt, .Lt => true | .le, .LtE => true | .gt, .Gt => true | .ge, .GtE => true
  | .isin, .In => true | .notin, .NotIn => true | .isN, .Is => true | .notN, .IsNot => true
  | _, _ => false
/-- x in t, t a tuple of data -/
theorem op_inT (hu : X.A.units + 65 < cLine) : OpR X (compareOp .In) (fun x y H Q => ∃ d ds, Dp X.K H x d ∧ Dp X.K H y (.tuple ds) ∧ SeqAt.shaped d = true ∧ SeqAt.shaped (.tuple ds) = true ∧ Q (.bl (ds.any fun z => PyData.eqv z d)) H) := by
  intro pins s σ H x y v u Q I rx ry h
  obtain ⟨d, ds, hd, he, sd, se, q⟩ := h
  obtain ⟨as, r1⟩ := Dp.reads I d x v hd rx
  obtain ⟨bs, r2⟩ := Dp.reads I (.tuple ds) y u he ry
  exact SeqAt.in_tuple_reads r2 r1 (SeqAt.canLay_of_shaped se) (SeqAt.canLay_of_shaped sd) (room_in_shaped sd hu) ⟨.bl _, H, I, rfl, q⟩
theorem op_notInT (hu : X.A.units + 65 < cLine) : OpR X (compareOp .NotIn) (fun x y H Q => ∃ d ds, Dp X.K H x d ∧ Dp X.K H y (.tuple ds) ∧ SeqAt.shaped d = true ∧ SeqAt.shaped (.tuple ds) = true ∧ Q (.bl (!ds.any fun z => PyData.eqv z d)) H) := by
  intro pins s σ H x y v u Q I rx ry h
  obtain ⟨d, ds, hd, he, sd, se, q⟩ := h
  obtain ⟨as, r1⟩ := Dp.reads I d x v hd rx
  obtain ⟨bs, r2⟩ := Dp.reads I (.tuple ds) y u he ry
  exact SeqAt.notIn_tuple_reads r2 r1 (SeqAt.canLay_of_shaped se) (SeqAt.canLay_of_shaped sd) (room_in_shaped sd hu) ⟨.bl _, H, I, rfl, q⟩
theorem op_inDic (hu : X.A.units + 65 < cLine) : OpR X (compareOp .In) (fun x y H Q => ∃ a o, y = .ref a ∧ DGet H a x o ∧ Q (.bl o.isSome) H) := by
  intro pins s σ H x y v u Q I rx ry h
  obtain ⟨a, o, rfl, g, q⟩ := h
  obtain rfl : u = Value.ref a := ry
  exact d_in (by omega) I g rx fun s' I' => ⟨.bl o.isSome, H, I', rfl, q⟩
theorem op_notInDic (hu : X.A.units + 65 < cLine) : OpR X (compareOp .NotIn) (fun x y H Q => ∃ a o, y = .ref a ∧ DGet H a x o ∧ Q (.bl (!o.isSome)) H) := by
  intro pins s σ H x y v u Q I rx ry h
  obtain ⟨a, o, rfl, g, q⟩ := h
  obtain rfl : u = Value.ref a := ry
  exact d_notIn (by omega) I g rx fun s' I' => ⟨.bl (!o.isSome), H, I', rfl, q⟩
theorem inApp_out {K : PySem.W.Frag} {β : List Addr} {st : Sto} {H H0 : Hp} {rx ry : RV} {x y : V} {b : Bool} (s : Sim K β st H) (hx : RRep K β H H0 rx x) (hy : RRep K β H H0 ry y) (e : inApp st rx ry = some b) :
    (∃ i j, x = .str i ∧ y = .str j ∧ b = !(Builtin.Str.occurrences j i 0 j.length 1).isEmpty) ∨
    (∃ d ds, Dp K H x d ∧ Dp K H y (.list ds) ∧ SeqAt.shaped d = true ∧ SeqAt.shaped (.list ds) = true ∧ b = ds.any fun z => PyData.eqv z d) ∨
    (∃ d ds, Dp K H x d ∧ Dp K H y (.tuple ds) ∧ SeqAt.shaped d = true ∧ SeqAt.shaped (.tuple ds) = true ∧ b = ds.any fun z => PyData.eqv z d) ∨
    (∃ a o, y = .ref a ∧ DGet H a x o ∧ b = o.isSome) := by
  have go : ∀ {zs : List D} {ws : List V}, RepL K β H zs ws → (match rvPy st rx, mapO (toPy st 59) zs with
      | some p, some qs => some (qs.any fun q => PyData.eqv q p)
      | _, _ => none) = some b → ∃ d ds, Dp K H x d ∧ DpAll K H ws ds ∧ SeqAt.shaped d = true ∧ SeqAt.shaped (.list ds) = true ∧ SeqAt.shaped (.tuple ds) = true ∧ b = ds.any fun z => PyData.eqv z d := by
    intro zs ws hz h
    split at h
    · rename_i p qs hp hq
      simp only [Option.some.injEq] at h; subst h
      obtain ⟨a1, a2⟩ := rvPy_dp s hp hx
      obtain ⟨b1, b2, b3⟩ := toPyL_dp s 59 zs qs ws hq hz
      exact ⟨p, qs, a1, b1, a2, shaped_of (by simpa [PyData.canLay0] using b2) (by simp only [PyData.depth]; omega), shaped_of (by simpa [PyData.canLay0] using b2) (by simp only [PyData.depth]; omega), rfl⟩
    · cases h
  cases ry with
  | tmp zs =>
    obtain ⟨a, ws, rfl, h1, _, _, h2⟩ := hy
    obtain ⟨d, ds, g1, g2, g3, g4, _, g5⟩ := go h2 e
    exact .inr (.inl ⟨d, ds, g1, .lst (SqL.of h1) g2, g3, g4, g5⟩)
  | val dy =>
    cases dy with
    | str j =>
      cases rx with
      | tmp _ => cases e
      | val dx =>
        cases dx with
        | str i =>
          simp only [inApp, Option.some.injEq] at e
          exact .inl ⟨i, j, hx, hy, e.symm⟩
        | _ => cases e
    | tup zs =>
      obtain ⟨a, ws, rfl, h1, h2⟩ := hy
      obtain ⟨d, ds, g1, g2, g3, _, g4, g5⟩ := go h2 e
      exact .inr (.inr (.inl ⟨d, ds, g1, .tup h1.sq g2, g3, g4, g5⟩))
    | rol zs =>
      obtain ⟨a, ws, rfl, h1, h2⟩ := hy
      obtain ⟨d, ds, g1, g2, g3, g4, _, g5⟩ := go h2 e
      exact .inr (.inl ⟨d, ds, g1, .lst h1.sq g2, g3, g4, g5⟩)
    | ref n =>
      obtain ⟨a, h1, rfl⟩ := hy
      simp only [inApp] at e
      split at e
      · rename_i lk kvs hk
        split at e
        · rename_i k
          split at e
          · rename_i hkk
            simp only [Option.some.injEq] at e; subst e
            obtain ⟨o, g1, g2⟩ := dic_get s h1 hk hkk hx
            exact .inr (.inr (.inr ⟨a, o, rfl, g1, g2.some_eq⟩))
          · cases e
        · cases e
      · rename_i lk kvs hk
        split at e
        · rename_i k
          split at e
          · rename_i hkk
            simp only [Option.some.injEq] at e; subst e
            obtain ⟨o, g1, g2⟩ := dit_get s h1 hk hkk hx
            exact .inr (.inr (.inr ⟨a, o, rfl, g1, g2.some_eq⟩))
          · cases e
        · cases e
      · rename_i zs hz
        obtain ⟨ws, h3, h4⟩ := s.obj n a _ h1 hz
        obtain ⟨d, ds, g1, g2, g3, g4, _, g5⟩ := go h4 e
        exact .inr (.inl ⟨d, ds, g1, .lst (SqL.of h3) g2, g3, g4, g5⟩)
      · cases e
    | _ => cases e
theorem isNon_iff {K : PySem.W.Frag} {β : List Addr} {H H0 : Hp} {rx : RV} {x : V} (h : RRep K β H H0 rx x) : isNon rx = decide (x = .non) := by
  cases rx with
  | tmp zs => obtain ⟨a, vs, rfl, _⟩ := h; rfl
  | val d =>
    cases d with
    | non => cases h; rfl
    | bl _ => cases h; rfl
    | int _ => cases h; rfl
    | str _ => cases h; rfl
    | tup _ => obtain ⟨a, vs, rfl, _⟩ := h; rfl
    | rol _ => obtain ⟨a, vs, rfl, _⟩ := h; rfl
    | ref _ => obtain ⟨a, _, rfl⟩ := h; rfl
theorem intsOf_eq : ∀ {xs : List D} {ns : List Int}, intsOf xs = some ns → xs = ns.map .int
  | [], ns, h => by simp only [intsOf, mapO, Option.some.injEq] at h; subst h; rfl
  | x :: xs, ns, h => by
    simp only [intsOf, mapO] at h
    split at h
    · rename_i y hy
      split at h
      · rename_i ys hys
        simp only [Option.some.injEq] at h; subst h
        cases x with
        | int i => simp only [Option.some.injEq] at hy; subst hy; rw [List.map_cons, intsOf_eq hys]
        | _ => cases hy
      · cases h
    · cases h
theorem RepL.ints {K : PySem.W.Frag} {β : List Addr} {H : Hp} : ∀ {ns : List Int} {vs : List V}, RepL K β H (ns.map .int) vs → vs = ns.map V.int
  | [], vs, h => h
  | n :: ns, vs, h => by
    obtain ⟨v, r, rfl, h1, h2⟩ := h
    rw [List.map_cons, RepL.ints h2, show v = .int n from h1]
/-- rows of unlike lengths -/
def LenR (K : PySem.W.Frag) (H : Hp) (x y : V) : Prop :=
  (∃ a b xs ys, x = .ref a ∧ y = .ref b ∧ SqL K H a xs ∧ SqL K H b ys ∧ xs.length ≠ ys.length) ∨
  (∃ a b xs ys, x = .ref a ∧ y = .ref b ∧ SqT K H a xs ∧ SqT K H b ys ∧ xs.length ≠ ys.length ∧ (xs = [] ∨ ys = []))
theorem op_eqL (hu : X.A.units + 65 < cLine) : OpR X (compareOp .Eq) (fun x y H Q => LenR X.K H x y ∧ Q (.bl false) H) := by
  intro pins s σ H x y v u Q I rx ry h
  obtain ⟨h, q⟩ := h
  rcases h with ⟨a, b, xs, ys, rfl, rfl, ha, hb, hl⟩ | ⟨a, b, xs, ys, rfl, rfl, ha, hb, hl, he⟩
  · cases (show v = Value.ref a from rx)
    cases (show u = Value.ref b from ry)
    obtain ⟨us, r1, p1, _⟩ := I.list ha
    obtain ⟨ws, r2, p2, _⟩ := I.list hb
    refine SeqAt.eq_list_lengthsAt p1.isList p2.isList ?_ (by omega) ⟨.bl false, H, I, rfl, q⟩
    rw [bne_iff_ne, List.size_toArray, List.size_toArray, ← r1.length, ← r2.length]
    exact hl
  · cases (show v = Value.ref a from rx)
    cases (show u = Value.ref b from ry)
    obtain ⟨us, r1, p1, _⟩ := I.tuple ha
    obtain ⟨ws, r2, p2, _⟩ := I.tuple hb
    have e1 : us.toArray.size = xs.length := by rw [List.size_toArray, ← r1.length]
    have e2 : ws.toArray.size = ys.length := by rw [List.size_toArray, ← r2.length]
    have hm : min us.toArray.size ws.toArray.size = 0 := by
      rcases he with rfl | rfl
      · rw [e1]; simp
      · rw [e2]; simp
    have hr := SeqAt.RcAt.tuples (s := s) (A := X.A) (e := fun _ => true) p1 p2 (by omega) fun j h1 h2 => by omega
    have hb2 : ((List.range (min us.toArray.size ws.toArray.size)).all (fun _ => true) && us.toArray.size == ws.toArray.size) = false := by
      rw [hm, e1, e2]
      simpa using hl
    rw [hb2] at hr
    exact hr _ _ _ _ ⟨.bl false, H, I, rfl, q⟩
theorem op_neL (hu : X.A.units + 65 < cLine) : OpR X (compareOp .NotEq) (fun x y H Q => LenR X.K H x y ∧ Q (.bl true) H) := by
  intro pins s σ H x y v u Q I rx ry h
  obtain ⟨h, q⟩ := h
  rcases h with ⟨a, b, xs, ys, rfl, rfl, ha, hb, hl⟩ | ⟨a, b, xs, ys, rfl, rfl, ha, hb, hl, he⟩
  · cases (show v = Value.ref a from rx)
    cases (show u = Value.ref b from ry)
    obtain ⟨us, r1, p1, _⟩ := I.list ha
    obtain ⟨ws, r2, p2, _⟩ := I.list hb
    refine SeqAt.RcNeAt.lists_lengths p1.isList p2.isList ?_ (by omega) _ _ _ _ ⟨.bl true, H, I, rfl, q⟩
    rw [bne_iff_ne, List.size_toArray, List.size_toArray, ← r1.length, ← r2.length]
    exact hl
  · cases (show v = Value.ref a from rx)
    cases (show u = Value.ref b from ry)
    obtain ⟨us, r1, p1, _⟩ := I.tuple ha
    obtain ⟨ws, r2, p2, _⟩ := I.tuple hb
    have e1 : us.toArray.size = xs.length := by rw [List.size_toArray, ← r1.length]
    have e2 : ws.toArray.size = ys.length := by rw [List.size_toArray, ← r2.length]
    have hm : min us.toArray.size ws.toArray.size = 0 := by
      rcases he with rfl | rfl
      · rw [e1]; simp
      · rw [e2]; simp
    have hr := SeqAt.RcNeAt.tuples (s := s) (A := X.A) (e := fun _ => true) p1 p2 (by omega) fun j h1 h2 => by omega
    have hb2 : (!((List.range (min us.toArray.size ws.toArray.size)).all (fun _ => true) && us.toArray.size == ws.toArray.size)) = true := by
      rw [hm, e1, e2]
      simpa using hl
    rw [hb2] at hr
    exact hr _ _ _ _ ⟨.bl true, H, I, rfl, q⟩
theorem lenEq_out {K : PySem.W.Frag} {β : List Addr} {st : Sto} {H H0 : Hp} {rx ry : RV} {x y : V} {b : Bool} (s : Sim K β st H) (hx : RRep K β H H0 rx x) (hy : RRep K β H H0 ry y) (e : lenEq st rx ry = some b) : b = false ∧ LenR K H x y := by
  unfold lenEq at e
  split at e
  · rename_i xs ys
    split at e
    · rename_i hne
      simp only [Option.some.injEq] at e; subst e
      obtain ⟨a, vs, rfl, h1, h2⟩ := hx
      obtain ⟨a', vs', rfl, g1, g2⟩ := hy
      have l1 := h2.length
      have l2 := g2.length
      refine ⟨rfl, .inr ⟨a, a', vs, vs', rfl, rfl, h1.sq, g1.sq, ?_, ?_⟩⟩
      · cases xs <;> cases ys <;> simp_all <;> omega
      · cases xs with
        | nil => left; exact List.eq_nil_of_length_eq_zero (by simp at l1; omega)
        | cons _ _ => cases ys with
          | nil => right; exact List.eq_nil_of_length_eq_zero (by simp at l2; omega)
          | cons _ _ => simp at hne
    · cases e
  · split at e
    · rename_i xs ys h1 h2
      split at e
      · rename_i hne
        simp only [Option.some.injEq] at e; subst e
        obtain ⟨a, vs, rfl, p1, p2⟩ := listOf_sq s hx h1
        obtain ⟨a', vs', rfl, q1, q2⟩ := listOf_sq s hy h2
        have := of_decide_eq_true hne
        exact ⟨rfl, .inl ⟨a, a', vs, vs', rfl, rfl, p1, q1, by rw [← p2.length, ← q2.length]; exact this⟩⟩
      · cases e
    · cases e
theorem pyEq_out {K : PySem.W.Frag} {β : List Addr} {st : Sto} {H H0 : Hp} {rx ry : RV} {x y : V} {b : Bool} (s : Sim K β st H) (hx : RRep K β H H0 rx x) (hy : RRep K β H H0 ry y) (e : pyEq st rx ry = some b) :
    (∃ p q, Dp K H x p ∧ Dp K H y q ∧ SeqAt.shaped p = true ∧ SeqAt.shaped q = true ∧ b = PyData.eqv p q) ∨ (b = false ∧ LenR K H x y) := by
  unfold pyEq orE at e
  split at e
  · rename_i c hc
    simp only [Option.some.injEq] at e; subst e
    unfold pyEqD at hc
    split at hc
    · rename_i p q' hp hq
      simp only [Option.some.injEq] at hc; subst hc
      obtain ⟨a1, a2⟩ := rvPy_dp s hp hx
      obtain ⟨b1, b2⟩ := rvPy_dp s hq hy
      exact .inl ⟨p, q', a1, b1, a2, b2, rfl⟩
    · cases hc
  · exact .inr (lenEq_out s hx hy e)
/-- THE COMPARISONS -/
theorem cm_ok {o : Cm} {p : CmpOp} (h : cmIs o p = true) (hu : X.A.units + 65 < cLine) : OpR X (compareOp p) (rBl X.K fun st => cmpApp st o) := by
  cases o <;> cases p <;> first | cases h | skip
  · refine or_mono ((op_eqD (X := X) (by omega)).or (op_eqL hu)) fun x y H Q hw => ?_
    obtain ⟨β, st, H0, rx, ry, b, s, hx, hy, e, q⟩ := rBl_out hw
    rcases pyEq_out s hx hy (show pyEq st rx ry = some b from e) with ⟨p, q', a1, b1, a2, b2, rfl⟩ | ⟨rfl, h⟩
    · exact .inl ⟨p, q', a1, b1, a2, b2, q⟩
    · exact .inr ⟨h, q⟩
  · refine or_mono ((op_neD (X := X) (by omega)).or (op_neL hu)) fun x y H Q hw => ?_
    obtain ⟨β, st, H0, rx, ry, b, s, hx, hy, e, q⟩ := rBl_out hw
    simp only [cmpApp, Option.map_eq_some_iff] at e
    obtain ⟨c, e, rfl⟩ := e
    rcases pyEq_out s hx hy e with ⟨p, q', a1, b1, a2, b2, rfl⟩ | ⟨rfl, h⟩
    · exact .inl ⟨p, q', a1, b1, a2, b2, q⟩
    · exact .inr ⟨h, q⟩
  · refine or_mono ((op_lt (X := X)).or (op_lt_str.or (op_ltT (by omega)))) fun x y H Q hw => ?_
    obtain ⟨β, st, H0, rx, ry, b, s, hx, hy, e, q⟩ := rBl_out hw
    simp only [cmpApp] at e
    split at e
    · simp only [Option.some.injEq] at e; subst e
      exact .inl ⟨_, _, hx, hy, q⟩
    · simp only [Option.some.injEq] at e; subst e
      exact .inr (.inl ⟨_, _, hx, hy, q⟩)
    · split at e
      · rename_i ns ms hn hm
        simp only [Option.some.injEq] at e; subst e
        obtain ⟨a, vs, h1, h2, h3⟩ := hx
        obtain ⟨a', vs', g1, g2, g3⟩ := hy
        have e1 := intsOf_eq hn
        have e2 := intsOf_eq hm
        subst e1 e2
        rw [RepL.ints h3] at h2
        rw [RepL.ints g3] at g2
        exact .inr (.inr ⟨a, a', ns, ms, h1, g1, h2.sq, g2.sq, q⟩)
      · cases e
    · cases e
  · refine or_mono ((op_le (X := X)).or op_le_str) fun x y H Q hw => ?_
    obtain ⟨β, st, H0, rx, ry, b, s, hx, hy, e, q⟩ := rBl_out hw
    simp only [cmpApp] at e
    split at e
    · simp only [Option.some.injEq] at e; subst e
      exact .inl ⟨_, _, hx, hy, q⟩
    · simp only [Option.some.injEq] at e; subst e
      exact .inr ⟨_, _, hx, hy, q⟩
    · cases e
  · refine or_mono ((op_gt (X := X)).or op_gt_str) fun x y H Q hw => ?_
    obtain ⟨β, st, H0, rx, ry, b, s, hx, hy, e, q⟩ := rBl_out hw
    simp only [cmpApp] at e
    split at e
    · simp only [Option.some.injEq] at e; subst e
      exact .inl ⟨_, _, hx, hy, q⟩
    · simp only [Option.some.injEq] at e; subst e
      exact .inr ⟨_, _, hx, hy, q⟩
    · cases e
  · refine or_mono ((op_ge (X := X)).or op_ge_str) fun x y H Q hw => ?_
    obtain ⟨β, st, H0, rx, ry, b, s, hx, hy, e, q⟩ := rBl_out hw
    simp only [cmpApp] at e
    split at e
    · simp only [Option.some.injEq] at e; subst e
      exact .inl ⟨_, _, hx, hy, q⟩
    · simp only [Option.some.injEq] at e; subst e
      exact .inr ⟨_, _, hx, hy, q⟩
    · cases e
  · refine or_mono ((op_in_str (X := X)).or ((op_inD hu).or ((op_inT hu).or (op_inDic hu)))) fun x y H Q hw => ?_
    obtain ⟨β, st, H0, rx, ry, b, s, hx, hy, e, q⟩ := rBl_out hw
    rcases inApp_out s hx hy (show inApp st rx ry = some b from e) with ⟨i, j, h1, h2, rfl⟩ | ⟨d, ds, h1, h2, h3, h4, rfl⟩ | ⟨d, ds, h1, h2, h3, h4, rfl⟩ | ⟨a, oo, h1, h2, rfl⟩
    · exact .inl ⟨i, j, h1, h2, q⟩
    · exact .inr (.inl ⟨d, ds, h1, h2, h3, h4, q⟩)
    · exact .inr (.inr (.inl ⟨d, ds, h1, h2, h3, h4, q⟩))
    · exact .inr (.inr (.inr ⟨a, oo, h1, h2, q⟩))
  · refine or_mono ((op_notin_str (X := X)).or ((op_notInD hu).or ((op_notInT hu).or (op_notInDic hu)))) fun x y H Q hw => ?_
    obtain ⟨β, st, H0, rx, ry, b, s, hx, hy, e, q⟩ := rBl_out hw
    simp only [cmpApp, Option.map_eq_some_iff] at e
    obtain ⟨b', e, rfl⟩ := e
    rcases inApp_out s hx hy e with ⟨i, j, h1, h2, rfl⟩ | ⟨d, ds, h1, h2, h3, h4, rfl⟩ | ⟨d, ds, h1, h2, h3, h4, rfl⟩ | ⟨a, oo, h1, h2, rfl⟩
    · exact .inl ⟨i, j, h1, h2, q⟩
    · exact .inr (.inl ⟨d, ds, h1, h2, h3, h4, q⟩)
    · exact .inr (.inr (.inl ⟨d, ds, h1, h2, h3, h4, q⟩))
    · exact .inr (.inr (.inr ⟨a, oo, h1, h2, q⟩))
  · refine or_mono ((op_isN (X := X)).or op_is_bl) fun x y H Q hw => ?_
    obtain ⟨β, st, H0, rx, ry, b, s, hx, hy, e, q⟩ := rBl_out hw
    simp only [cmpApp] at e
    split at e
    · split at e
      · simp only [Option.some.injEq] at e; subst e
        exact .inr ⟨_, _, hx, hy, q⟩
      · cases e
    · split at e
      · rename_i hn
        simp only [Option.some.injEq] at e; subst e
        rw [isNon_iff hy] at hn
        rw [isNon_iff hx] at q
        exact .inl ⟨of_decide_eq_true hn, q⟩
      · cases e
  · refine or_mono ((op_notN (X := X)).or op_isnot_bl) fun x y H Q hw => ?_
    obtain ⟨β, st, H0, rx, ry, b, s, hx, hy, e, q⟩ := rBl_out hw
    simp only [cmpApp] at e
    split at e
    · split at e
      · simp only [Option.some.injEq] at e; subst e
        exact .inr ⟨_, _, hx, hy, q⟩
      · cases e
    · split at e
      · rename_i hn
        simp only [Option.some.injEq] at e; subst e
        rw [isNon_iff hy] at hn
        rw [isNon_iff hx] at q
        exact .inl ⟨of_decide_eq_true hn, q⟩
      · cases e
end
end Mw

set_option Elab.async false
set_option linter.all false
set_option autoImplicit false
set_option maxRecDepth 100000
/-! PyB4: subscripts, slices, truth, built-in calls, methods, stores. -/
namespace Mw
open PySem PySem.Spec PyProof.Rows L2
variable [Tbs]
section
variable {K : PySem.W.Frag} {β : List Addr} {st : Sto} {H H0 : Hp} {Q : VK} {r rx ry : RV} {xs ys : List D} {vs : List V} {d : D} {v x y : V}
theorem RepL.atI {i : Int} (h : RepL K β H xs vs) (e : L2.atI xs i = some d) : ∃ v, L2.atI vs i = some v ∧ Rep K β H d v := by
  unfold L2.atI at e ⊢
  rw [h.length] at e
  cases hi : ixN vs.length i with
  | none => rw [hi] at e; cases e
  | some j =>
    rw [hi] at e
    exact h.get (show xs[j]? = some d from e)
theorem RepL.cut (h : RepL K β H xs vs) (lo hi : Option Int) : RepL K β H (cutD xs lo hi) (cutV vs lo hi) := by
  unfold cutD cutV
  rw [h.length]
  exact (h.drop _).take _
theorem truth_ok (s : Sim K β st H) (hx : RRep K β H H0 rx x) {b : Bool} (e : truth st rx = some b) : TruV K x H b := by
  have iso : ∀ {zs : List D} {ws : List V}, RepL K β H zs ws → (!zs.isEmpty) = !ws.isEmpty := fun {zs ws} h => by
    have := h.length
    cases zs <;> cases ws <;> simp_all
  cases rx with
  | tmp zs =>
    obtain ⟨a, ws, rfl, h1, _, _, h2⟩ := hx
    simp only [truth, Option.some.injEq] at e; subst e
    exact .inl ⟨ws, SqL.of h1, iso h2⟩
  | val d =>
    cases d with
    | non => cases hx; simp only [truth, Option.some.injEq] at e; exact e.symm
    | bl b => cases hx; simp only [truth, Option.some.injEq] at e; exact e.symm
    | int b => cases hx; simp only [truth, Option.some.injEq] at e; exact e.symm
    | str z =>
      cases hx
      simp only [truth] at e
      split at e
      · rename_i hs
        simp only [Option.some.injEq] at e; subst e
        refine ⟨szOk_le hs, ?_⟩
        cases h : z.length with
        | zero => rfl
        | succ n => simp; omega
      · cases e
    | tup zs =>
      obtain ⟨a, ws, rfl, h1, h2⟩ := hx
      simp only [truth, Option.some.injEq] at e; subst e
      exact .inr (.inl ⟨ws, h1.sq, iso h2⟩)
    | rol zs =>
      obtain ⟨a, ws, rfl, h1, h2⟩ := hx
      simp only [truth, Option.some.injEq] at e; subst e
      exact .inl ⟨ws, h1.sq, iso h2⟩
    | ref n =>
      obtain ⟨a, h1, rfl⟩ := hx
      simp only [truth] at e
      split at e
      · rename_i zs hz
        simp only [Option.some.injEq] at e; subst e
        obtain ⟨ws, h3, h4⟩ := s.obj n a _ h1 hz
        exact .inl ⟨ws, SqL.of h3, iso h4⟩
      · rename_i kvs hk
        simp only [Option.some.injEq] at e; subst e
        obtain ⟨ks, h3, h4, h5⟩ := s.obj n a _ h1 hk
        refine .inr (.inr ⟨ks, h3, ?_⟩)
        have := h4.length
        cases kvs <;> cases ks <;> simp_all
      · cases e
/-- what a subscript reads -/
theorem idx_out (c : Cond K β st H0 H) (hx : RRep K β H H0 rx x) (hy : RRep K β H H0 ry y) (e : idxApp st rx ry = some r) (q : Res K β st H H0 r Q) : rIx K x y H Q ∨ ∃ a v, x = .ref a ∧ DGet H a y (some v) ∧ Q v H := by
  unfold idxApp at e
  split at e
  · rename_i i
    have hyi : y = .int i := hy
    subst hyi
    cases rx with
    | tmp zs =>
      obtain ⟨a, ws, rfl, h1, _, _, h2⟩ := hx
      simp only [Option.map_eq_some_iff] at e
      obtain ⟨d, e1, rfl⟩ := e
      obtain ⟨v, g1, g2⟩ := h2.atI e1
      exact .inl (.inl ⟨a, ws, i, v, rfl, rfl, SqL.of h1, g1, q.val c.sim g2⟩)
    | val dx =>
      cases dx with
      | str z =>
        simp only at e
        split at e
        · rename_i hs
          simp only [Option.map_eq_some_iff] at e
          obtain ⟨cc, e1, rfl⟩ := e
          exact .inl (.inr (.inr ⟨z, i, cc, hx, rfl, szOk_le hs, e1, q.val c.sim rfl⟩))
        · cases e
      | tup zs =>
        obtain ⟨a, ws, rfl, h1, h2⟩ := hx
        simp only [Option.map_eq_some_iff] at e
        obtain ⟨d, e1, rfl⟩ := e
        obtain ⟨v, g1, g2⟩ := h2.atI e1
        exact .inl (.inr (.inl ⟨a, ws, i, v, rfl, rfl, h1.sq, g1, q.val c.sim g2⟩))
      | rol zs =>
        obtain ⟨a, ws, rfl, h1, h2⟩ := hx
        simp only [Option.map_eq_some_iff] at e
        obtain ⟨d, e1, rfl⟩ := e
        obtain ⟨v, g1, g2⟩ := h2.atI e1
        exact .inl (.inl ⟨a, ws, i, v, rfl, rfl, h1.sq, g1, q.val c.sim g2⟩)
      | ref n =>
        obtain ⟨a, h1, rfl⟩ := hx
        simp only at e
        split at e
        · rename_i zs hz
          simp only [Option.map_eq_some_iff] at e
          obtain ⟨d, e1, rfl⟩ := e
          obtain ⟨ws, h3, h4⟩ := c.sim.obj n a _ h1 hz
          obtain ⟨v, g1, g2⟩ := h4.atI e1
          exact .inl (.inl ⟨a, ws, i, v, rfl, rfl, SqL.of h3, g1, q.val c.sim g2⟩)
        · rename_i lk kvs hk
          simp only [Option.map_eq_some_iff] at e
          obtain ⟨d, e1, rfl⟩ := e
          obtain ⟨o, g1, g2⟩ := dic_get c.sim h1 hk (k := .int i) rfl rfl
          rw [e1] at g2
          cases o with
          | none => exact g2.elim
          | some v => exact .inr ⟨a, v, rfl, g1, q.val c.sim g2⟩
        · cases e
      | _ => cases e
  · rename_i k _
    cases rx with
    | tmp zs => cases e
    | val dx =>
      cases dx with
      | ref n =>
        obtain ⟨a, h1, rfl⟩ := hx
        simp only at e
        split at e
        · rename_i lk kvs hk
          split at e
          · rename_i hkk
            simp only [Option.map_eq_some_iff] at e
            obtain ⟨d, e1, rfl⟩ := e
            obtain ⟨o, g1, g2⟩ := dic_get c.sim h1 hk hkk hy
            rw [e1] at g2
            cases o with
            | none => exact g2.elim
            | some v => exact .inr ⟨a, v, rfl, g1, q.val c.sim g2⟩
          · cases e
        · rename_i lk kvs hk
          split at e
          · rename_i hkk
            simp only [Option.map_eq_some_iff] at e
            obtain ⟨d, e1, rfl⟩ := e
            obtain ⟨o, g1, g2⟩ := dit_get c.sim h1 hk hkk hy
            rw [e1] at g2
            cases o with
            | none => exact g2.elim
            | some v => exact .inr ⟨a, v, rfl, g1, q.val c.sim g2⟩
          · cases e
        · cases e
      | _ => cases e
  · cases e
end
section
variable {X : Cx}
/-- d[k] -/
theorem ix_dic (hu : X.A.units + 65 < cLine) : IxR X (fun x y H Q => ∃ a v, x = .ref a ∧ DGet H a y (some v) ∧ Q v H) := fun value slice pins s σ H x y v u Q I rx ry h hs => by
  obtain ⟨a, w, rfl, g, q⟩ := h
  obtain rfl : v = Value.ref a := rx
  unfold subscriptTail
  refine wpAny_bind ?_
  have hT := dict_typeIs I g
  rw [getitemInPython_of_ne hT.not_modules]
  refine wpAny_bind (wpAny_specialOf hT PySem.F.slot_dict_getitem.lookup ?_)
  have fin : wpAny (model X.prog X.w) X.A (subscripted slice false (.ref a) u) (fun r s₃ => wpAny (model X.prog X.w) X.A (letTemporaryGo value (.ref a) r >>= fun _ => pure r) (EP X pins σ Q) X.xe s₃) X.xe s := by
    rw [hs]
    exact wpAny_operating (d_getItem (by omega) I g ry fun w' s3 I3 rw' => wpAny_bind (wpAny_letTemporaryGo (wpAny_pure ⟨w, H, I3, rw', q⟩)))
  first
    | exact wpAny_pure (wpAny_bind fin)
    | exact wpAny_bind (wpAny_pure (wpAny_bind fin))
    | exact wpAny_bind fin
theorem ix_ok (hu : X.A.units + 65 < cLine) : IxR X (rOp X.K idxApp) := fun value slice pins s σ H x y v u Q I rx ry h hs => by
  obtain ⟨β, st, H0, rx', ry', r, c, hx, hy, e, q⟩ := h
  rcases idx_out c hx hy e q with h | h
  · exact ix_seq value slice pins s σ H x y v u Q I rx ry h hs
  · exact ix_dic hu value slice pins s σ H x y v u Q I rx ry h hs
/-- the reading of a slice -/
def rSli (K : PySem.W.Frag) : V → Option Int → Option Int → Hp → VK → Prop := fun x lo hi H Q =>
  ∃ β st H0 rx r, Cond K β st H0 H ∧ RRep K β H H0 rx x ∧ sliApp st rx lo hi = some r ∧ Res K β st H H0 r Q
theorem sli_ok : SlR X (rSli X.K) := by
  intro pins s σ H x v vl vu lo hi sl Q I rx hs pl pu h
  obtain ⟨β, st, H0, rx', r, c, hx, e, q⟩ := h
  have go : rSlL X.K x lo hi H Q ∨ (rSlA X.K x lo hi H Q ∨ rSlS x lo hi H Q) := by
    unfold sliApp at e
    split at e
    · rename_i zs
      simp only [Option.some.injEq] at e; subst e
      obtain ⟨a, ws, rfl, h1, h2⟩ := hx
      refine .inr (.inl ⟨a, ws, rfl, h1.sq, fun hw => ?_, fun _ => q.newTup c.sim (h2.cut lo hi)⟩)
      have hc := h2.cut lo hi
      have e2 : cutV ws lo hi = ws := by
        unfold cutV
        rw [hw.1, hw.2]
        simp
      rw [e2] at hc
      exact q.tup c.sim h1 hc
    · split at e
      · rename_i z hs
        simp only [Option.some.injEq] at e; subst e
        exact .inr (.inr ⟨z, hx, szOk_le hs, q.val c.sim rfl⟩)
      · cases e
    · simp only [Option.map_eq_some_iff] at e
      obtain ⟨zs, e1, rfl⟩ := e
      obtain ⟨a, ws, h1, h2, h3⟩ := listOf_sq c.sim hx e1
      exact .inl ⟨a, ws, h1, h2, q.tmp c (h3.cut lo hi)⟩
  exact (sl_list.or (sl_tupA.or sl_str)) pins s σ H x v vl vu lo hi sl Q I rx hs pl pu go

/-! ### built-in calls -/
def RRepL (K : PySem.W.Frag) (β : List Addr) (H H0 : Hp) : List RV → List V → Prop
  | [], vs => vs = []
  | r :: rs, vs => ∃ v w, vs = v :: w ∧ RRep K β H H0 r v ∧ RRepL K β H H0 rs w
def rBi (K : PySem.W.Frag) (b : BI) : List V → Hp → VK → Prop := fun vs H Q =>
  ∃ β st H0 rs r, Cond K β st H0 H ∧ RRepL K β H H0 rs vs ∧ biApp st b rs = some r ∧ Res K β st H H0 r Q
theorem callR_mono {f : Value} {r r' : List V → Hp → VK → Prop} (h : CallR X f r) (i : ∀ xs H Q, r' xs H Q → r xs H Q) : CallR X f r' := fun pins s σ H xs us Q I rx q => h pins s σ H xs us Q I rx (i xs H Q q)
theorem callR_or {f : Value} {r r' : List V → Hp → VK → Prop} (h : CallR X f r) (h' : CallR X f r') : CallR X f (fun xs H Q => r xs H Q ∨ r' xs H Q) := fun pins s σ H xs us Q I rx q =>
  q.elim (h pins s σ H xs us Q I rx) (h' pins s σ H xs us Q I rx)
theorem one_rep {K : PySem.W.Frag} {β : List Addr} {H H0 : Hp} {r : RV} {vs : List V} (h : RRepL K β H H0 [r] vs) : ∃ v, vs = [v] ∧ RRep K β H H0 r v := by
  obtain ⟨v, w, rfl, h1, h2⟩ := h
  exact ⟨v, by rw [show w = [] from h2], h1⟩
theorem two_rep {K : PySem.W.Frag} {β : List Addr} {H H0 : Hp} {r r' : RV} {vs : List V} (h : RRepL K β H H0 [r, r'] vs) : ∃ v v', vs = [v, v'] ∧ RRep K β H H0 r v ∧ RRep K β H H0 r' v' := by
  obtain ⟨v, w, rfl, h1, h2⟩ := h
  obtain ⟨v', rfl, h3⟩ := one_rep h2
  exact ⟨v, v', rfl, h1, h3⟩
theorem bi_len : CallR X (.builtin "len") (rBi X.K .len) := callR_mono (callR_or (callR_or call_len call_lenD) call_len_dT) fun xs H Q h => by
  obtain ⟨β, st, H0, rs, r, c, hr, e, q⟩ := h
  simp only [biApp] at e
  unfold biLen at e
  split at e
  case h_2 => cases e
  rename_i rx
  obtain ⟨x, rfl, hx⟩ := one_rep hr
  cases rx with
  | tmp zs =>
    obtain ⟨a, ws, rfl, h1, _, _, h2⟩ := hx
    simp only [Option.some.injEq] at e; subst e
    exact .inl (.inl ⟨.ref a, zs.length, rfl, .inl ⟨ws, SqL.of h1, h2.length⟩, q.val c.sim rfl⟩)
  | val dx =>
    cases dx with
    | str z =>
      simp only at e
      split at e
      · rename_i hs
        simp only [Option.some.injEq] at e; subst e
        cases hx
        exact .inl (.inl ⟨.str z, z.length, rfl, ⟨szOk_le hs, rfl⟩, q.val c.sim rfl⟩)
      · cases e
    | tup zs =>
      obtain ⟨a, ws, rfl, h1, h2⟩ := hx
      simp only [Option.some.injEq] at e; subst e
      exact .inl (.inl ⟨.ref a, zs.length, rfl, .inr ⟨ws, h1.sq, h2.length⟩, q.val c.sim rfl⟩)
    | rol zs =>
      obtain ⟨a, ws, rfl, h1, h2⟩ := hx
      simp only [Option.some.injEq] at e; subst e
      exact .inl (.inl ⟨.ref a, zs.length, rfl, .inl ⟨ws, h1.sq, h2.length⟩, q.val c.sim rfl⟩)
    | ref n =>
      obtain ⟨a, h1, rfl⟩ := hx
      simp only at e
      split at e
      · rename_i zs hz
        simp only [Option.some.injEq] at e; subst e
        obtain ⟨ws, h3, h4⟩ := c.sim.obj n a _ h1 hz
        exact .inl (.inl ⟨.ref a, zs.length, rfl, .inl ⟨ws, SqL.of h3, h4.length⟩, q.val c.sim rfl⟩)
      · rename_i kvs hk
        simp only [Option.some.injEq] at e; subst e
        obtain ⟨ks, h3, h4, h5⟩ := c.sim.obj n a _ h1 hk
        exact .inl (.inr ⟨a, ks, rfl, h3, by rw [← h4.length]; exact q.val c.sim rfl⟩)
      · rename_i kvs hk
        simp only [Option.some.injEq] at e; subst e
        obtain ⟨ks, h3, h4, h5⟩ := c.sim.obj n a _ h1 hk
        exact .inr ⟨a, ks, rfl, h3, by rw [← h4.length]; exact q.val c.sim rfl⟩
      · cases e
    | _ => cases e
theorem bi_int : CallR X (.type "int") (rBi X.K .int) := callR_mono (callR_or call_int1 call_int_str) fun xs H Q h => by
  obtain ⟨β, st, H0, rs, r, c, hr, e, q⟩ := h
  simp only [biApp] at e
  unfold biInt at e
  split at e
  · obtain ⟨x, rfl, hx⟩ := one_rep hr
    cases hx
    simp only [Option.some.injEq] at e; subst e
    exact .inl (.inl ⟨_, rfl, q.val c.sim rfl⟩)
  · obtain ⟨x, rfl, hx⟩ := one_rep hr
    cases hx
    simp only [Option.some.injEq] at e; subst e
    exact .inl (.inr ⟨_, rfl, q.val c.sim rfl⟩)
  · split at e
    · rename_i hs
      obtain ⟨x, rfl, hx⟩ := one_rep hr
      cases hx
      simp only [Option.map_eq_some_iff] at e
      obtain ⟨n, e1, rfl⟩ := e
      exact .inr ⟨_, n, rfl, e1, of_decide_eq_true hs, q.val c.sim rfl⟩
    · cases e
  · cases e
theorem call_str_bl : CallR X (.type "str") (fun xs H Q => ∃ b, xs = [.bl b] ∧ Q (.str (if b = true then "True" else "False")) H) := by
  intro pins s σ H xs us Q I r h
  obtain ⟨b, rfl, q⟩ := h
  obtain ⟨u, rfl, ru⟩ := vals1 r
  cases ru
  exact PySem.P.str_of_bool ⟨.str _, H, I.tok _, ⟨_, rfl⟩, q⟩
theorem call_str_non : CallR X (.type "str") (fun xs H Q => xs = [.non] ∧ Q (.str "None") H) := by
  intro pins s σ H xs us Q I r h
  obtain ⟨rfl, q⟩ := h
  obtain ⟨u, rfl, ru⟩ := vals1 r
  cases ru
  exact PySem.P.str_of_none ⟨.str _, H, I.tok _, ⟨_, rfl⟩, q⟩
theorem bi_str : CallR X (.type "str") (rBi X.K .str) := callR_mono (callR_or (callR_or call_str_int SkE.call_str_str) (callR_or call_str_bl call_str_non)) fun xs H Q h => by
  obtain ⟨β, st, H0, rs, r, c, hr, e, q⟩ := h
  simp only [biApp] at e
  unfold biStr at e
  split at e
  · obtain ⟨x, rfl, hx⟩ := one_rep hr
    cases hx
    simp only [strInt, Option.map_eq_some_iff] at e
    obtain ⟨z, e1, rfl⟩ := e
    split at e1
    · rename_i hs
      simp only [Option.some.injEq] at e1; subst e1
      exact .inl (.inl ⟨_, rfl, hs, q.val c.sim rfl⟩)
    · cases e1
  · obtain ⟨x, rfl, hx⟩ := one_rep hr
    cases hx
    simp only [Option.some.injEq] at e; subst e
    exact .inl (.inr ⟨_, rfl, q.val c.sim rfl⟩)
  · obtain ⟨x, rfl, hx⟩ := one_rep hr
    cases hx
    simp only [Option.some.injEq] at e; subst e
    exact .inr (.inl ⟨_, rfl, q.val c.sim rfl⟩)
  · obtain ⟨x, rfl, hx⟩ := one_rep hr
    cases hx
    simp only [Option.some.injEq] at e; subst e
    exact .inr (.inr ⟨rfl, q.val c.sim rfl⟩)
  · cases e
theorem bi_bool : CallR X (.type "bool") (rBi X.K .bool) := callR_mono call_bool1 fun xs H Q h => by
  obtain ⟨β, st, H0, rs, r, c, hr, e, q⟩ := h
  simp only [biApp] at e
  unfold biBool at e
  split at e
  · obtain ⟨x, rfl, hx⟩ := one_rep hr
    cases hx
    simp only [Option.some.injEq] at e; subst e
    exact .inl ⟨_, rfl, q.val c.sim rfl⟩
  · obtain ⟨x, rfl, hx⟩ := one_rep hr
    cases hx
    simp only [Option.some.injEq] at e; subst e
    exact .inr ⟨_, rfl, q.val c.sim rfl⟩
  · cases e
theorem bi_tuple : CallR X (.type "tuple") (rBi X.K .tuple) := callR_mono call_tuple_of fun xs H Q h => by
  obtain ⟨β, st, H0, rs, r, c, hr, e, q⟩ := h
  simp only [biApp] at e
  unfold biTuple at e
  split at e
  · obtain ⟨x, rfl, hx⟩ := one_rep hr
    simp only [Option.map_eq_some_iff] at e
    obtain ⟨zs, e1, rfl⟩ := e
    obtain ⟨a, ws, rfl, h1, h2⟩ := seqOf_sqU c.sim hx e1
    rcases h1 with h1 | h1
    · exact ⟨a, ws, rfl, .inl ⟨h1, q.newTup c.sim h2⟩⟩
    · exact ⟨a, ws, rfl, .inr ⟨h1.sq, q.tup c.sim h1 h2⟩⟩
  · cases e
theorem bi_list : CallR X (.type "list") (rBi X.K .list) := callR_mono call_list_of fun xs H Q h => by
  obtain ⟨β, st, H0, rs, r, c, hr, e, q⟩ := h
  simp only [biApp] at e
  unfold biList at e
  split at e
  · obtain ⟨x, rfl, hx⟩ := one_rep hr
    simp only [Option.map_eq_some_iff] at e
    obtain ⟨zs, e1, rfl⟩ := e
    obtain ⟨a, ws, rfl, h1, h2⟩ := seqOf_sq c.sim hx e1
    exact ⟨a, ws, rfl, h1, q.tmp c h2⟩
  · cases e
theorem listInts {K : PySem.W.Frag} {β : List Addr} {st : Sto} {H H0 : Hp} {rx : RV} {x : V} {zs : List D} {ns : List Int} (s : Sim K β st H) (hx : RRep K β H H0 rx x) (e1 : listOf st rx = some zs) (e2 : intsOf zs = some ns) :
    ∃ a, x = .ref a ∧ SqL K H a (ns.map V.int) := by
  obtain ⟨a, ws, rfl, h1, h2⟩ := listOf_sq s hx e1
  have e3 := intsOf_eq e2
  subst e3
  rw [h2.ints] at h1
  exact ⟨a, rfl, h1⟩
theorem fold_max : ∀ (xs : List Int) (x : Int), (xs.foldl (fun m y => if y > m then y else m) x) ∈ x :: xs ∧ ∀ y ∈ x :: xs, y ≤ xs.foldl (fun m y => if y > m then y else m) x
  | [], x => by simp
  | z :: zs, x => by
    obtain ⟨h1, h2⟩ := fold_max zs (if z > x then z else x)
    simp only [List.foldl_cons]
    refine ⟨?_, fun y hy => ?_⟩
    · rcases List.mem_cons.mp h1 with h | h
      · rw [h]
        split
        · simp
        · simp
      · simp [h]
    · have h0 := h2 _ List.mem_cons_self
      rcases List.mem_cons.mp hy with rfl | hy
      · refine Int.le_trans ?_ h0
        split <;> omega
      · rcases List.mem_cons.mp hy with rfl | hy
        · refine Int.le_trans ?_ h0
          split <;> omega
        · exact h2 y (List.mem_cons_of_mem _ hy)
theorem fold_min : ∀ (xs : List Int) (x : Int), (xs.foldl (fun m y => if y < m then y else m) x) ∈ x :: xs ∧ ∀ y ∈ x :: xs, xs.foldl (fun m y => if y < m then y else m) x ≤ y
  | [], x => by simp
  | z :: zs, x => by
    obtain ⟨h1, h2⟩ := fold_min zs (if z < x then z else x)
    simp only [List.foldl_cons]
    refine ⟨?_, fun y hy => ?_⟩
    · rcases List.mem_cons.mp h1 with h | h
      · rw [h]
        split
        · simp
        · simp
      · simp [h]
    · have h0 := h2 _ List.mem_cons_self
      rcases List.mem_cons.mp hy with rfl | hy
      · refine Int.le_trans h0 ?_
        split <;> omega
      · rcases List.mem_cons.mp hy with rfl | hy
        · refine Int.le_trans h0 ?_
          split <;> omega
        · exact h2 y (List.mem_cons_of_mem _ hy)
def rOf (K : PySem.W.Frag) (F : Sto → List RV → Option RV) : List V → Hp → VK → Prop := fun vs H Q =>
  ∃ β st H0 rs r, Cond K β st H0 H ∧ RRepL K β H H0 rs vs ∧ F st rs = some r ∧ Res K β st H H0 r Q
theorem rOf_or {f : Value} {F G : Sto → List RV → Option RV} (h : CallR X f (rOf X.K F)) (h' : CallR X f (rOf X.K G)) : CallR X f (rOf X.K fun st rs => orE (F st rs) (G st rs)) :=
  callR_mono (callR_or h h') fun xs H Q ⟨β, st, H0, rs, r, c, hr, e, q⟩ => by
    simp only [orE] at e
    split at e
    · rename_i x hx
      simp only [Option.some.injEq] at e; subst e
      exact .inl ⟨β, st, H0, rs, _, c, hr, hx, q⟩
    · exact .inr ⟨β, st, H0, rs, r, c, hr, e, q⟩
theorem bi_maxI (hc : X.calm = true) : CallR X (.builtin "max") (rOf X.K biMaxI) := callR_mono (callR_or (call_max2 hc) (cr_max hc)) fun xs H Q h => by
  obtain ⟨β, st, H0, rs, r, c, hr, e, q⟩ := h
  unfold biMaxI at e
  split at e
  · obtain ⟨x, y, rfl, hx, hy⟩ := two_rep hr
    cases hx; cases hy
    simp only [Option.some.injEq] at e; subst e
    exact .inl ⟨_, _, rfl, q.val c.sim rfl⟩
  · obtain ⟨x, rfl, hx⟩ := one_rep hr
    simp only [Option.bind_eq_some_iff, Option.map_eq_some_iff] at e
    obtain ⟨zs, e1, ns, e2, m, e3, rfl⟩ := e
    obtain ⟨a, rfl, h1⟩ := listInts c.sim hx e1 e2
    cases ns with
    | nil => cases e3
    | cons n ns =>
      simp only [maxI, Option.some.injEq] at e3; subst e3
      obtain ⟨f1, f2⟩ := fold_max ns n
      exact .inr ⟨a, n :: ns, rfl, h1, by simp, fun m hm hl => by
        have := Int.le_antisymm (f2 m hm) (hl _ f1)
        rw [this]
        exact q.val c.sim rfl⟩
  · cases e
theorem bi_minI (hc : X.calm = true) : CallR X (.builtin "min") (rOf X.K biMinI) := callR_mono (callR_or (call_min2 hc) (cr_min hc)) fun xs H Q h => by
  obtain ⟨β, st, H0, rs, r, c, hr, e, q⟩ := h
  unfold biMinI at e
  split at e
  · obtain ⟨x, y, rfl, hx, hy⟩ := two_rep hr
    cases hx; cases hy
    simp only [Option.some.injEq] at e; subst e
    exact .inl ⟨_, _, rfl, q.val c.sim rfl⟩
  · obtain ⟨x, rfl, hx⟩ := one_rep hr
    simp only [Option.bind_eq_some_iff, Option.map_eq_some_iff] at e
    obtain ⟨zs, e1, ns, e2, m, e3, rfl⟩ := e
    obtain ⟨a, rfl, h1⟩ := listInts c.sim hx e1 e2
    cases ns with
    | nil => cases e3
    | cons n ns =>
      simp only [minI, Option.some.injEq] at e3; subst e3
      obtain ⟨f1, f2⟩ := fold_min ns n
      exact .inr ⟨a, n :: ns, rfl, h1, by simp, fun m hm hl => by
        have := Int.le_antisymm (hl _ f1) (f2 m hm)
        rw [this]
        exact q.val c.sim rfl⟩
  · cases e
theorem blsOf_eq : ∀ {xs : List D} {bs : List Bool}, blsOf xs = some bs → xs = bs.map .bl
  | [], ns, h => by simp only [blsOf, mapO, Option.some.injEq] at h; subst h; rfl
  | x :: xs, ns, h => by
    simp only [blsOf, mapO] at h
    split at h
    · rename_i y hy
      split at h
      · rename_i ys hys
        simp only [Option.some.injEq] at h; subst h
        cases x with
        | bl i => simp only [Option.some.injEq] at hy; subst hy; rw [List.map_cons, blsOf_eq hys]
        | _ => cases hy
      · cases h
    · cases h
theorem RepL.bls {K : PySem.W.Frag} {β : List Addr} {H : Hp} : ∀ {ns : List Bool} {vs : List V}, RepL K β H (ns.map .bl) vs → vs = ns.map V.bl
  | [], vs, h => h
  | n :: ns, vs, h => by
    obtain ⟨v, r, rfl, h1, h2⟩ := h
    rw [List.map_cons, RepL.bls h2, show v = .bl n from h1]
theorem strsOf_eq : ∀ {xs : List D} {bs : List Str}, strsOf xs = some bs → xs = bs.map .str
  | [], ns, h => by simp only [strsOf, mapO, Option.some.injEq] at h; subst h; rfl
  | x :: xs, ns, h => by
    simp only [strsOf, mapO] at h
    split at h
    · rename_i y hy
      split at h
      · rename_i ys hys
        simp only [Option.some.injEq] at h; subst h
        cases x with
        | str i => simp only [Option.some.injEq] at hy; subst hy; rw [List.map_cons, strsOf_eq hys]
        | _ => cases hy
      · cases h
    · cases h
theorem RepL.strs {K : PySem.W.Frag} {β : List Addr} {H : Hp} : ∀ {ns : List Str} {vs : List V}, RepL K β H (ns.map .str) vs → vs = ns.map V.str
  | [], vs, h => h
  | n :: ns, vs, h => by
    obtain ⟨v, r, rfl, h1, h2⟩ := h
    rw [List.map_cons, RepL.strs h2, show v = .str n from h1]
theorem RepL.ofStrs {K : PySem.W.Frag} {β : List Addr} {H : Hp} : ∀ (ns : List Str), RepL K β H (ns.map .str) (ns.map V.str)
  | [] => rfl
  | n :: ns => ⟨_, _, rfl, rfl, RepL.ofStrs ns⟩
theorem RepL.ofInts {K : PySem.W.Frag} {β : List Addr} {H : Hp} : ∀ (ns : List Int), RepL K β H (ns.map .int) (ns.map V.int)
  | [] => rfl
  | n :: ns => ⟨_, _, rfl, rfl, RepL.ofInts ns⟩
theorem bi_any (hc : X.calm = true) : CallR X (.builtin "any") (rBi X.K .any) := callR_mono (cr_any hc) fun xs H Q h => by
  obtain ⟨β, st, H0, rs, r, c, hr, e, q⟩ := h
  simp only [biApp] at e
  unfold biAny at e
  split at e
  · obtain ⟨x, rfl, hx⟩ := one_rep hr
    simp only [Option.bind_eq_some_iff, Option.map_eq_some_iff] at e
    obtain ⟨zs, e1, ns, e2, rfl⟩ := e
    obtain ⟨a, ws, rfl, h1, h2⟩ := listOf_sq c.sim hx e1
    have e3 := blsOf_eq e2
    subst e3
    rw [h2.bls] at h1
    exact ⟨a, ns, rfl, h1, q.val c.sim rfl⟩
  · cases e
theorem bi_all (hc : X.calm = true) : CallR X (.builtin "all") (rBi X.K .all) := callR_mono (cr_all hc) fun xs H Q h => by
  obtain ⟨β, st, H0, rs, r, c, hr, e, q⟩ := h
  simp only [biApp] at e
  unfold biAll at e
  split at e
  · obtain ⟨x, rfl, hx⟩ := one_rep hr
    simp only [Option.bind_eq_some_iff, Option.map_eq_some_iff] at e
    obtain ⟨zs, e1, ns, e2, rfl⟩ := e
    obtain ⟨a, ws, rfl, h1, h2⟩ := listOf_sq c.sim hx e1
    have e3 := blsOf_eq e2
    subst e3
    rw [h2.bls] at h1
    exact ⟨a, ns, rfl, h1, q.val c.sim rfl⟩
  · cases e
theorem bi_abs : CallR X (.builtin "abs") (rBi X.K .abs) := callR_mono call_abs fun xs H Q h => by
  obtain ⟨β, st, H0, rs, r, c, hr, e, q⟩ := h
  simp only [biApp] at e
  unfold biAbs at e
  split at e
  · obtain ⟨x, rfl, hx⟩ := one_rep hr
    cases hx
    simp only [Option.some.injEq] at e; subst e
    exact ⟨_, rfl, q.val c.sim rfl⟩
  · cases e
/-- isinstance(x, T) -/
def tyName : Ty → String
  | .int => "int" | .bool => "bool" | .str => "str" | .tuple => "tuple" | .list => "list" | .dict => "dict"
theorem isTy_out {K : PySem.W.Frag} {β : List Addr} {st : Sto} {H H0 : Hp} {rx : RV} {x : V} {t : Ty} {b : Bool} (s : Sim K β st H) (hx : RRep K β H H0 rx x) (e : isTy st t rx = some b) :
    ∃ c, TyX K H x c ∧ PySem.W.kitOne K c (.type (tyName t)) = some b := by
  have tup : ∀ {a : Addr} {ws : List V}, SqT K H a ws → TyX K H (.ref a) (.type "tuple") := fun h => by
    rcases h with (h | ⟨o, h⟩) | ⟨o, its, n, h1, h2, _⟩
    · exact .base (.tup h)
    · exact .fTuple h
    · exact .kTuple h1 h2
  have fro : ∀ {a : Addr} {ws : List V}, SqF K H a ws → TyX K H (.ref a) (.type "list") := fun h => by
    rcases h with ⟨o, h⟩ | ⟨o, its, n, h1, h2, _⟩
    · exact .base (.frz h)
    · exact .kList h1 h2
  cases rx with
  | tmp zs =>
    obtain ⟨a, ws, rfl, h1, _⟩ := hx
    simp only [isTy, Option.some.injEq] at e; subst e
    exact ⟨_, .base (.lst h1), by cases t <;> exact kit_ty (by decide +kernel)⟩
  | val d =>
    cases d with
    | non => cases hx; simp only [isTy, Option.some.injEq] at e; subst e; exact ⟨_, .base .non, by cases t <;> exact kit_ty (by decide +kernel)⟩
    | bl _ => cases hx; simp only [isTy, Option.some.injEq] at e; subst e; exact ⟨_, .base (.bl _), by cases t <;> exact kit_ty (by decide +kernel)⟩
    | int _ => cases hx; simp only [isTy, Option.some.injEq] at e; subst e; exact ⟨_, .base (.int _), by cases t <;> exact kit_ty (by decide +kernel)⟩
    | str _ => cases hx; simp only [isTy, Option.some.injEq] at e; subst e; exact ⟨_, .base (.str _), by cases t <;> exact kit_ty (by decide +kernel)⟩
    | tup zs =>
      obtain ⟨a, ws, rfl, h1, h2⟩ := hx
      simp only [isTy, Option.some.injEq] at e; subst e
      exact ⟨_, tup h1.sq, by cases t <;> exact kit_ty (by decide +kernel)⟩
    | rol zs =>
      obtain ⟨a, ws, rfl, h1, h2⟩ := hx
      simp only [isTy, Option.some.injEq] at e; subst e
      exact ⟨_, fro h1, by cases t <;> exact kit_ty (by decide +kernel)⟩
    | ref n =>
      obtain ⟨a, h1, rfl⟩ := hx
      simp only [isTy] at e
      split at e
      · rename_i zs hz
        simp only [Option.some.injEq] at e; subst e
        obtain ⟨ws, h3, h4⟩ := s.obj n a _ h1 hz
        exact ⟨_, .base (.lst h3), by cases t <;> exact kit_ty (by decide +kernel)⟩
      · rename_i lk kvs hk
        simp only [Option.some.injEq] at e; subst e
        obtain ⟨ks, h3, h4, h5⟩ := s.obj n a _ h1 hk
        cases lk with
        | false => exact ⟨_, .base (.dK h3), by cases t <;> exact kit_ty (by decide +kernel)⟩
        | true => obtain ⟨o, h3⟩ := h3; exact ⟨_, .fDict h3, by cases t <;> exact kit_ty (by decide +kernel)⟩
      · rename_i kvs hk
        simp only [Option.some.injEq] at e; subst e
        obtain ⟨ks, h3, h4, h5⟩ := s.obj n a _ h1 hk
        exact ⟨_, .base (.dT h3), by cases t <;> exact kit_ty (by decide +kernel)⟩
      · cases e
end
end Mw

set_option Elab.async false
set_option linter.all false
set_option autoImplicit false
set_option maxRecDepth 100000
/-! PyB5: methods, stores; laying a new list into the store. -/
namespace Mw
open PySem PySem.Spec PyProof.Rows L2
variable [Tbs]
section
variable {K : PySem.W.Frag} {β β' β0 : List Addr} {st : Sto} {H H' H0 : Hp} {Q : VK} {r rx ry : RV} {xs ys : List D} {vs : List V} {d : D} {v x y : V}
mutual
theorem Rep.grow (g : ∀ (n : Nat) (a : Addr), β[n]? = some a → β'[n]? = some a) : ∀ (d : D) (v : V), Rep K β H d v → Rep K β' H d v
  | .non, _, h => h
  | .bl _, _, h => h
  | .int _, _, h => h
  | .str _, _, h => h
  | .tup xs, v, h => by obtain ⟨a, vs, e1, h1, h2⟩ := h; exact ⟨a, vs, e1, h1, RepL.grow g xs vs h2⟩
  | .rol xs, v, h => by obtain ⟨a, vs, e1, h1, h2⟩ := h; exact ⟨a, vs, e1, h1, RepL.grow g xs vs h2⟩
  | .ref n, v, h => by obtain ⟨a, h1, h2⟩ := h; exact ⟨a, g n a h1, h2⟩
theorem RepL.grow (g : ∀ (n : Nat) (a : Addr), β[n]? = some a → β'[n]? = some a) : ∀ (ds : List D) (vs : List V), RepL K β H ds vs → RepL K β' H ds vs
  | [], _, h => h
  | x :: xs, vs, h => by obtain ⟨v, r, e1, h1, h2⟩ := h; exact ⟨v, r, e1, Rep.grow g x v h1, RepL.grow g xs r h2⟩
end
theorem grow_app {p : Addr} (n : Nat) (a : Addr) (h : β[n]? = some a) : (β ++ [p])[n]? = some a := by
  rw [List.getElem?_append_left (List.getElem?_eq_some_iff.mp h).1]; exact h
theorem EnvR.grow (g : ∀ (n : Nat) (a : Addr), β[n]? = some a → β'[n]? = some a) {ρ : Env} {σ : L2.St} (h : EnvR K β H ρ σ) : EnvR K β' H ρ σ :=
  ⟨h.1, fun i d hi => let ⟨v, h1, h2⟩ := h.2 i d hi; ⟨v, h1, Rep.grow g d v h2⟩⟩
theorem Ext.grow (e : Ext β H β' H') (n : Nat) (a : Addr) (h : β[n]? = some a) : β'[n]? = some a := e.get h
theorem Ext.lay (e : Ext β0 H0 β H) {p : Addr} (h : H0 p = none) : Ext β0 H0 (β ++ [p]) H := by
  obtain ⟨new, rfl, f⟩ := e.pre
  refine ⟨⟨new ++ [p], by rw [List.append_assoc], fun b hb => ?_⟩, e.keep, e.frz, e.tbn, e.tab⟩
  rcases List.mem_append.mp hb with z | z
  · exact f b z
  · simp only [List.mem_singleton] at z; rw [z]; exact h
theorem lst_nf {H : Hp} {a : Addr} {ws : List V} (h : H a = some (.lst ws)) : NF H a := ⟨fun o u z => (by rw [h] at z; cases z), fun o z => (by rw [h] at z; cases z), fun o z => (by rw [h] at z; cases z)⟩
theorem Ext.write (e : Ext β0 H0 β H) {a : Addr} {o : HO} (h : a ∈ β) (nf : NF H a) : Ext β0 H0 β (upd H a o) := by
  refine ⟨e.pre, ⟨fun b u hb hn nt => ?_⟩, fun b o u hb => by
    have := e.frz b o u hb
    rw [upd_ne fun z => by rw [z] at this; exact nf.frz _ _ this]
    exact this, fun b hb hn => by
    by_cases z : b = a
    · rw [z, upd_same] at hb; cases hb
    · rw [upd_ne z] at hb; exact e.tbn b hb hn, fun h => tabs_upd nf.tbl nf.ext (e.tab h)⟩
  have hne : b ≠ a := fun z => by
    subst z
    obtain ⟨new, rfl, f⟩ := e.pre
    rcases List.mem_append.mp h with z | z
    · exact hn z
    · rw [f b z] at hb; cases hb
  rw [upd_ne hne]
  exact e.keep.get hb hn nt
theorem Sim.write (s : Sim K β st H) {n : Nat} {a : Addr} {zs : List D} {ws ws0 : List V} (hn : β[n]? = some a) (h0 : H a = some (.lst ws0)) (r : RepL K β H zs ws) : Sim K β (st.set n (.lst zs)) (upd H a (.lst ws)) := by
  have e : Ext β H β (upd H a (.lst ws)) := Ext.refl.write (List.mem_of_getElem? hn) (lst_nf h0)
  refine ⟨by simp [s.len], s.nd, fun m b o h1 h2 => ?_, e.tab s.tab⟩
  by_cases hm : n = m
  · subst hm
    have hl : n < st.length := s.len ▸ (List.getElem?_eq_some_iff.mp hn).1
    rw [List.getElem?_set_self hl] at h2
    simp only [Option.some.injEq] at h2
    subst h2
    rw [hn] at h1
    simp only [Option.some.injEq] at h1
    subst h1
    exact ⟨ws, upd_same, RepL.mono s e _ _ r⟩
  · rw [List.getElem?_set_ne hm] at h2
    refine (s.obj m b o h1 h2).mono s e (upd_ne fun z => hm ?_)
    subst z
    have l1 := (List.getElem?_eq_some_iff.mp hn)
    have l2 := (List.getElem?_eq_some_iff.mp h1)
    exact (List.getElem_inj s.nd).mp (l1.2.trans l2.2.symm)
/-- an answer laid down -/
theorem mat_ok (e : Ext β0 H0 β H) (s : Sim K β st H) (h : RRep K β H H0 r v) :
    ∃ β', Ext β0 H0 β' H ∧ Sim K β' (mat r st).2 H ∧ Rep K β' H (mat r st).1 v ∧ ∀ (n : Nat) (a : Addr), β[n]? = some a → β'[n]? = some a := by
  cases r with
  | val d => exact ⟨β, e, s, h, fun _ _ q => q⟩
  | tmp xs =>
    obtain ⟨a, vs, rfl, h1, h2, h3, h4⟩ := h
    refine ⟨β ++ [a], e.lay h3, s.lay h1 h2 h4, ⟨a, ?_, rfl⟩, grow_app⟩
    rw [← s.len, List.getElem?_append_right (Nat.le_refl _)]
    simp
end
/-- the reading of a method -/
def rMt (K : PySem.W.Frag) (m : MT) : V → List V → Hp → VK → Prop := fun x vs H Q =>
  ∃ β0 H0 β st rx rs r st', Ext β0 H0 β H ∧ Sim K β st H ∧ RRep K β H H0 rx x ∧ RRepL K β H H0 rs vs ∧ mtApp st m rx rs = some (r, st') ∧
    ∀ v β' H', Ext β0 H0 β' H' → Sim K β' st' H' → RRep K β' H' H0 r v → Q v H'
section
variable {X : Cx}
theorem mtR_mono {id : String} {r r' : V → List V → Hp → VK → Prop} (h : MtR X id r) (i : ∀ x xs H Q, r' x xs H Q → r x xs H Q) : MtR X id r' := fun pins s σ H x xs v us Q I rx rs q => h pins s σ H x xs v us Q I rx rs (i x xs H Q q)
/-- the receiver of a list's method -/
theorem recv_lst {K : PySem.W.Frag} {β : List Addr} {st : Sto} {H H0 : Hp} {n : Nat} {x : V} {zs : List D} (s : Sim K β st H) (hx : RRep K β H H0 (.val (.ref n)) x) (hz : st[n]? = some (.lst zs)) :
    ∃ a ws, x = .ref a ∧ β[n]? = some a ∧ H a = some (.lst ws) ∧ RepL K β H zs ws := by
  obtain ⟨a, h1, rfl⟩ := hx
  obtain ⟨ws, h2, h3⟩ := s.obj n a _ h1 hz
  exact ⟨a, ws, rfl, h1, h2, h3⟩
/-- a list's method that writes it -/
theorem wrote {K : PySem.W.Frag} {β0 β' : List Addr} {st' : Sto} {H H0 : Hp} {n : Nat} {a : Addr} {zs : List D} {ws : List V} {Q : VK} {d : D} {v : V} {ws0 : List V} (h0 : H a = some (.lst ws0)) (e0 : Ext β0 H0 β' H) (s : Sim K β' st' H) (hn : β'[n]? = some a) (r : RepL K β' H zs ws) (rd : Rep K β' H d v)
    (q : ∀ v β'' H', Ext β0 H0 β'' H' → Sim K β'' (st'.set n (.lst zs)) H' → RRep K β'' H' H0 (.val d) v → Q v H') : Q v (upd H a (.lst ws)) :=
  q v β' _ (e0.write (List.mem_of_getElem? hn) (lst_nf h0)) (s.write hn h0 r) (Rep.mono s (Ext.refl.write (List.mem_of_getElem? hn) (lst_nf h0)) d v rd)
theorem mt_append_ok : MtR X "list.append" (rMt X.K .append) := mtR_mono mt_append fun x vs H Q h => by
  obtain ⟨β0, H0, β, st, rx, rs, r, st', e0, s, hx, hr, e, q⟩ := h
  simp only [mtApp] at e
  unfold mtAppend at e
  split at e
  case h_2 => cases e
  split at e
  case h_2 => cases e
  split at e
  case isFalse => cases e
  rename_i n ra _ zs hz hs
  simp only [Option.some.injEq, Prod.mk.injEq] at e
  obtain ⟨rfl, rfl⟩ := e
  obtain ⟨a, ws, rfl, h1, h2, h3⟩ := recv_lst s hx hz
  obtain ⟨y, rfl, hy⟩ := one_rep hr
  obtain ⟨β', e1, s1, r1, g⟩ := mat_ok e0 s hy
  refine ⟨a, ws, y, rfl, rfl, h2, ?_, wrote h2 (d := .non) e1 s1 (g n a h1) ((RepL.grow g _ _ h3).append (RepL.one r1)) rfl q⟩
  rw [← h3.length, sizeLine_eq]
  exact of_decide_eq_true hs
theorem mt_extend_ok : MtR X "list.extend" (rMt X.K .extend) := mtR_mono mt_extend fun x vs H Q h => by
  obtain ⟨β0, H0, β, st, rx, rs, r, st', e0, s, hx, hr, e, q⟩ := h
  simp only [mtApp] at e
  unfold mtExtend at e
  split at e
  case h_2 => cases e
  split at e
  case h_2 => cases e
  split at e
  case h_2 => cases e
  split at e
  case isFalse => cases e
  rename_i n ra _ zs hz _ us hu hs
  simp only [Option.some.injEq, Prod.mk.injEq] at e
  obtain ⟨rfl, rfl⟩ := e
  obtain ⟨a, ws, rfl, h1, h2, h3⟩ := recv_lst s hx hz
  obtain ⟨y, rfl, hy⟩ := one_rep hr
  obtain ⟨b, us', rfl, g1, g2⟩ := mutOf_lst s hy hu
  refine ⟨a, b, ws, us', rfl, rfl, h2, g1, ?_, wrote h2 (d := .non) e0 s h1 (h3.append g2) rfl q⟩
  rw [← h3.length, ← g2.length]
  exact szOk_le hs
theorem mt_insert_ok : MtR X "list.insert" (rMt X.K .insert) := mtR_mono mt_insert fun x vs H Q h => by
  obtain ⟨β0, H0, β, st, rx, rs, r, st', e0, s, hx, hr, e, q⟩ := h
  simp only [mtApp] at e
  unfold mtInsert at e
  split at e
  case h_2 => cases e
  split at e
  case h_2 => cases e
  split at e
  case isFalse => cases e
  rename_i n i ra _ zs hz hs
  simp only [Option.some.injEq, Prod.mk.injEq] at e
  obtain ⟨rfl, rfl⟩ := e
  obtain ⟨a, ws, rfl, h1, h2, h3⟩ := recv_lst s hx hz
  obtain ⟨y0, y, rfl, hy0, hy⟩ := two_rep hr
  cases hy0
  obtain ⟨β', e1, s1, r1, g⟩ := mat_ok e0 s hy
  obtain ⟨d1, d2, d3⟩ := of_decide_eq_true hs
  have h3' := RepL.grow g _ _ h3
  refine ⟨a, ws, i, y, rfl, rfl, h2, ?_, d1, by omega, wrote h2 (d := .non) e1 s1 (g n a h1) (((h3'.take i.toNat).append (RepL.one r1)).append (h3'.drop i.toNat)) rfl q⟩
  rw [← h3.length, sizeLine_eq]
  exact d3
theorem mt_pop_ok : MtR X "list.pop" (rMt X.K .pop) := mtR_mono (r := fun x vs H Q => rPop x vs H Q ∨ rPopAt x vs H Q) (MtR.or mt_pop mt_popAt) fun x vs H Q h => by
  obtain ⟨β0, H0, β, st, rx, rs, r, st', e0, s, hx, hr, e, q⟩ := h
  simp only [mtApp] at e
  unfold mtPop at e
  split at e
  · split at e
    case h_2 => cases e
    split at e
    case h_2 => cases e
    rename_i n _ zs hz _ y hy
    simp only [Option.some.injEq, Prod.mk.injEq] at e
    obtain ⟨rfl, rfl⟩ := e
    obtain ⟨a, ws, rfl, h1, h2, h3⟩ := recv_lst s hx hz
    obtain ⟨v, g1, g2⟩ := h3.get hy
    have hv : vs = [] := hr
    subst hv
    refine .inl ⟨a, ws, v, rfl, rfl, h2, by rw [← h3.length]; exact g1, wrote h2 e0 s h1 ?_ g2 q⟩
    rw [List.dropLast_eq_take, List.dropLast_eq_take, h3.length]
    exact h3.take _
  · split at e
    case h_2 => cases e
    split at e
    case h_2 => cases e
    split at e
    case h_2 => cases e
    split at e
    case isFalse => cases e
    rename_i n i _ zs hz _ k hk _ y hy hi
    simp only [Option.some.injEq, Prod.mk.injEq] at e
    obtain ⟨rfl, rfl⟩ := e
    obtain ⟨a, ws, rfl, h1, h2, h3⟩ := recv_lst s hx hz
    obtain ⟨v, g1, g2⟩ := h3.get hy
    obtain ⟨w, rfl, hw⟩ := one_rep hr
    cases hw
    have hi' := i62_iff.mp hi
    exact .inr ⟨a, ws, i, k, v, rfl, rfl, h2, by omega, by omega, by rw [← h3.length]; exact hk, g1, wrote h2 e0 s h1 (h3.erase k) g2 q⟩
  · cases e
theorem findIdx_out {α : Type} {p : α → Bool} {l : List α} {j : Nat} (h : l.findIdx? p = some j) : ∃ z, l[j]? = some z ∧ p z = true ∧ ∀ (m : Nat) (z' : α), m < j → l[m]? = some z' → p z' = false := by
  obtain ⟨h1, h2, h3⟩ := List.findIdx?_eq_some_iff_getElem.mp h
  refine ⟨l[j], by simp [h1], h2, fun m z' hm hz => ?_⟩
  have := h3 m hm
  rw [List.getElem?_eq_getElem (by omega)] at hz
  simp only [Option.some.injEq] at hz
  subst hz
  simpa using this
theorem mt_index_ok (hu : X.A.units + 65 < cLine) : MtR X "list.index" (rMt X.K .index) := mtR_mono (mt_indexD hu) fun x vs H Q h => by
  obtain ⟨β0, H0, β, st, rx, rs, r, st', e0, s, hx, hr, e, q⟩ := h
  simp only [mtApp] at e
  unfold mtIndex at e
  split at e
  case h_2 => cases e
  split at e
  case h_2 => cases e
  split at e
  case h_2 => cases e
  rename_i ra _ zs hz _ _ p qs hp hq
  simp only [Option.map_eq_some_iff, Prod.mk.injEq] at e
  obtain ⟨j, e1, rfl, rfl⟩ := e
  obtain ⟨y, rfl, hy⟩ := one_rep hr
  obtain ⟨a, ws, rfl, h1, h2⟩ := listOf_sq s hx hz
  obtain ⟨b1, b2, b3⟩ := toPyL_dp s 59 zs qs ws hq h2
  obtain ⟨a1, a2⟩ := rvPy_dp s hp hy
  obtain ⟨z, f1, f2, f3⟩ := findIdx_out e1
  exact ⟨a, y, p, qs, j, z, rfl, rfl, .lst h1 b1, a1, shaped_of (by simpa [PyData.canLay0] using b2) (by simp only [PyData.depth]; omega), a2, f1, f2, f3, q _ β H e0 s rfl⟩
theorem mt_join_ok : MtR X "str.join" (rMt X.K .join) := mtR_mono mt_join fun x vs H Q h => by
  obtain ⟨β0, H0, β, st, rx, rs, r, st', e0, s, hx, hr, e, q⟩ := h
  simp only [mtApp] at e
  unfold mtJoin at e
  split at e
  case h_2 => cases e
  split at e
  case h_2 => cases e
  split at e
  case h_2 => cases e
  split at e
  case isFalse => cases e
  rename_i z ra _ zs hz _ ys hy hs
  simp only [Option.some.injEq, Prod.mk.injEq] at e
  obtain ⟨rfl, rfl⟩ := e
  obtain ⟨y, rfl, hy'⟩ := one_rep hr
  obtain ⟨a, ws, rfl, h1, h2⟩ := seqOf_sq s hy' hz
  have e3 := strsOf_eq hy
  subst e3
  rw [h2.strs] at h1
  exact ⟨z, a, ys, hx, rfl, h1, of_decide_eq_true hs, q _ β H e0 s rfl⟩
theorem mt_split_ok : MtR X "str.split" (rMt X.K .split) := mtR_mono mt_split fun x vs H Q h => by
  obtain ⟨β0, H0, β, st, rx, rs, r, st', e0, s, hx, hr, e, q⟩ := h
  simp only [mtApp] at e
  unfold mtSplit at e
  split at e
  case h_2 => cases e
  split at e
  case isFalse => cases e
  rename_i z b hs
  simp only [Option.some.injEq, Prod.mk.injEq] at e
  obtain ⟨rfl, rfl⟩ := e
  obtain ⟨y, rfl, hy⟩ := one_rep hr
  cases hy
  refine ⟨z, b, hx, rfl, hs.1, szOk_le hs.2, fun p hp => ?_⟩
  have hp0 : H0 p = none := e0.free hp fun hm => s.off hp (e0.mem hm)
  exact q _ β _ (e0.trans (Ext.new hp) s.nd) (s.new hp) ⟨p, _, rfl, upd_same, s.off hp, hp0, RepL.ofStrs _⟩
theorem mt_upper_ok : MtR X "str.upper" (rMt X.K .upper) := mtR_mono mt_upper fun x vs H Q h => by
  obtain ⟨β0, H0, β, st, rx, rs, r, st', e0, s, hx, hr, e, q⟩ := h
  simp only [mtApp] at e
  unfold mtUpper at e
  split at e
  case h_2 => cases e
  split at e
  case isFalse => cases e
  rename_i z hs
  simp only [Option.some.injEq, Prod.mk.injEq] at e
  obtain ⟨rfl, rfl⟩ := e
  have hv : vs = [] := hr
  subst hv
  exact ⟨z, hx, rfl, of_decide_eq_true hs, q _ β H e0 s rfl⟩
/-! ### o[i] = v -/
def rPut (K : PySem.W.Frag) : V → V → V → Hp → (Hp → Prop) → Prop := fun o i v H Q =>
  ∃ β0 H0 β st rx ry d st', Ext β0 H0 β H ∧ Sim K β st H ∧ RRep K β H H0 rx o ∧ RRep K β H H0 ry i ∧ Rep K β H d v ∧ putApp st rx ry d = some st' ∧
    ∀ β' H', Ext β0 H0 β' H' → Sim K β' st' H' → (∀ (n : Nat) (a : Addr), β[n]? = some a → β'[n]? = some a) → Q H'
/-- a dict's object is written -/
theorem Sim.writeD {K : PySem.W.Frag} {β : List Addr} {st : Sto} {H : Hp} (s : Sim K β st H) {n : Nat} {a : Addr} {lk : Bool} {kvs : List (D × D)} {ks : List (Key × V)} {u : HO} (hn : β[n]? = some a) (e : Ext β H β (upd H a u)) (hu : if lk = true then ∃ o, u = .frz o (.dK ks) else u = .dK ks) (h : DicR kvs ks) (r : RepL K β H (kvs.map (·.2)) (ks.map (·.2))) : Sim K β (st.set n (.dic lk kvs)) (upd H a u) := by
  refine ⟨by simp [s.len], s.nd, fun m b o h1 h2 => ?_, e.tab s.tab⟩
  by_cases hm : n = m
  · subst hm
    have hl : n < st.length := s.len ▸ (List.getElem?_eq_some_iff.mp hn).1
    rw [List.getElem?_set_self hl] at h2
    simp only [Option.some.injEq] at h2
    subst h2
    rw [hn] at h1
    simp only [Option.some.injEq] at h1
    subst h1
    refine ⟨ks, ?_, h, RepL.mono s e _ _ r⟩
    cases lk with
    | false => rw [upd_same, show u = .dK ks from hu]; rfl
    | true =>
      obtain ⟨o, ho⟩ := (show ∃ o, u = .frz o (.dK ks) from hu)
      exact ⟨o, by rw [upd_same, ho]⟩
  · rw [List.getElem?_set_ne hm] at h2
    refine (s.obj m b o h1 h2).mono s e (upd_ne fun z => hm ?_)
    subst z
    have l1 := (List.getElem?_eq_some_iff.mp hn)
    have l2 := (List.getElem?_eq_some_iff.mp h1)
    exact (List.getElem_inj s.nd).mp (l1.2.trans l2.2.symm)
/-- a dict's object is written -/
theorem Sim.writeT {K : PySem.W.Frag} {β : List Addr} {st : Sto} {H : Hp} (s : Sim K β st H) {n : Nat} {a : Addr} {lk : Bool} {kvs : List (D × D)} {ks : List (List Key × V)} {u : HO} (hn : β[n]? = some a) (e : Ext β H β (upd H a u)) (hu : if lk = true then ∃ o, u = .frz o (.dT ks) else u = .dT ks) (h : DicT kvs ks) (r : RepL K β H (kvs.map (·.2)) (ks.map (·.2))) : Sim K β (st.set n (.dit lk kvs)) (upd H a u) := by
  refine ⟨by simp [s.len], s.nd, fun m b o h1 h2 => ?_, e.tab s.tab⟩
  by_cases hm : n = m
  · subst hm
    have hl : n < st.length := s.len ▸ (List.getElem?_eq_some_iff.mp hn).1
    rw [List.getElem?_set_self hl] at h2
    simp only [Option.some.injEq] at h2
    subst h2
    rw [hn] at h1
    simp only [Option.some.injEq] at h1
    subst h1
    refine ⟨ks, ?_, h, RepL.mono s e _ _ r⟩
    cases lk with
    | false => rw [upd_same, show u = .dT ks from hu]; rfl
    | true =>
      obtain ⟨o, ho⟩ := (show ∃ o, u = .frz o (.dT ks) from hu)
      exact ⟨o, by rw [upd_same, ho]⟩
  · rw [List.getElem?_set_ne hm] at h2
    refine (s.obj m b o h1 h2).mono s e (upd_ne fun z => hm ?_)
    subst z
    have l1 := (List.getElem?_eq_some_iff.mp hn)
    have l2 := (List.getElem?_eq_some_iff.mp h1)
    exact (List.getElem_inj s.nd).mp (l1.2.trans l2.2.symm)
theorem set_dic (hu : X.A.units + 65 < cLine) : PSet X (fun o i v H Q => ∃ a H', o = .ref a ∧ DPut H a i v H' ∧ Q H') := fun pins s0 σ H o i v ov iv u Q I ro ri rv h => by
  obtain ⟨a, H', rfl, g, q⟩ := h
  obtain rfl : ov = Value.ref a := ro
  exact d_setItem (by omega) I g ri rv fun s' I' => ⟨H', I', q⟩
theorem dK_nf {H : Hp} {a : Addr} {ks : List (Key × V)} (h : H a = some (.dK ks)) : NF H a := ⟨fun o u z => (by rw [h] at z; cases z), fun o z => (by rw [h] at z; cases z), fun o z => (by rw [h] at z; cases z)⟩
theorem dT_nf {H : Hp} {a : Addr} {ks : List (List Key × V)} (h : H a = some (.dT ks)) : NF H a := ⟨fun o u z => (by rw [h] at z; cases z), fun o z => (by rw [h] at z; cases z), fun o z => (by rw [h] at z; cases z)⟩
theorem put_ok (hu : X.A.units + 65 < cLine) : PSet X (rPut X.K) := fun pins s0 σ H o i v ov iv u Q I ro ri rv h => by
  obtain ⟨β0, H0, β, st, rx, ry, d, st', e0, s, hx, hy, hd, e, q⟩ := h
  unfold putApp at e
  split at e
  case h_2 => cases e
  split at e
  · split at e
    case h_2 => cases e
    rename_i n _ zs hz _ k
    simp only [Option.map_eq_some_iff] at e
    obtain ⟨j, e1, rfl⟩ := e
    obtain ⟨a, ws, rfl, h1, h2, h3⟩ := recv_lst s hx hz
    exact set_list pins s0 σ H _ i v ov iv u Q I ro ri rv ⟨a, ws, k, j, rfl, hy, h2, by rw [← h3.length]; exact e1, q β _ (e0.write (List.mem_of_getElem? h1) (lst_nf h2)) (s.write h1 h2 (h3.set j hd)) fun _ _ z => z⟩
  · rename_i n _ lk kvs hk
    split at e
    case h_2 => cases e
    rename_i k
    split at e
    case isFalse => cases e
    rename_i hc
    simp only [Bool.and_eq_true, decide_eq_true_eq] at hc
    simp only [Option.some.injEq] at e; subst e
    obtain ⟨a, h1, rfl⟩ := hx
    obtain ⟨ks, h2, h3, h4⟩ := s.obj n a _ h1 hk
    obtain ⟨j, rfl⟩ := keyOk_iff hc.1
    obtain ⟨p1, p2⟩ := h3.put j h4 hd
    have h2' : H a = some (.dK ks) := h2
    have el : Ext β H β (upd H a (.dK (putK ks j v))) := Ext.refl.write (List.mem_of_getElem? h1) (dK_nf h2')
    refine set_dic hu pins s0 σ H _ i v ov iv u Q I ro ri rv ⟨a, _, rfl, .inl ⟨ks, j, h2', rep_keyD hy, by rw [← h3.length, sizeLine_eq]; exact hc.2, rfl⟩, ?_⟩
    exact q β _ (e0.write (List.mem_of_getElem? h1) (dK_nf h2')) (s.writeD h1 el rfl p1 p2) fun _ _ z => z
  · rename_i n _ lk kvs hk
    split at e
    case h_2 => cases e
    rename_i k
    split at e
    case isFalse => cases e
    rename_i hc
    simp only [Bool.and_eq_true, decide_eq_true_eq] at hc
    simp only [Option.some.injEq] at e; subst e
    obtain ⟨a, h1, rfl⟩ := hx
    obtain ⟨ks, h2, h3, h4⟩ := s.obj n a _ h1 hk
    obtain ⟨ns, rfl⟩ := tkOk_iff hc.1
    obtain ⟨b, rfl, hb⟩ := rep_tk hy
    obtain ⟨p1, p2⟩ := h3.put (ns.map Sum.inl) h4 hd
    rw [tkD_ints] at p1 p2
    have h2' : H a = some (.dT ks) := h2
    have el : Ext β H β (upd H a (.dT (putK ks (ns.map Sum.inl) v))) := Ext.refl.write (List.mem_of_getElem? h1) (dT_nf h2')
    refine set_dic hu pins s0 σ H _ _ v ov iv u Q I ro ri rv ⟨a, _, rfl, .inr ⟨ks, ns.map Sum.inl, b, h2', rfl, hb, by rw [← h3.length, sizeLine_eq]; exact hc.2, rfl⟩, ?_⟩
    exact q β _ (e0.write (List.mem_of_getElem? h1) (dT_nf h2')) (s.writeT h1 el rfl p1 p2) fun _ _ z => z
  · cases e
end
end Mw

set_option Elab.async false
set_option linter.all false
set_option autoImplicit false
set_option maxRecDepth 100000
/-! PyC: the readings of the interpreter's expressions; each construct's case. -/
namespace Mw
open PySem PySem.Spec PyProof.Rows L2
variable [Tbs]

def tE (K : PySem.W.Frag) (C : Call) (c : CE) : TE := fun σ H Q =>
  ∃ β st ρ r st', Sim K β st H ∧ EnvR K β H ρ σ ∧ ev C c ρ st = some (r, st') ∧ ∀ v β' H', Ext β H β' H' → Sim K β' st' H' → RRep K β' H' H r v → Q v H'
def tT (K : PySem.W.Frag) (C : Call) (c : CE) : TT := fun σ H Q =>
  ∃ β st ρ b st', Sim K β st H ∧ EnvR K β H ρ σ ∧ evT C c ρ st = some (b, st') ∧ ∀ β' H', Ext β H β' H' → Sim K β' st' H' → Q b H'
def tA (K : PySem.W.Frag) (C : Call) (es : CEs) : TA := fun σ H Q =>
  ∃ β st ρ ds st', Sim K β st H ∧ EnvR K β H ρ σ ∧ evA C es ρ st = some (ds, st') ∧ ∀ vs β' H', Ext β H β' H' → Sim K β' st' H' → RepL K β' H' ds vs → Q vs H'
def tR (K : PySem.W.Frag) (C : Call) (es : CEs) : TA := fun σ H Q =>
  ∃ β st ρ rs st', Sim K β st H ∧ EnvR K β H ρ σ ∧ evR C es ρ st = some (rs, st') ∧ ∀ vs β' H', Ext β H β' H' → Sim K β' st' H' → RRepL K β' H' H rs vs → Q vs H'
def tCs (K : PySem.W.Frag) (C : Call) (es : CEs) : TT := fun σ H Q =>
  ∃ β st ρ b st', Sim K β st H ∧ EnvR K β H ρ σ ∧ evC C es ρ st = some (b, st') ∧ ∀ β' H', Ext β H β' H' → Sim K β' st' H' → Q b H'
def tP (K : PySem.W.Frag) (C : Call) (es : CEs) : L2.TO := fun σ H Q =>
  ∃ β st ρ o st', Sim K β st H ∧ EnvR K β H ρ σ ∧ evP C es ρ st = some (o, st') ∧ ∀ β' H', Ext β H β' H' → Sim K β' st' H' → Q o H'
section
variable {X : Cx} {C : Call} {K : PySem.W.Frag}
theorem PE.imp {e : Expr} {t t' : TE} (h : PE X e t) (i : ∀ σ H Q, t' σ H Q → t σ H Q) : PE X e t' := ⟨fun pins s σ H Q I hw => h.run pins s σ H Q I (i σ H Q hw)⟩
theorem PT.imp {e : Expr} {t t' : TT} (h : PT X e t) (i : ∀ σ H Q, t' σ H Q → t σ H Q) : PT X e t' := ⟨fun pins s σ H Q I hw => h.run pins s σ H Q I (i σ H Q hw)⟩
theorem PW.imp {e : Expr} {t t' : TT} (h : PW X e t) (i : ∀ σ H Q, t' σ H Q → t σ H Q) : PW X e t' := ⟨fun wh pins s σ H Q I hw => h.run wh pins s σ H Q I (i σ H Q hw)⟩
theorem PA.imp {e : List Expr} {t t' : TA} (h : PA X e t) (i : ∀ σ H Q, t' σ H Q → t σ H Q) : PA X e t' := ⟨fun pos pins s σ H Q I hw => h.run pos pins s σ H Q I (i σ H Q hw)⟩
section
variable {β : List Addr} {st st1 : Sto} {ρ : Env} {σ : L2.St} {H : Hp} {a : CE} {x : RV}
theorem seq1 (s : Sim K β st H) (en : EnvR K β H ρ σ) (e : ev C a ρ st = some (x, st1)) {P : V → Hp → Prop}
    (k : ∀ v β1 H1, Ext β H β1 H1 → Sim K β1 st1 H1 → RRep K β1 H1 H x v → EnvR K β1 H1 ρ σ → P v H1) : tE K C a σ H P :=
  ⟨β, st, ρ, x, st1, s, en, e, fun v β1 H1 e1 s1 r1 => k v β1 H1 e1 s1 r1 (en.mono s e1)⟩
theorem seqT (s : Sim K β st H) (en : EnvR K β H ρ σ) {b : Bool} (e : evT C a ρ st = some (b, st1)) {P : Bool → Hp → Prop}
    (k : ∀ β1 H1, Ext β H β1 H1 → Sim K β1 st1 H1 → EnvR K β1 H1 ρ σ → P b H1) : tT K C a σ H P :=
  ⟨β, st, ρ, b, st1, s, en, e, fun β1 H1 e1 s1 => k β1 H1 e1 s1 (en.mono s e1)⟩
end
/-- a test by its value's truth -/
theorem tT_tE {a : CE} {σ : L2.St} {H : Hp} {Q : Bool → Hp → Prop} (h : tT K C a σ H Q) : tE K C a σ H fun x H' => ∃ k, TruV K x H' k ∧ Q k H' := by
  obtain ⟨β, st, ρ, b, st', s, en, e, q⟩ := h
  unfold evT at e
  split at e
  · cases e
  · rename_i x st1 e1
    simp only [Option.map_eq_some_iff, Prod.mk.injEq] at e
    obtain ⟨b', e2, rfl, rfl⟩ := e
    exact seq1 s en e1 fun v β1 H1 x1 s1 r1 en1 => ⟨b', truth_ok s1 r1 e2, q β1 H1 x1 s1⟩
/-- a truth is its own -/
theorem tT_bl {a : CE} {σ : L2.St} {H : Hp} {Q : Bool → Hp → Prop} (h : tT K C a σ H Q) (hb : ∀ ρ st r st', ev C a ρ st = some (r, st') → ∃ b, r = .val (.bl b)) : tE K C a σ H fun x H' => ∃ k, x = .bl k ∧ Q k H' := by
  obtain ⟨β, st, ρ, b, st', s, en, e, q⟩ := h
  unfold evT at e
  split at e
  · cases e
  · rename_i x st1 e1
    obtain ⟨c, rfl⟩ := hb _ _ _ _ e1
    simp only [truth, Option.map_some, Option.some.injEq, Prod.mk.injEq] at e
    obtain ⟨rfl, rfl⟩ := e
    exact seq1 s en e1 fun v β1 H1 x1 s1 r1 en1 => ⟨c, r1, q β1 H1 x1 s1⟩

/-! ### the cases -/
theorem e_var {i : Nat} {x : Str} {pos : Pos} (hN : X.N[i]? = some x) (hv : Vis X.env.scope x) (hd : (x == ("__debug__" : Str)) = false) (hc : (x == ("__classdict__" : Str)) = false) : PE X (.Name x pos) (tE X.K C (.var i)) :=
  PE.imp (pe_var hN hv hd hc) fun σ H Q ⟨β, st, ρ, r, st', s, en, e, q⟩ => by
    simp only [ev] at e
    split at e
    · rename_i d hd
      simp only [Option.some.injEq, Prod.mk.injEq] at e
      obtain ⟨rfl, rfl⟩ := e
      obtain ⟨v, h1, h2⟩ := en.get hd
      exact ⟨v, h1, q v β H Ext.refl s h2⟩
    · cases e
/-- constants -/
theorem e_cst {d : D} {v : V} {e : Expr} (h : PE X e (tC v)) (r : ∀ β H, Rep X.K β H d v) : PE X e (tE X.K C (.cst d)) :=
  PE.imp h fun σ H Q ⟨β, st, ρ, r', st', s, en, e, q⟩ => by
    simp only [ev, Option.some.injEq, Prod.mk.injEq] at e
    obtain ⟨rfl, rfl⟩ := e
    exact q v β H Ext.refl s (r β H)
section
variable {a b c : CE} {l r m : Expr} {pos : Pos}
theorem e_bin {o : Op} {op : Operator} (h : opIs o op = true) (ha : PE X l (tE X.K C a)) (hb : PE X r (tE X.K C b)) : PE X (.BinOp l op r pos) (tE X.K C (.bin o a b)) :=
  PE.imp (pe_op (op_ok h) ha hb) fun σ H Q ⟨β, st, ρ, r, st', s, en, e, q⟩ => by
    simp only [ev] at e
    split at e
    · cases e
    · rename_i x st1 e1
      split at e
      · cases e
      · rename_i y st2 e2
        simp only [Option.map_eq_some_iff, Prod.mk.injEq] at e
        obtain ⟨z, e3, rfl, rfl⟩ := e
        refine seq1 s en e1 fun v β1 H1 x1 s1 r1 en1 => seq1 s1 en1 e2 fun w β2 H2 x2 s2 r2 en2 => ?_
        have x12 := x1.trans x2 s2.nd
        exact ⟨β2, st2, H, x, y, z, ⟨s2, β, x12⟩, r1.mono s1 x2 s2.nd, r2.back x1 x2, e3, fun u H' xx ss rr => q u β2 H' (x12.trans xx ss.nd) ss rr⟩
theorem e_cmp {o : Cm} {op : CmpOp} (h : cmIs o op = true) (hu : X.A.units + 65 < cLine) (ha : PE X l (tE X.K C a)) (hb : PE X r (tE X.K C b)) (hm : behindInMarks op r = false) : PE X (.Compare l [op] [r] pos) (tE X.K C (.cmp o a b)) :=
  PE.imp (pe_cmpR (cm_ok h hu) ha hb hm) fun σ H Q ⟨β, st, ρ, r, st', s, en, e, q⟩ => by
    simp only [ev] at e
    split at e
    · cases e
    · rename_i x st1 e1
      split at e
      · cases e
      · rename_i y st2 e2
        simp only [Option.map_eq_some_iff, Prod.mk.injEq] at e
        obtain ⟨z, e3, rfl, rfl⟩ := e
        refine seq1 s en e1 fun v β1 H1 x1 s1 r1 en1 => seq1 s1 en1 e2 fun w β2 H2 x2 s2 r2 en2 => ?_
        have x12 := x1.trans x2 s2.nd
        exact ⟨β2, st2, H, x, y, .val (.bl z), ⟨s2, β, x12⟩, r1.mono s1 x2 s2.nd, r2.back x1 x2, by simp only [e3, Option.map_some], fun u H' xx ss rr => q u β2 H' (x12.trans xx ss.nd) ss rr⟩
theorem cmp_bl {o : Cm} (ρ : Env) (st : Sto) (r : RV) (st' : Sto) (e : ev C (.cmp o a b) ρ st = some (r, st')) : ∃ b, r = .val (.bl b) := by
  simp only [ev] at e
  split at e
  · cases e
  · split at e
    · cases e
    · simp only [Option.map_eq_some_iff, Prod.mk.injEq] at e
      obtain ⟨z, e3, rfl, rfl⟩ := e
      exact ⟨z, rfl⟩
theorem pt_of_bl {e : Expr} {t : TE} {c : CE} (h : PT X e (tTest t)) (i : ∀ σ H Q, tE X.K C c σ H Q → t σ H Q) (hb : ∀ ρ st r st', ev C c ρ st = some (r, st') → ∃ b, r = .val (.bl b)) : PT X e (tT X.K C c) :=
  PT.imp h fun σ H Q hw => i σ H _ (tT_bl hw hb)
theorem c_cmp {o : Cm} {op : CmpOp} (h : cmIs o op = true) (hu : X.A.units + 65 < cLine) (ha : PE X l (tE X.K C a)) (hb : PE X r (tE X.K C b)) (hm : behindInMarks op r = false) : PT X (.Compare l [op] [r] pos) (tT X.K C (.cmp o a b)) :=
  pt_of_bl (pt_cmpR (cm_ok h hu) ha hb hm) (fun σ H Q ⟨β, st, ρ, r, st', s, en, e, q⟩ => by
    simp only [ev] at e
    split at e
    · cases e
    · rename_i x st1 e1
      split at e
      · cases e
      · rename_i y st2 e2
        simp only [Option.map_eq_some_iff, Prod.mk.injEq] at e
        obtain ⟨z, e3, rfl, rfl⟩ := e
        refine seq1 s en e1 fun v β1 H1 x1 s1 r1 en1 => seq1 s1 en1 e2 fun w β2 H2 x2 s2 r2 en2 => ?_
        have x12 := x1.trans x2 s2.nd
        exact ⟨β2, st2, H, x, y, .val (.bl z), ⟨s2, β, x12⟩, r1.mono s1 x2 s2.nd, r2.back x1 x2, by simp only [e3, Option.map_some], fun u H' xx ss rr => q u β2 H' (x12.trans xx ss.nd) ss rr⟩) (cmp_bl (C := C))
theorem chain_in {o o' : Cm} {σ : L2.St} {H : Hp} {Q : VK} (h : tE K C (.chain o o' a b c) σ H Q) : tChain (rBl K fun st => cmpApp st o) (rBl K fun st => cmpApp st o') (tE K C a) (tE K C b) (tE K C c) σ H Q := by
  obtain ⟨β, st, ρ, r, st', s, en, e, q⟩ := h
  simp only [ev] at e
  split at e
  · cases e
  · rename_i x st1 e1
    split at e
    · cases e
    · rename_i y st2 e2
      split at e
      · cases e
      · rename_i e3
        simp only [Option.some.injEq, Prod.mk.injEq] at e
        obtain ⟨rfl, rfl⟩ := e
        refine seq1 s en e1 fun v β1 H1 x1 s1 r1 en1 => seq1 s1 en1 e2 fun w β2 H2 x2 s2 r2 en2 => ?_
        have x12 := x1.trans x2 s2.nd
        refine ⟨β2, st2, H, x, y, .val (.bl false), ⟨s2, β, x12⟩, r1.mono s1 x2 s2.nd, r2.back x1 x2, by simp only [e3, Option.map_some], fun u H' xx ss rr => ⟨false, rr, ?_⟩⟩
        rw [if_neg (by decide)]
        exact q _ β2 H' (x12.trans xx ss.nd) ss rfl
      · rename_i e3
        split at e
        · cases e
        · rename_i z st3 e4
          simp only [Option.map_eq_some_iff, Prod.mk.injEq] at e
          obtain ⟨t, e5, rfl, rfl⟩ := e
          refine seq1 s en e1 fun v β1 H1 x1 s1 r1 en1 => seq1 s1 en1 e2 fun w β2 H2 x2 s2 r2 en2 => ?_
          have x12 := x1.trans x2 s2.nd
          refine ⟨β2, st2, H, x, y, .val (.bl true), ⟨s2, β, x12⟩, r1.mono s1 x2 s2.nd, r2.back x1 x2, by simp only [e3, Option.map_some], fun u H' xx ss rr => ⟨true, rr, ?_⟩⟩
          rw [if_pos rfl]
          refine seq1 ss (en2.mono s2 xx) e4 fun w' β3 H3 x3 s3 r3 en3 => ?_
          have x13 := x12.trans (xx.trans x3 s3.nd) s3.nd
          exact ⟨β3, st3, H, y, z, .val (.bl t), ⟨s3, β, x13⟩, ((r2.back x1 x2).mono s2 xx ss.nd).mono ss x3 s3.nd, r3.back (x12.trans xx ss.nd) x3, by simp only [e5, Option.map_some], fun u H' xx ss rr => q u β3 H' (x13.trans xx ss.nd) ss rr⟩
theorem e_chain {o o' : Cm} {op op' : CmpOp} (h : cmIs o op = true) (h' : cmIs o' op' = true) (hu : X.A.units + 65 < cLine) (ha : PE X l (tE X.K C a)) (hb : PE X m (tE X.K C b)) (hc : PE X r (tE X.K C c)) (hm : lastMarks [op, op'] [m, r] = false) :
    PE X (.Compare l [op, op'] [m, r] pos) (tE X.K C (.chain o o' a b c)) :=
  PE.imp (pe_chain (cm_ok h hu) (cm_ok h' hu) ha hb hc hm) fun σ H Q => chain_in
theorem c_chain {o o' : Cm} {op op' : CmpOp} (h : cmIs o op = true) (h' : cmIs o' op' = true) (hu : X.A.units + 65 < cLine) (ha : PE X l (tE X.K C a)) (hb : PE X m (tE X.K C b)) (hc : PE X r (tE X.K C c)) (hm : lastMarks [op, op'] [m, r] = false) :
    PT X (.Compare l [op, op'] [m, r] pos) (tT X.K C (.chain o o' a b c)) :=
  pt_of_bl (pt_chain (cm_ok h hu) (cm_ok h' hu) ha hb hc hm) (fun σ H Q => chain_in) fun ρ st r st' e => by
    simp only [ev] at e
    split at e
    · cases e
    · split at e
      · cases e
      · split at e
        · cases e
        · simp only [Option.some.injEq, Prod.mk.injEq] at e
          exact ⟨false, e.1.symm⟩
        · split at e
          · cases e
          · simp only [Option.map_eq_some_iff, Prod.mk.injEq] at e
            obtain ⟨t, e5, rfl, rfl⟩ := e
            exact ⟨t, rfl⟩
theorem e_neg (ha : PE X l (tE X.K C a)) : PE X (.UnaryOp .USub l pos) (tE X.K C (.neg a)) :=
  PE.imp (pe_un un_neg ha) fun σ H Q ⟨β, st, ρ, r, st', s, en, e, q⟩ => by
    simp only [ev] at e
    split at e
    · rename_i i st1 e1
      simp only [Option.some.injEq, Prod.mk.injEq] at e
      obtain ⟨rfl, rfl⟩ := e
      exact seq1 s en e1 fun v β1 H1 x1 s1 r1 en1 => ⟨i, r1, q _ β1 H1 x1 s1 rfl⟩
    · cases e
theorem e_not (ha : PE X l (tE X.K C a)) : PE X (.UnaryOp .Not l pos) (tE X.K C (.not a)) :=
  PE.imp (pe_notT ha) fun σ H Q ⟨β, st, ρ, r, st', s, en, e, q⟩ => by
    simp only [ev] at e
    split at e
    · cases e
    · rename_i x st1 e1
      simp only [Option.map_eq_some_iff, Prod.mk.injEq] at e
      obtain ⟨b, e2, rfl, rfl⟩ := e
      exact seq1 s en e1 fun v β1 H1 x1 s1 r1 en1 => ⟨b, truth_ok s1 r1 e2, q _ β1 H1 x1 s1 rfl⟩
theorem c_not (ha : PT X l (tT X.K C a)) : PT X (.UnaryOp .Not l pos) (tT X.K C (.not a)) :=
  PT.imp (pt_not ha) fun σ H Q ⟨β, st, ρ, b, st', s, en, e, q⟩ => by
    unfold evT at e
    simp only [ev] at e
    split at e
    · cases e
    · rename_i x st1 e1
      split at e1
      · cases e1
      · rename_i y st2 e2
        simp only [Option.map_eq_some_iff, Prod.mk.injEq] at e1 e
        obtain ⟨t, e3, rfl, rfl⟩ := e1
        obtain ⟨u, e4, rfl, rfl⟩ := e
        simp only [truth, Option.some.injEq] at e4
        subst e4
        exact seqT s en (show evT C a ρ st = some (t, st2) by unfold evT; rw [e2]; simp only [e3, Option.map_some]) fun β1 H1 x1 s1 en1 => q β1 H1 x1 s1
theorem e_ite (hc : PT X m (tT X.K C c)) (ha : PE X l (tE X.K C a)) (hb : PE X r (tE X.K C b)) : PE X (.IfExp m l r pos) (tE X.K C (.ite c a b)) :=
  PE.imp (pe_ifExp hc ha hb) fun σ H Q ⟨β, st, ρ, r, st', s, en, e, q⟩ => by
    simp only [ev] at e
    split at e
    · cases e
    · rename_i x st1 e1
      have eT : ∀ t, truth st1 x = some t → evT C c ρ st = some (t, st1) := fun t h => by unfold evT; rw [e1]; simp only [h, Option.map_some]
      split at e
      · cases e
      · rename_i ht
        refine seqT s en (eT _ ht) fun β1 H1 x1 s1 en1 => ?_
        rw [if_pos rfl]
        exact seq1 s1 en1 e fun v β2 H2 x2 s2 r2 en2 => q v β2 H2 (x1.trans x2 s2.nd) s2 (r2.back x1 x2)
      · rename_i ht
        refine seqT s en (eT _ ht) fun β1 H1 x1 s1 en1 => ?_
        rw [if_neg (by decide)]
        exact seq1 s1 en1 e fun v β2 H2 x2 s2 r2 en2 => q v β2 H2 (x1.trans x2 s2.nd) s2 (r2.back x1 x2)
/-- and, or as values: b reads all that follows -/
theorem e_and {rest : List Expr} (ha : PE X l (tE X.K C a)) (hb : PE X (.BoolOp .And (r :: rest) pos) (tE X.K C b)) : PE X (.BoolOp .And (l :: r :: rest) pos) (tE X.K C (.and a b)) :=
  PE.imp (pe_andT ha hb) fun σ H Q ⟨β, st, ρ, r, st', s, en, e, q⟩ => by
    simp only [ev] at e
    split at e
    · cases e
    · rename_i x st1 e1
      split at e
      · cases e
      · rename_i ht
        simp only [Option.some.injEq, Prod.mk.injEq] at e
        obtain ⟨rfl, rfl⟩ := e
        exact seq1 s en e1 fun v β1 H1 x1 s1 r1 en1 => ⟨false, truth_ok s1 r1 ht, by rw [if_neg (by decide)]; exact q v β1 H1 x1 s1 r1⟩
      · rename_i ht
        refine seq1 s en e1 fun v β1 H1 x1 s1 r1 en1 => ⟨true, truth_ok s1 r1 ht, ?_⟩
        rw [if_pos rfl]
        exact seq1 s1 en1 e fun v β2 H2 x2 s2 r2 en2 => q v β2 H2 (x1.trans x2 s2.nd) s2 (r2.back x1 x2)
theorem e_or {rest : List Expr} (ha : PE X l (tE X.K C a)) (hb : PE X (.BoolOp .Or (r :: rest) pos) (tE X.K C b)) : PE X (.BoolOp .Or (l :: r :: rest) pos) (tE X.K C (.or a b)) :=
  PE.imp (pe_orT ha hb) fun σ H Q ⟨β, st, ρ, r, st', s, en, e, q⟩ => by
    simp only [ev] at e
    split at e
    · cases e
    · rename_i x st1 e1
      split at e
      · cases e
      · rename_i ht
        simp only [Option.some.injEq, Prod.mk.injEq] at e
        obtain ⟨rfl, rfl⟩ := e
        exact seq1 s en e1 fun v β1 H1 x1 s1 r1 en1 => ⟨true, truth_ok s1 r1 ht, by rw [if_pos rfl]; exact q v β1 H1 x1 s1 r1⟩
      · rename_i ht
        refine seq1 s en e1 fun v β1 H1 x1 s1 r1 en1 => ⟨false, truth_ok s1 r1 ht, ?_⟩
        rw [if_neg (by decide)]
        exact seq1 s1 en1 e fun v β2 H2 x2 s2 r2 en2 => q v β2 H2 (x1.trans x2 s2.nd) s2 (r2.back x1 x2)
theorem evT_and {ρ : Env} {st st' : Sto} {b' : Bool} (e : evT C (.and a b) ρ st = some (b', st')) : ∃ t st1, evT C a ρ st = some (t, st1) ∧ (if t = true then evT C b ρ st1 = some (b', st') else b' = false ∧ st' = st1) := by
  unfold evT at e
  simp only [ev] at e
  split at e
  · cases e
  · rename_i x st1 e1
    split at e1
    · cases e1
    · rename_i y st2 e2
      have eT : ∀ t, truth st2 y = some t → evT C a ρ st = some (t, st2) := fun t h => by unfold evT; rw [e2]; simp only [h, Option.map_some]
      split at e1
      · cases e1
      · rename_i ht
        simp only [Option.some.injEq, Prod.mk.injEq] at e1
        obtain ⟨rfl, rfl⟩ := e1
        simp only [ht, Option.map_some, Option.some.injEq, Prod.mk.injEq] at e
        exact ⟨false, st2, eT _ ht, by rw [if_neg (by decide)]; exact ⟨e.1.symm, e.2.symm⟩⟩
      · rename_i ht
        refine ⟨true, st2, eT _ ht, ?_⟩
        rw [if_pos rfl]
        unfold evT
        rw [e1]
        exact e
theorem evT_or {ρ : Env} {st st' : Sto} {b' : Bool} (e : evT C (.or a b) ρ st = some (b', st')) : ∃ t st1, evT C a ρ st = some (t, st1) ∧ (if t = true then b' = true ∧ st' = st1 else evT C b ρ st1 = some (b', st')) := by
  unfold evT at e
  simp only [ev] at e
  split at e
  · cases e
  · rename_i x st1 e1
    split at e1
    · cases e1
    · rename_i y st2 e2
      have eT : ∀ t, truth st2 y = some t → evT C a ρ st = some (t, st2) := fun t h => by unfold evT; rw [e2]; simp only [h, Option.map_some]
      split at e1
      · cases e1
      · rename_i ht
        simp only [Option.some.injEq, Prod.mk.injEq] at e1
        obtain ⟨rfl, rfl⟩ := e1
        simp only [ht, Option.map_some, Option.some.injEq, Prod.mk.injEq] at e
        exact ⟨true, st2, eT _ ht, by rw [if_pos rfl]; exact ⟨e.1.symm, e.2.symm⟩⟩
      · rename_i ht
        refine ⟨false, st2, eT _ ht, ?_⟩
        rw [if_neg (by decide)]
        unfold evT
        rw [e1]
        exact e
theorem w_and {rest : List Expr} (ha : PT X l (tT X.K C a)) (hb : PW X (.BoolOp .And (r :: rest) pos) (tT X.K C b)) : PW X (.BoolOp .And (l :: r :: rest) pos) (tT X.K C (.and a b)) :=
  PW.imp (pw_and ha hb) fun σ H Q ⟨β, st, ρ, b', st', s, en, e, q⟩ => by
    obtain ⟨t, st1, e1, e2⟩ := evT_and e
    refine seqT s en e1 fun β1 H1 x1 s1 en1 => ?_
    cases t with
    | true =>
      rw [if_pos rfl] at e2 ⊢
      exact seqT s1 en1 e2 fun β2 H2 x2 s2 en2 => q β2 H2 (x1.trans x2 s2.nd) s2
    | false =>
      rw [if_neg (by decide)] at e2 ⊢
      obtain ⟨rfl, rfl⟩ := e2
      exact q β1 H1 x1 s1
theorem w_or {rest : List Expr} (ha : PT X l (tT X.K C a)) (hb : PW X (.BoolOp .Or (r :: rest) pos) (tT X.K C b)) : PW X (.BoolOp .Or (l :: r :: rest) pos) (tT X.K C (.or a b)) :=
  PW.imp (pw_or ha hb) fun σ H Q ⟨β, st, ρ, b', st', s, en, e, q⟩ => by
    obtain ⟨t, st1, e1, e2⟩ := evT_or e
    refine seqT s en e1 fun β1 H1 x1 s1 en1 => ?_
    cases t with
    | true =>
      rw [if_pos rfl] at e2 ⊢
      obtain ⟨rfl, rfl⟩ := e2
      exact q β1 H1 x1 s1
    | false =>
      rw [if_neg (by decide)] at e2 ⊢
      exact seqT s1 en1 e2 fun β2 H2 x2 s2 en2 => q β2 H2 (x1.trans x2 s2.nd) s2
end
end
end Mw

set_option Elab.async false
set_option linter.all false
set_option autoImplicit false
set_option maxRecDepth 100000
/-! PyX: a tuple put the other way round. -/
namespace Mw
open PySem PySem.Spec PyProof.Rows L2
variable [Tbs]
theorem fm_congr {α β : Type} {f g : α → Option β} : ∀ {l : List α}, (∀ x ∈ l, f x = g x) → l.filterMap f = l.filterMap g
  | [], _ => rfl
  | x :: xs, h => by
    rw [List.filterMap_cons, List.filterMap_cons, h x (List.mem_cons_self ..), fm_congr fun y hy => h y (List.mem_cons_of_mem _ hy)]
theorem pick_rev (xs : Array Value) : ((List.range xs.size).filterMap fun (m : Nat) => xs[((xs.size : Int) - 1 + (m : Int) * (-1)).toNat]?) = xs.toList.reverse := by
  have h : (List.range xs.size).filterMap (fun (m : Nat) => xs[((xs.size : Int) - 1 + (m : Int) * (-1)).toNat]?) = (List.range xs.size).filterMap fun (m : Nat) => some (xs.toList.reverse.getD m .none) := by
    refine fm_congr fun m hm => ?_
    have hm' : m < xs.size := List.mem_range.mp hm
    have e : ((xs.size : Int) - 1 + (m : Int) * (-1)).toNat = xs.size - 1 - m := by omega
    rw [e, Array.getElem?_eq_getElem (by omega)]
    congr 1
    rw [List.getD_eq_getElem?_getD, List.getElem?_reverse (by rw [Array.length_toList]; exact hm'), Array.length_toList, Array.getElem?_toList, Array.getElem?_eq_getElem (by omega)]
    rfl
  rw [h, List.filterMap_eq_map']
  refine List.ext_getElem? fun m => ?_
  rw [List.getElem?_map]
  by_cases hm : m < xs.size
  · rw [List.getElem?_range hm]
    have : m < xs.toList.reverse.length := by rw [List.length_reverse, Array.length_toList]; exact hm
    simp [List.getD_eq_getElem?_getD, List.getElem?_eq_getElem this]
  · rw [List.getElem?_eq_none (by simpa using hm), List.getElem?_eq_none (by rw [List.length_reverse, Array.length_toList]; omega)]
    rfl
section
variable {prog : Program} {w : World} {A : Around} {E : Value → Shared → Prop} {s : Shared}
theorem applied_rev {sl : Addr} {vl vu vs : Value} {n : Nat} {Q : Int × Int × Nat → Shared → Prop} (hs : s.heap.IsSliceOf sl vl vu vs) (pl : IsPart vl none) (pu : IsPart vu none) (ps : IsPart vs (some (-1)))
    (h : Q ((n : Int) - 1, -1, n) s) : wpAny (model prog w) A (Builtin.Slice.sliceApplied (.ref sl) (pure (n : Int))) Q E s := by
  obtain ⟨os, hos, hcs, hds⟩ := id hs
  unfold Builtin.Slice.sliceApplied Builtin.Slice.sliceFields
  refine wpAny_bind (wpAny_bind (wpAny_field hos hds (x := vl) rfl (wpAny_bind (wpAny_field hos hds (x := vu) rfl (wpAny_bind (wpAny_field hos hds (x := vs) rfl (wpAny_pure ?_)))))))
  refine wpAny_bind (HT.slicePart_ ps ?_)
  show wpAny _ _ (if ((-1 : Int) == 0) = true then _ else _) _ _ s
  rw [if_neg (by decide)]
  refine wpAny_bind (HT.slicePart_ pl (wpAny_bind (HT.slicePart_ pu (wpAny_bind (wpAny_pure ?_)))))
  show wpAny _ _ (pure ((n : Int) - 1, (-1 : Int), Builtin.Slice.slicePlaces ((n : Int) - 1) (-1) (-1))) _ _ s
  have e : Builtin.Slice.slicePlaces ((n : Int) - 1) (-1) (-1) = n := by
    unfold Builtin.Slice.slicePlaces
    rw [if_neg (by decide), show (- -1 : Int) = 1 from rfl, Int.ediv_one]
    split <;> omega
  rw [e]
  exact wpAny_pure h
theorem getItem_tuple_rev {t sl : Addr} {items : Array Value} {vl vu vs : Value} {Q : Value → Shared → Prop} (ht : IsTup s.heap t items) (hs : s.heap.IsSliceOf sl vl vu vs) (pl : IsPart vl none) (pu : IsPart vu none) (ps : IsPart vs (some (-1)))
    (h : Q (.ref s.heap.objs.size) { s with heap := s.heap.push { cls := .type "tuple", data := .seq items.toList.reverse.toArray } })
    (hsz : items.size ≤ sizeLine) : wpAny (model prog w) A (getItem (.ref t) (.ref sl)) Q E s := by
  have htake : sizeOk (.seq items.toList.reverse.toArray) := by
    show items.toList.reverse.toArray.size ≤ sizeLine
    simpa using hsz
  obtain ⟨os, hos, hcs, hds⟩ := id hs
  have hTs : s.TypeIs (.ref sl) "slice" := ⟨os, hos, hcs⟩
  unfold getItem
  refine wpAny_holding ?_
  refine wpAny_bind (wpAny_sequenceKey ht.typeIs (by decide) ?_)
  refine wpAny_bind (wpAny_callSpecial?_slot (name := Str.ofString "__getitem__") ht.typeIs PyProof.Rows.slot_tuple_getitem
    (wpAny_call_entry PyProof.Rows.slot_tuple_getitem ht.typeIs entry_tuple_getitem ?_ (args_tuple_getitem _ _)))
  show wpAny _ _ (Builtin.Tuple.tupleItemsOf (.ref t) >>= _) _ _ s
  refine wpAny_bind (tupleItemsOf_ ht ?_)
  refine wpAny_bind (wpAny_typeOf hTs ?_)
  rw [if_pos (by decide)]
  refine wpAny_bind (applied_rev hs pl pu ps ?_)
  have hno : ¬ (((items.size : Int) - 1 == 0 && (-1 : Int) == 1 && items.size == items.size) = true) := by simp
  show wpAny _ _ (if ((items.size : Int) - 1 == 0 && (-1 : Int) == 1 && items.size == items.size) = true then _ else _) _ _ s
  rw [if_neg hno, pick_rev]
  first
    | exact wpAny_bind (m := Builtin.Tuple.tupleExact _) (wpAny_newObj_type (wpAny_pure ⟨_, rfl, wpAny_pure h⟩) htake)
    | exact wpAny_bind (m := Builtin.Tuple.tupleExact _) (wpAny_newObj_type (wpAny_bind (wpAny_pure (wpAny_pure ⟨_, rfl, wpAny_pure h⟩))) htake)
end
def tRevT (K : PySem.W.Frag) (te : TE) : TE := fun σ H Q => te σ H fun x H1 => ∃ a xs, x = .ref a ∧ SqT K H1 a xs ∧ ∀ p, H1 p = none → Q (.ref p) (upd H1 p (.tup xs.reverse))
theorem pe_revT {X : Cx} {e : Expr} {te : TE} {k : Nat} {p1 p2 p3 pos : Pos} (he : PE X e te) : PE X (.Subscript e (.Slice none none (some (.UnaryOp .USub (.Constant (.int 1) k p1) p2)) p3) pos) (tRevT X.K te) := by
  refine ⟨fun pins s σ H Q I h => ?_⟩
  refine Subscript_ (thn (he.run pins s σ H _ I h) fun v s1 ⟨x, H1, I1, r1, q1⟩ => ?_)
  obtain ⟨a, xs, ex, hx, q⟩ := q1
  subst ex
  cases r1
  have hst : PO X (some (.UnaryOp .USub (.Constant (.int 1) k p1) p2)) (tPart (tUn (rU fun i => .int (-i)) (tC (.int 1)))) := po_some (pe_un un_neg pe_int)
  refine wpAny_Slice (thn (po_none.run pins s1 σ H1 (fun o H2 => o = none ∧ H2 = H1) I1 ⟨rfl, rfl⟩) fun vl s2 ⟨l, H2, I2, pl, el, e2⟩ => ?_)
  subst el e2
  refine thn (po_none.run pins s2 σ H2 (fun o H3 => o = none ∧ H3 = H2) I2 ⟨rfl, rfl⟩) fun vu s3 ⟨u, H3, I3, pu, eu, e3⟩ => ?_
  subst eu e3
  refine thn (hst.run pins s3 σ H3 (fun o H4 => o = some (-1) ∧ H4 = H3) I3 ⟨1, rfl, -1, rfl, rfl, rfl⟩) fun vs s4 ⟨o, H4, I4, ps, eo, e4⟩ => ?_
  subst eo e4
  have I5 : Inv X pins σ H4 { s4 with heap := s4.heap.push { cls := .type "slice", data := .fields #[vl, vu, vs] } } := I4.kept (t' := s4.toks) fun b ob q => Heap.get?_push_of_some _ q
  obtain ⟨its, r, ht, hz⟩ := I5.tuple hx
  have hlen := r.length
  show wpAny (model X.prog X.w) X.A (subscriptTail e (.Slice none none (some (.UnaryOp .USub (.Constant (.int 1) k p1) p2)) p3) (.ref a) (.ref s4.heap.objs.size)) (EP X pins σ Q) X.xe { s4 with heap := s4.heap.push { cls := .type "slice", data := .fields #[vl, vu, vs] } }
  refine tail_any (ops := [.ref a, .ref s4.heap.objs.size]) ht.typeIs (PyProof.Rows.slot_tuple_getitem.lookup) ?_ (by with_unfolding_all rfl)
  refine getItem_tuple_rev ht (Heap.IsSliceOf.new _ vl vu vs) pl pu ps ?_ (by rw [List.size_toArray]; omega)
  refine ⟨.ref _, _, I5.laid (t' := s4.toks) (o := .tup xs.reverse) (fun b ob q => Heap.get?_push_of_some _ q) (Nat.le_refl _) ?_, rfl, q _ (I5.hok.fresh (Nat.le_refl _))⟩
  exact ⟨by rw [List.length_reverse]; exact hz, _, r.reverse, IsTup.new _ _⟩
end Mw

set_option Elab.async false
set_option linter.all false
set_option autoImplicit false
set_option maxRecDepth 100000
/-! PyC2: arguments, displays, subscripts, slices, calls, methods. -/
namespace Mw
open PySem PySem.Spec PyProof.Rows L2
variable [Tbs]
/-- expressions that stand as themselves in a list of arguments -/
def plainE : Expr → Bool
  | .Starred .. => false
  | .Slice .. => false
  | .Set .. => false
  | _ => true
theorem star_plain {e : Expr} {es : List Expr} {env : PySem.Env} (h : plainE e = true) : starEach (e :: es) env = (false, eval e env) :: starEach es env := by
  cases e <;> first | rfl | (cases h)
theorem stars_plain : ∀ {es : List Expr} {env : PySem.Env} {pos : Pos}, es.all plainE = true → (backTo pos (starEach es env)).any (·.1) = false
  | [], _, _, _ => rfl
  | e :: es, env, pos, h => by
    rw [List.all_cons, Bool.and_eq_true] at h
    rw [star_plain h.1]
    show (false || (backTo pos (starEach es env)).any (·.1)) = false
    rw [stars_plain h.2]
    rfl
theorem plain_ix {e : Expr} (h : plainE e = true) : PlainIx e := by
  cases e <;> first | (intro _ _; rfl) | (cases h)
theorem plain_mark {op : CmpOp} {e : Expr} (h : plainE e = true) : behindInMarks op e = false := by
  cases e <;> first | rfl | (cases h)
section
variable {X : Cx} {C : Call} {K : PySem.W.Frag} {a b c : CE} {es : CEs} {l r m e : Expr} {ls : List Expr} {pos : Pos}
theorem a_nil : PA X [] (tA X.K C .nil) := PA.imp pa_nil fun σ H Q ⟨β, st, ρ, r, st', s, en, e, q⟩ => by
  simp only [evA, Option.some.injEq, Prod.mk.injEq] at e
  obtain ⟨rfl, rfl⟩ := e
  exact q [] β H Ext.refl s rfl
theorem r_nil : PA X [] (tR X.K C .nil) := PA.imp pa_nil fun σ H Q ⟨β, st, ρ, r, st', s, en, e, q⟩ => by
  simp only [evR, Option.some.injEq, Prod.mk.injEq] at e
  obtain ⟨rfl, rfl⟩ := e
  exact q [] β H Ext.refl s rfl
theorem a_cons (hp : plainE e = true) (ha : PE X e (tE X.K C a)) (hr : PA X ls (tA X.K C es)) : PA X (e :: ls) (tA X.K C (.cons a es)) :=
  PA.imp (pa_cons ha hr (star_plain hp)) fun σ H Q ⟨β, st, ρ, r, st', s, en, e, q⟩ => by
    simp only [evA] at e
    split at e
    · cases e
    · rename_i x st1 e1
      split at e
      · cases e
      · rename_i ds st2 e2
        simp only [Option.some.injEq, Prod.mk.injEq] at e
        obtain ⟨rfl, rfl⟩ := e
        refine seq1 s en e1 fun v β1 H1 x1 s1 r1 en1 => ?_
        obtain ⟨β1', xm, sm, rm, g⟩ := mat_ok x1 s1 r1
        refine ⟨β1', (mat x st1).2, ρ, ds, st2, sm, en1.grow g, e2, fun vs β2 H2 x2 s2 r2 => ?_⟩
        exact q (v :: vs) β2 H2 (xm.trans x2 s2.nd) s2 ⟨v, vs, rfl, Rep.mono sm x2 _ _ rm, r2⟩
theorem RRepL.back {β0 β1 β2 : List Addr} {H0 H1 H2 : Hp} (e : Ext β0 H0 β1 H1) (e2 : Ext β1 H1 β2 H2) : ∀ {rs : List RV} {vs : List V}, RRepL K β2 H2 H1 rs vs → RRepL K β2 H2 H0 rs vs
  | [], _, h => h
  | r :: rs, _, h => by
    obtain ⟨v, w, rfl, h1, h2⟩ := h
    exact ⟨v, w, rfl, h1.back e e2, RRepL.back e e2 h2⟩
theorem r_cons (hp : plainE e = true) (ha : PE X e (tE X.K C a)) (hr : PA X ls (tR X.K C es)) : PA X (e :: ls) (tR X.K C (.cons a es)) :=
  PA.imp (pa_cons ha hr (star_plain hp)) fun σ H Q ⟨β, st, ρ, r, st', s, en, e, q⟩ => by
    simp only [evR] at e
    split at e
    · cases e
    · rename_i x st1 e1
      split at e
      · cases e
      · rename_i ds st2 e2
        simp only [Option.some.injEq, Prod.mk.injEq] at e
        obtain ⟨rfl, rfl⟩ := e
        refine seq1 s en e1 fun v β1 H1 x1 s1 r1 en1 => ?_
        refine ⟨β1, st1, ρ, ds, st2, s1, en1, e2, fun vs β2 H2 x2 s2 r2 => ?_⟩
        exact q (v :: vs) β2 H2 (x1.trans x2 s2.nd) s2 ⟨v, vs, rfl, r1.mono s1 x2 s2.nd, r2.back x1 x2⟩
theorem e_tup {k : Nat} (h : PA X ls (tA X.K C es)) (hz : ls.length ≤ 1000) (hl : ∀ ρ st ds st', evA C es ρ st = some (ds, st') → ds.length = ls.length) : PE X (.Tuple ls k pos) (tE X.K C (.tup es)) :=
  PE.imp (pe_tup h) fun σ H Q ⟨β, st, ρ, r, st', s, en, e, q⟩ => by
    simp only [ev, Option.map_eq_some_iff, Prod.mk.injEq] at e
    obtain ⟨⟨ds, st1⟩, e1, rfl, rfl⟩ := e
    refine ⟨β, st, ρ, ds, st1, s, en, e1, fun vs β1 H1 x1 s1 r1 => ⟨?_, fun p hp => ?_⟩⟩
    · have := hl _ _ _ _ e1
      rw [← r1.length, this]
      exact Nat.le_trans hz (by rw [sizeLine_eq]; decide)
    · exact q _ β1 _ (x1.trans (Ext.new hp) s1.nd) (s1.new hp) ⟨p, vs, rfl, SqU.of upd_same, RepL.mono s1 (Ext.new hp) _ _ r1⟩
theorem e_lst (h : PA X ls (tA X.K C es)) (hz : ls.length ≤ 1000) (hl : ∀ ρ st ds st', evA C es ρ st = some (ds, st') → ds.length = ls.length) : PE X (.List ls pos) (tE X.K C (.lst es)) :=
  PE.imp (pe_lst h) fun σ H Q ⟨β, st, ρ, r, st', s, en, e, q⟩ => by
    simp only [ev, Option.map_eq_some_iff, Prod.mk.injEq] at e
    obtain ⟨⟨ds, st1⟩, e1, rfl, rfl⟩ := e
    refine ⟨β, st, ρ, ds, st1, s, en, e1, fun vs β1 H1 x1 s1 r1 => ⟨?_, fun p hp => ?_⟩⟩
    · have := hl _ _ _ _ e1
      rw [← r1.length, this]
      exact Nat.le_trans hz (by rw [sizeLine_eq]; decide)
    · exact q _ β1 _ (x1.trans (Ext.new hp) s1.nd) (s1.new hp) ⟨p, vs, rfl, upd_same, s1.off hp, x1.free hp fun hm => s1.off hp (x1.mem hm), RepL.mono s1 (Ext.new hp) _ _ r1⟩
theorem e_idx (hu : X.A.units + 65 < cLine) (hp : plainE r = true) (ha : PE X l (tE X.K C a)) (hb : PE X r (tE X.K C b)) : PE X (.Subscript l r pos) (tE X.K C (.idx a b)) :=
  PE.imp (pe_ix (ix_ok hu) ha hb (plain_ix hp)) fun σ H Q ⟨β, st, ρ, r, st', s, en, e, q⟩ => by
    simp only [ev] at e
    split at e
    · cases e
    · rename_i x st1 e1
      split at e
      · cases e
      · rename_i y st2 e2
        simp only [Option.map_eq_some_iff, Prod.mk.injEq] at e
        obtain ⟨z, e3, rfl, rfl⟩ := e
        refine seq1 s en e1 fun v β1 H1 x1 s1 r1 en1 => seq1 s1 en1 e2 fun w β2 H2 x2 s2 r2 en2 => ?_
        have x12 := x1.trans x2 s2.nd
        exact ⟨β2, st2, H, x, y, z, ⟨s2, β, x12⟩, r1.mono s1 x2 s2.nd, r2.back x1 x2, e3, fun u H' xx ss rr => q u β2 H' (x12.trans xx ss.nd) ss rr⟩
theorem p_none : PO X none (tP X.K C .nil) := ⟨fun pins s σ H Q I ⟨β, st, ρ, o, st', sm, en, e, q⟩ => by
  simp only [evP, Option.some.injEq, Prod.mk.injEq] at e
  obtain ⟨rfl, rfl⟩ := e
  exact po_none.run pins s σ H Q I (q β H Ext.refl sm)⟩
theorem p_some (ha : PE X l (tE X.K C a)) : PO X (some l) (tP X.K C (.cons a .nil)) := ⟨fun pins s σ H Q I ⟨β, st, ρ, o, st', sm, en, e, q⟩ => by
  refine (po_some ha).run pins s σ H Q I ?_
  simp only [evP] at e
  split at e
  · rename_i i st1 e1
    simp only [Option.some.injEq, Prod.mk.injEq] at e
    obtain ⟨rfl, rfl⟩ := e
    exact seq1 sm en e1 fun v β1 H1 x1 s1 r1 en1 => ⟨i, r1, q β1 H1 x1 s1⟩
  · cases e⟩
theorem e_sli {lo hi : Option Expr} {cl ch : CEs} {p2 : Pos} (ha : PE X l (tE X.K C a)) (hl : PO X lo (tP X.K C cl)) (hu : PO X hi (tP X.K C ch)) : PE X (.Subscript l (.Slice lo hi none p2) pos) (tE X.K C (.sli a cl ch)) :=
  PE.imp (pe_slice sli_ok ha hl hu) fun σ H Q ⟨β, st, ρ, r, st', s, en, e, q⟩ => by
    simp only [ev] at e
    split at e
    · cases e
    · rename_i x st1 e1
      split at e
      · cases e
      · rename_i lo st2 e2
        split at e
        · cases e
        · rename_i hi st3 e3
          simp only [Option.map_eq_some_iff, Prod.mk.injEq] at e
          obtain ⟨z, e4, rfl, rfl⟩ := e
          refine seq1 s en e1 fun v β1 H1 x1 s1 r1 en1 => ⟨β1, st1, ρ, lo, st2, s1, en1, e2, fun β2 H2 x2 s2 => ⟨β2, st2, ρ, hi, st3, s2, en1.mono s1 x2, e3, fun β3 H3 x3 s3 => ?_⟩⟩
          have x23 := x2.trans x3 s3.nd
          have x13 := x1.trans x23 s3.nd
          exact ⟨β3, st3, H, x, z, ⟨s3, β, x13⟩, (r1.mono s1 x23 s3.nd), e4, fun u H' xx ss rr => q u β3 H' (x13.trans xx ss.nd) ss rr⟩
theorem PE.or {e : Expr} {t t' : TE} (h : PE X e t) (h' : PE X e t') : PE X e (fun σ H Q => t σ H Q ∨ t' σ H Q) := ⟨fun pins s σ H Q I hw => hw.elim (h.run pins s σ H Q I) (h'.run pins s σ H Q I)⟩
/-- [::-1] of a list or tuple -/
theorem e_rev {k : Nat} {p1 p2 p3 : Pos} (ha : PE X l (tE X.K C a)) : PE X (.Subscript l (.Slice none none (some (.UnaryOp .USub (.Constant (.int 1) k p1) p2)) p3) pos) (tE X.K C (.rev a)) :=
  PE.imp (Mw.PE.or (pe_revL ha) (pe_revT ha)) fun σ H Q ⟨β, st, ρ, r, st', s, en, e, q⟩ => by
    simp only [ev] at e
    split at e
    · cases e
    · rename_i x st1 e1
      simp only [Option.map_eq_some_iff, Prod.mk.injEq] at e
      obtain ⟨z, e2, rfl, rfl⟩ := e
      unfold revApp at e2
      split at e2
      · rename_i xs
        simp only [Option.some.injEq] at e2
        subst e2
        refine .inr (seq1 s en e1 fun v β1 H1 x1 s1 r1 en1 => ?_)
        obtain ⟨p, vs, rfl, h1, h2⟩ := r1
        refine ⟨p, vs, rfl, h1.sq, fun p hp => ?_⟩
        exact q _ β1 _ (x1.trans (Ext.new hp) s1.nd) (s1.new hp) ⟨p, _, rfl, SqU.of upd_same, RepL.mono s1 (Ext.new hp) _ _ h2.reverse⟩
      · simp only [Option.map_eq_some_iff] at e2
        obtain ⟨xs, e3, rfl⟩ := e2
        refine .inl (seq1 s en e1 fun v β1 H1 x1 s1 r1 en1 => ?_)
        obtain ⟨p, vs, rfl, h1, h2⟩ := listOf_sq s1 r1 e3
        refine ⟨p, vs, rfl, h1, fun p hp => ?_⟩
        exact q _ β1 _ (x1.trans (Ext.new hp) s1.nd) (s1.new hp) ⟨p, _, rfl, upd_same, s1.off hp, x1.free hp fun hm => s1.off hp (x1.mem hm), RepL.mono s1 (Ext.new hp) _ _ h2.reverse⟩
/-! ### xs[::s] of a list -/
theorem slicePick_one (items : Array Value) : slicePick items none none (some 1) = items := by
  have h := slicePick_cut items.toList none none
  have e : slicePick items none none (some 1) = slicePick items none none none := rfl
  rw [e]
  simp only [Array.toArray_toList] at h
  rw [h]
  simp [HT.sIx]
  rw [List.take_of_length_le (by simp), Array.toArray_toList]
def tStpL (K : PySem.W.Frag) (te ts : TE) : TE := fun σ H Q => te σ H fun x H1 => tPart ts σ H1 fun o H2 => ∃ i, o = some i ∧ (i = 1 ∨ i = -1) ∧ ∃ a xs, x = .ref a ∧ SqL K H2 a xs ∧ ∀ p, H2 p = none → Q (.ref p) (upd H2 p (.lst (if i = 1 then xs else xs.reverse)))
theorem pe_stpL {X : Cx} {e f : Expr} {te ts : TE} {p3 pos : Pos} (he : PE X e te) (hf : PE X f ts) : PE X (.Subscript e (.Slice none none (some f) p3) pos) (tStpL X.K te ts) := by
  refine ⟨fun pins s σ H Q I h => ?_⟩
  refine Subscript_ (thn (he.run pins s σ H _ I h) fun v s1 ⟨x, H1, I1, r1, q1⟩ => ?_)
  refine wpAny_Slice (thn (po_none.run pins s1 σ H1 (fun o H2 => o = none ∧ H2 = H1) I1 ⟨rfl, rfl⟩) fun vl s2 ⟨l, H2, I2, pl, el, e2⟩ => ?_)
  subst el e2
  refine thn (po_none.run pins s2 σ H2 (fun o H3 => o = none ∧ H3 = H2) I2 ⟨rfl, rfl⟩) fun vu s3 ⟨u, H3, I3, pu, eu, e3⟩ => ?_
  subst eu e3
  refine thn ((po_some hf).run pins s3 σ H3 (fun o H4 => ∃ i, o = some i ∧ (i = 1 ∨ i = -1) ∧ ∃ a xs, x = .ref a ∧ SqL X.K H4 a xs ∧ ∀ p, H4 p = none → Q (.ref p) (upd H4 p (.lst (if i = 1 then xs else xs.reverse)))) I3 q1) fun vs s4 ⟨o, H4, I4, ps, i, eo, hi, a, xs, ex, hx, q⟩ => ?_
  subst eo ex
  cases r1
  have I5 : Inv X pins σ H4 { s4 with heap := s4.heap.push { cls := .type "slice", data := .fields #[vl, vu, vs] } } := I4.kept (t' := s4.toks) fun b ob q => Heap.get?_push_of_some _ q
  obtain ⟨its, r, ht, hz⟩ := I5.list hx
  have hlen := r.length
  show wpAny (model X.prog X.w) X.A (subscriptTail e (.Slice none none (some f) p3) (.ref a) (.ref s4.heap.objs.size)) (EP X pins σ Q) X.xe { s4 with heap := s4.heap.push { cls := .type "slice", data := .fields #[vl, vu, vs] } }
  refine tail_any (ops := [.ref a, .ref s4.heap.objs.size]) ht.isList.typeIs (PySem.slot_list_getitem.lookup) ?_ (by with_unfolding_all rfl)
  refine wpAny_getItem_list_slice ht.isList (Heap.IsSliceOf.new _ vl vu vs) pl pu ps (by rcases hi with rfl | rfl <;> decide) ?_ (by rw [List.size_toArray]; omega)
  rcases hi with rfl | rfl
  · rw [slicePick_one]
    refine ⟨.ref _, _, I5.laid (t' := s4.toks) (o := .lst xs) (fun b ob q => Heap.get?_push_of_some _ q) (Nat.le_refl _) ?_, rfl, q _ (I5.hok.fresh (Nat.le_refl _))⟩
    exact ⟨hz, _, 0, r, Heap.get?_push_size _ rfl⟩
  · rw [PySem.W.krv_pick]
    refine ⟨.ref _, _, I5.laid (t' := s4.toks) (o := .lst xs.reverse) (fun b ob q => Heap.get?_push_of_some _ q) (Nat.le_refl _) ?_, rfl, q _ (I5.hok.fresh (Nat.le_refl _))⟩
    exact ⟨by rw [List.length_reverse]; exact hz, _, 0, r.reverse, Heap.get?_push_size _ rfl⟩
theorem e_stp {p3 : Pos} {f : Expr} {b : CE} (ha : PE X l (tE X.K C a)) (hb : PE X f (tE X.K C b)) : PE X (.Subscript l (.Slice none none (some f) p3) pos) (tE X.K C (.stp a b)) :=
  PE.imp (pe_stpL ha hb) fun σ H Q ⟨β, st, ρ, r, st', s, en, e, q⟩ => by
    simp only [ev] at e
    split at e
    · cases e
    rename_i x st1 e1
    split at e
    · cases e
    rename_i y st2 e2
    simp only [Option.map_eq_some_iff, Prod.mk.injEq] at e
    obtain ⟨z, e3, rfl, rfl⟩ := e
    refine seq1 s en e1 fun v β1 H1 x1 s1 r1 en1 => seq1 s1 en1 e2 fun w β2 H2 x2 s2 r2 en2 => ?_
    have x12 := x1.trans x2 s2.nd
    unfold stpApp at e3
    split at e3
    · rename_i i
      cases r2
      refine ⟨i, rfl, i, rfl, ?_⟩
      split at e3
      · rename_i hi
        subst hi
        simp only [Option.map_eq_some_iff] at e3
        obtain ⟨xs, e4, rfl⟩ := e3
        obtain ⟨p, vs, rfl, h1, h2⟩ := listOf_sq s2 (r1.mono s1 x2 s2.nd) e4
        refine ⟨.inl rfl, p, vs, rfl, h1, fun p hp => ?_⟩
        exact q _ β2 _ (x12.trans (Ext.new hp) s2.nd) (s2.new hp) ⟨p, _, rfl, upd_same, s2.off hp, x12.free hp fun hm => s2.off hp (x12.mem hm), RepL.mono s2 (Ext.new hp) _ _ h2⟩
      · split at e3
        · rename_i hi
          subst hi
          simp only [Option.map_eq_some_iff] at e3
          obtain ⟨xs, e4, rfl⟩ := e3
          obtain ⟨p, vs, rfl, h1, h2⟩ := listOf_sq s2 (r1.mono s1 x2 s2.nd) e4
          refine ⟨.inr rfl, p, vs, rfl, h1, fun p hp => ?_⟩
          exact q _ β2 _ (x12.trans (Ext.new hp) s2.nd) (s2.new hp) ⟨p, _, rfl, upd_same, s2.off hp, x12.free hp fun hm => s2.off hp (x12.mem hm), RepL.mono s2 (Ext.new hp) _ _ h2.reverse⟩
        · cases e3
    · cases e3
/-! ### calls of built-ins -/
theorem callB_in {bi : BI} {σ : L2.St} {H : Hp} {Q : VK} (h : tE K C (.bi bi es) σ H Q) : tCB (rBi K bi) (tR K C es) σ H Q := by
  obtain ⟨β, st, ρ, r, st', s, en, e, q⟩ := h
  simp only [ev] at e
  split at e
  · cases e
  · rename_i rs st1 e1
    simp only [Option.map_eq_some_iff, Prod.mk.injEq] at e
    obtain ⟨z, e2, rfl, rfl⟩ := e
    refine ⟨β, st, ρ, rs, st1, s, en, e1, fun vs β1 H1 x1 s1 r1 => ?_⟩
    exact ⟨β1, st1, H, rs, z, ⟨s1, β, x1⟩, r1, e2, fun u H' xx ss rr => q u β1 H' (x1.trans xx ss.nd) ss rr⟩
theorem e_biB {bi : BI} {id : String} {x : Str} {p : Pos} (hc : CallR X (.builtin id) (rBi X.K bi)) (hg : Gl X x) (hm : X.mg x = none) (hv : bootBuiltins x = some (.builtin id)) (ha : PA X (e :: ls) (tR X.K C es)) (hp : (e :: ls).all plainE = true)
    (hn : x ≠ "__name__") (hdb : (x == ("__debug__" : Str)) = false) : PE X (.Call (.Name x p) (e :: ls) [] pos) (tE X.K C (.bi bi es)) :=
  PE.imp (pe_callB hc hg hm hv ha hn hdb (star_plain (by rw [List.all_cons, Bool.and_eq_true] at hp; exact hp.1)) (stars_plain (by rw [List.all_cons, Bool.and_eq_true] at hp; exact hp.2))) fun σ H Q => callB_in
theorem e_biT {bi : BI} {T : String} {x : Str} {p : Pos} (hc : CallR X (.type T) (rBi X.K bi)) (hg : Gl X x) (hm : X.mg x = none) (hv : bootBuiltins x = some (.type T)) (ha : PA X (e :: ls) (tR X.K C es)) (hp : (e :: ls).all plainE = true)
    (hn : x ≠ "__name__") (hdb : (x == ("__debug__" : Str)) = false) : PE X (.Call (.Name x p) (e :: ls) [] pos) (tE X.K C (.bi bi es)) :=
  PE.imp (pe_callTy hc hg hm hv ha hn hdb (star_plain (by rw [List.all_cons, Bool.and_eq_true] at hp; exact hp.1)) (stars_plain (by rw [List.all_cons, Bool.and_eq_true] at hp; exact hp.2))) fun σ H Q => callB_in
theorem e_isi {t : Ty} {x y : Str} {p p2 : Pos} (hg : Gl X x) (hm : X.mg x = none) (hx : bootBuiltins x = some (.builtin "isinstance")) (hg2 : Gl X y) (hm2 : X.mg y = none) (hy : bootBuiltins y = some (.type (tyName t))) (hp : plainE e = true) (ha : PE X e (tE X.K C a))
    (hn : x ≠ "__name__") (hdb : (x == ("__debug__" : Str)) = false) (hn2 : y ≠ "__name__") (hdb2 : (y == ("__debug__" : Str)) = false) : PE X (.Call (.Name x p) [e, .Name y p2] [] pos) (tE X.K C (.isi a t)) :=
  PE.imp (pe_callB call_isi hg hm hx (pa_cons ha (pa_cons (pe_bltn (v := .ty (tyName t)) hg2 hm2 hy rfl hn2 hdb2) pa_nil (star_plain rfl)) (star_plain hp)) hn hdb (star_plain hp) (stars_plain rfl)) fun σ H Q ⟨β, st, ρ, r, st', s, en, e, q⟩ => by
    simp only [ev] at e
    split at e
    · cases e
    · rename_i z st1 e1
      simp only [Option.map_eq_some_iff, Prod.mk.injEq] at e
      obtain ⟨k, e2, rfl, rfl⟩ := e
      refine seq1 s en e1 fun v β1 H1 x1 s1 r1 en1 => ?_
      obtain ⟨c, h1, h2⟩ := isTy_out s1 r1 e2
      exact ⟨v, .ty (tyName t), c, .type (tyName t), k, rfl, .ty _, h1, h2, q _ β1 H1 x1 s1 rfl⟩
/-! ### methods of lists and texts -/
def recvOk : Expr → Bool
  | .Call (.Name _ _) [] [] _ => false
  | _ => true
theorem base_of {o : Expr} {n : Str} {env : PySem.Env} {w : Sem Value} (h : recvOk o = true) : attributeBase o n env w = w := by
  unfold attributeBase
  split
  · cases h
  · rfl
theorem kd_lst {β : List Addr} {st : Sto} {H H0 : Hp} {x : RV} {v : V} (s : Sim K β st H) (r : RRep K β H H0 x v) (h : kdOf st x = .lst) : tyV K "list" v H := by
  cases x with
  | tmp xs => obtain ⟨a, vs, rfl, h1, _⟩ := r; exact .inl ⟨rfl, vs, SqL.of h1⟩
  | val d =>
    cases d with
    | rol xs => obtain ⟨a, vs, rfl, h1, _⟩ := r; exact .inl ⟨rfl, vs, h1.sq⟩
    | ref n =>
      simp only [kdOf] at h
      obtain ⟨a, h1, rfl⟩ := r
      split at h
      · rename_i zs hz
        obtain ⟨vs, h2, _⟩ := s.obj n a _ h1 hz
        exact .inl ⟨rfl, vs, SqL.of h2⟩
      · cases h
      · cases h
      · cases h
    | _ => simp [kdOf] at h
theorem kd_str {β : List Addr} {st : Sto} {H H0 : Hp} {x : RV} {v : V} (s : Sim K β st H) (r : RRep K β H H0 x v) (h : kdOf st x = .str) : tyV K "str" v H := by
  cases x with
  | tmp xs => simp [kdOf] at h
  | val d =>
    cases d with
    | str z => cases r; rfl
    | ref n =>
      simp only [kdOf] at h
      split at h <;> cases h
    | _ => simp [kdOf] at h
theorem mt_in {mt : MT} {T : String} {kd : Kd} {σ : L2.St} {H : Hp} {Q : VK} (ty : ∀ {β : List Addr} {st : Sto} {H H0 : Hp} {x : RV} {v : V}, Sim K β st H → RRep K β H H0 x v → kdOf st x = kd → tyV K T v H)
    (hk : ∀ st x rs z, mtApp st mt x rs = some z → kdOf st x = kd) (h : tE K C (.mt mt a es) σ H Q) : tBM K T (rMt K mt) (tE K C a) (tR K C es) σ H Q := by
  obtain ⟨β, st, ρ, r, st', s, en, e, q⟩ := h
  simp only [ev] at e
  split at e
  · cases e
  · rename_i x st1 e1
    split at e
    · cases e
    · rename_i rs st2 e2
      split at e
      · rename_i hkd
        refine seq1 s en e1 fun v β1 H1 x1 s1 r1 en1 => ⟨ty s1 r1 (hkd.trans (hk _ _ _ _ e)), ?_⟩
        exact ⟨β1, st1, ρ, rs, st2, s1, en1, e2, fun vs β2 H2 x2 s2 r2 => ⟨β, H, β2, st2, x, rs, r, st', x1.trans x2 s2.nd, s2, r1.mono s1 x2 s2.nd, r2.back x1 x2, e, q⟩⟩
      · cases e
theorem mt_in0 {mt : MT} {T : String} {kd : Kd} {σ : L2.St} {H : Hp} {Q : VK} (ty : ∀ {β : List Addr} {st : Sto} {H H0 : Hp} {x : RV} {v : V}, Sim K β st H → RRep K β H H0 x v → kdOf st x = kd → tyV K T v H)
    (hk : ∀ st x rs z, mtApp st mt x rs = some z → kdOf st x = kd) (h : tE K C (.mt mt a .nil) σ H Q) : tBM0 K T (rMt K mt) (tE K C a) σ H Q := by
  obtain ⟨β, st, ρ, r, st', s, en, e, q⟩ := h
  simp only [ev] at e
  split at e
  · cases e
  · rename_i x st1 e1
    simp only [evR] at e
    split at e
    · rename_i hkd
      exact seq1 s en e1 fun v β1 H1 x1 s1 r1 en1 => ⟨ty s1 r1 (hk _ _ _ _ e), β, H, β1, st1, x, [], r, st', x1, s1, r1, rfl, e, q⟩
    · cases e
theorem kd_ref {st : Sto} {n : Nat} {zs : List D} (h : st[n]? = some (.lst zs)) : kdOf st (.val (.ref n)) = .lst := by simp [kdOf, h]
theorem hk_append : ∀ st x rs z, mtApp st .append x rs = some z → kdOf st x = .lst := fun st x rs z e => by
  simp only [mtApp] at e
  unfold mtAppend at e
  split at e
  case h_2 => cases e
  split at e
  case h_2 => cases e
  rename_i hz
  exact kd_ref hz
theorem hk_extend : ∀ st x rs z, mtApp st .extend x rs = some z → kdOf st x = .lst := fun st x rs z e => by
  simp only [mtApp] at e
  unfold mtExtend at e
  split at e
  case h_2 => cases e
  split at e
  case h_2 => cases e
  rename_i hz
  exact kd_ref hz
theorem hk_insert : ∀ st x rs z, mtApp st .insert x rs = some z → kdOf st x = .lst := fun st x rs z e => by
  simp only [mtApp] at e
  unfold mtInsert at e
  split at e
  case h_2 => cases e
  split at e
  case h_2 => cases e
  rename_i hz
  exact kd_ref hz
theorem hk_join : ∀ st x rs z, mtApp st .join x rs = some z → kdOf st x = .str := fun st x rs z e => by
  simp only [mtApp] at e
  unfold mtJoin at e
  split at e
  · rfl
  · cases e
theorem hk_split : ∀ st x rs z, mtApp st .split x rs = some z → kdOf st x = .str := fun st x rs z e => by
  simp only [mtApp] at e
  unfold mtSplit at e
  split at e
  · rfl
  · cases e
theorem hk_upper : ∀ st x rs z, mtApp st .upper x rs = some z → kdOf st x = .str := fun st x rs z e => by
  simp only [mtApp] at e
  unfold mtUpper at e
  split at e
  · rfl
  · cases e
theorem few_plain {e : Expr} {es : List Expr} {env : PySem.Env} {pos : Pos} (h : (e :: es).all plainE = true) (hl : (e :: es).length < 29) : ((backTo pos (starEach (e :: es) env)).all (fun x => !x.1) && (backToKw pos (keywordEach [] env)).all (fun x => x.1.isSome)
      && decide ((e :: es).length + ([] : List Keyword).length + (if ([] : List Keyword).isEmpty then 0 else 1) < 30)) = true := by
  have go : ∀ es : List Expr, es.all plainE = true → (backTo pos (starEach es env)).all (fun x => !x.1) = true := by
    intro es
    induction es with
    | nil => exact fun _ => rfl
    | cons x xs ih =>
      intro h
      rw [List.all_cons, Bool.and_eq_true] at h
      rw [star_plain h.1]
      show (true && (backTo pos (starEach xs env)).all (fun x => !x.1)) = true
      rw [ih h.2]
      rfl
  rw [go _ h]
  have : (e :: es).length + ([] : List Keyword).length + (if ([] : List Keyword).isEmpty then 0 else 1) < 30 := by simp only [List.length_nil, List.isEmpty_nil, if_true]; omega
  rw [decide_eq_true this]
  rfl
theorem e_mt {mt : MT} {T id : String} {kd : Kd} {name : Str} {apos : Pos} (pa : PlainAttrs T) (slot : Slot T name id) (hty : typeOf (.builtin id) = pure (.type "method_descriptor")) (hm : MtR X id (rMt X.K mt))
    (ty : ∀ {β : List Addr} {st : Sto} {H H0 : Hp} {x : RV} {v : V}, Sim X.K β st H → RRep X.K β H H0 x v → kdOf st x = kd → tyV X.K T v H) (hk : ∀ st x rs z, mtApp st mt x rs = some z → kdOf st x = kd)
    (ho : PE X l (tE X.K C a)) (ha : PA X (e :: ls) (tR X.K C es)) (hr : recvOk l = true) (hp : (e :: ls).all plainE = true) (hlen : (e :: ls).length < 29) (hline : (apos.endLine == pos.line) = true) : PE X (.Call (.Attribute l name apos) (e :: ls) [] pos) (tE X.K C (.mt mt a es)) :=
  PE.imp (pe_bm pa slot hty hm ho ha (base_of hr) (few_plain hp hlen) hline (star_plain (by rw [List.all_cons, Bool.and_eq_true] at hp; exact hp.1)) (stars_plain (by rw [List.all_cons, Bool.and_eq_true] at hp; exact hp.2))) fun σ H Q => mt_in ty hk
theorem e_mt0 {mt : MT} {T id : String} {kd : Kd} {name : Str} {apos : Pos} (pa : PlainAttrs T) (slot : Slot T name id) (hty : typeOf (.builtin id) = pure (.type "method_descriptor")) (hm : MtR X id (rMt X.K mt))
    (ty : ∀ {β : List Addr} {st : Sto} {H H0 : Hp} {x : RV} {v : V}, Sim X.K β st H → RRep X.K β H H0 x v → kdOf st x = kd → tyV X.K T v H) (hk : ∀ st x rs z, mtApp st mt x rs = some z → kdOf st x = kd)
    (ho : PE X l (tE X.K C a)) (hr : recvOk l = true) (hline : (apos.endLine == pos.line) = true) : PE X (.Call (.Attribute l name apos) [] [] pos) (tE X.K C (.mt mt a .nil)) :=
  PE.imp (pe_bm0 pa slot hty hm ho (base_of hr) hline) fun σ H Q => mt_in0 ty hk
end
end Mw

set_option Elab.async false
set_option linter.all false
set_option autoImplicit false
set_option maxRecDepth 100000
/-! PyC3: what loops walk: lists and tuples alike, by themselves, under enumerate, under zip. -/
namespace Mw
open PySem PySem.Spec PyProof.Rows L2
variable [Tbs]

set_option maxHeartbeats 2000000 in
theorem enum_new1 {v : Value} {o : Obj} {H : Heap → Prop} (B : Begins v o H) :
    Meets (Builtin.«enumerate.__new__» ⟨[.type "enumerate", v], []⟩) (fun _ R s => H s.heap ∧
      R (.ok (.ret (.ref (s.heap.push o).objs.size))) { s with heap := (s.heap.push o).push { cls := .type "enumerate", data := .fields #[.none, .bool false, .ref s.heap.objs.size, rawInt 0, .none, .none] } }) :=
  .of_wp fun prog w A R s h => by
    obtain ⟨hp, gg, dd, tk, os⟩ := s; obtain ⟨hH, hR⟩ := h
    have hs := sub_enumerate
    have it : ∀ {A' : Around} {E : Value → Shared → Prop} {Q : Value → Shared → Prop}, Q (.ref hp.objs.size) ⟨hp.push o, gg, dd, tk, os⟩ → wpAny (model prog w) A' (pyIter v) Q E ⟨hp, gg, dd, tk, os⟩ := fun q => B.iter prog w _ _ ⟨hp, gg, dd, tk, os⟩ _ hH q
    wp_walk using it
    refine wpAny_stack_any fun stk => wpAny_pure ?_
    split
    · rename_i cc _ _ _ _ _
      cases (cc == Value.type "enumerate") <;> (wp_walk using it; exact ⟨_, rfl, hR⟩)
    · wp_walk using it
      exact ⟨_, rfl, hR⟩
theorem enum_begin1 {prog : Program} {w : World} {A : Around} {E : Value → Shared → Prop} {s : Shared} {v : Value} {o : Obj} {H : Heap → Prop} {Q : Value → Shared → Prop} (B : Begins v o H) (h1 : H s.heap)
    (h : ∀ h', IsEnum h' (s.heap.objs.size + 1) s.heap.objs.size 0 .none → h'.get? s.heap.objs.size = some o → (∀ b o, s.heap.get? b = some o → h'.get? b = some o) → Q (.ref (s.heap.objs.size + 1)) { s with heap := h' }) :
    wpAny (model prog w) A (call (.type "enumerate") [v]) Q E s := by
  refine callType_new F.called_enumerate (by decide) (F.typeCall_enumerate_1 _) (F.newCall_enumerate_1 _) (fun obj => F.args_object_init_2 obj _) F.entry_enumerate_new (enum_new1 B) ⟨h1, ?_⟩
  have hz : (s.heap.push o).objs.size = s.heap.objs.size + 1 := Heap.size_push ..
  show _ ∧ _
  rw [hz]
  have he : IsEnum ((s.heap.push o).push { cls := .type "enumerate", data := .fields #[.none, .bool false, .ref s.heap.objs.size, rawInt 0, .none, .none] }) (s.heap.objs.size + 1) s.heap.objs.size 0 .none := by
    have := Heap.get?_push_size (s.heap.push o) (o := { cls := .type "enumerate", data := .fields #[.none, .bool false, .ref s.heap.objs.size, rawInt 0, .none, .none] }) rfl
    rw [hz] at this; exact this
  exact ⟨⟨_, he, rfl⟩, h _ he (Heap.get?_push_of_some _ (Heap.get?_push_size _ B.free)) fun b o x => Heap.get?_push_of_some _ (Heap.get?_push_of_some _ x)⟩

/-! ### lists and tuples alike -/
inductive Kq where
  | L | T
def sqK (k : Kq) (K : PySem.W.Frag) (H : Hp) (a : Addr) (xs : List V) : Prop := match k with
  | .L => SqL K H a xs
  | .T => SqT K H a xs
def itK (k : Kq) (h : Heap) (it a : Addr) (i : Nat) : Prop := match k with
  | .L => h.IsListIter it a i
  | .T => h.IsTupleIter it a i
def coK (k : Kq) (h : Heap) (a : Addr) (items : Array Value) : Prop := match k with
  | .L => h.IsList a items
  | .T => h.IsTuple a items
def obK (k : Kq) (a : Addr) : Obj := match k with
  | .L => { cls := .type "list_iterator", data := .fields #[.ref a, .int 0 0] }
  | .T => { cls := .type "tuple_iterator", data := .fields #[.ref a, .int 0 0] }
section
variable {X : Cx} {pins : List (Addr × Obj)} {σ : L2.St} {H : Hp} {s : Shared} {k : Kq} {a it : Addr} {xs ys : List V}
theorem sq_inv (I : Inv X pins σ H s) (h : sqK k X.K H a xs) : ∃ its : List Value, Vals xs its ∧ coK k s.heap a its.toArray ∧ xs.length ≤ sizeLine := by
  cases k with
  | L => obtain ⟨its, r, p, z⟩ := I.list h; exact ⟨its, r, p.isList, z⟩
  | T => obtain ⟨its, r, p, z⟩ := I.tuple h; exact ⟨its, r, p, z⟩
theorem sq_inj (I : Inv X pins σ H s) (h : sqK k X.K H a xs) (h' : sqK k X.K H a ys) : xs = ys := by
  cases k with
  | L => exact I.list_inj h h'
  | T => exact I.tuple_inj h h'
theorem co_lt {h : Heap} {items : Array Value} (x : coK k h a items) : a < h.objs.size := by
  cases k with
  | L => obtain ⟨o, e, _⟩ := x; exact Heap.lt_size e
  | T => obtain ⟨o, e, _⟩ := x; exact Heap.lt_size e
theorem draws_k {prog : Program} {w : World} {A : Around} (hh : A.handled = none) (hne : a ≠ it) (items : Array Value) : Draws prog w A it [it, a] items.size (fun i v => items[i]? = some v) (fun i h => itK k h it a i ∧ coK k h a items) := by
  cases k with
  | L => exact Draws.list hh it a hne items
  | T => exact Draws.tuple hh it a hne items
theorem begins_k (k : Kq) (a : Addr) (items : Array Value) : Begins (.ref a) (obK k a) fun h => coK k h a items := by
  cases k with
  | L => exact begins_list a items
  | T => exact begins_tuple a items
theorem it_of {h : Heap} (e : h.get? it = some (obK k a)) : itK k h it a 0 := by
  cases k with
  | L => exact ⟨_, e, rfl, rfl⟩
  | T => exact ⟨_, e, rfl, rfl⟩
theorem it_obj {h : Heap} {i : Nat} (st : itK k h it a i) : ∃ o, h.get? it = some o ∧ ∀ v, o.data ≠ .cell v := by
  cases k with
  | L => obtain ⟨o, e, _, d⟩ := st; exact ⟨o, e, fun v z => by rw [d] at z; cases z⟩
  | T => obtain ⟨o, e, _, d⟩ := st; exact ⟨o, e, fun v z => by rw [d] at z; cases z⟩
theorem it_keep {h h' : Heap} {i : Nat} (st : itK k h it a i) (kp : ∀ o, h.get? it = some o → h'.get? it = some o) : itK k h' it a i := by
  cases k with
  | L => obtain ⟨o, e, r⟩ := st; exact ⟨o, kp o e, r⟩
  | T => obtain ⟨o, e, r⟩ := st; exact ⟨o, kp o e, r⟩
end
theorem it_ne {k : Kq} {h : Heap} {a it : Addr} {i : Nat} {items : Array Value} (hi : itK k h it a i) (co : coK k h a items) : a ≠ it := fun z => by
  subst z
  cases k with
  | L => obtain ⟨o, e1, c1, _⟩ := co; obtain ⟨o', e2, c2, _⟩ := hi; rw [e1] at e2; cases e2; rw [c1] at c2; simp at c2
  | T => obtain ⟨o, e1, c1, _⟩ := co; obtain ⟨o', e2, c2, _⟩ := hi; rw [e1] at e2; cases e2; rw [c1] at c2; simp at c2
theorem co_ne {k : Kq} {h : Heap} {a e : Addr} {o : Obj} {n : String} {items : Array Value} (he : h.get? e = some o) (hc : o.cls = .type n) (co : coK k h a items) (h1 : n ≠ "list" := by decide) (h2 : n ≠ "tuple" := by decide) : e ≠ a := fun z => by
  subst z
  cases k with
  | L => obtain ⟨o', e1, c1, _⟩ := co; rw [he] at e1; cases e1; rw [hc] at c1; injection c1 with c1; exact h1 c1
  | T => obtain ⟨o', e1, c1, _⟩ := co; rw [he] at e1; cases e1; rw [hc] at c1; injection c1 with c1; exact h2 c1
/-- enumerate over it -/
def Iex (k : Kq) (K : PySem.W.Frag) (a : Addr) : It :=
  ⟨fun i H => ∃ xs x, sqK k K H a xs ∧ xs[i]? = some x, fun i H v H' => ∃ T x, v = .ref T ∧ H T = none ∧ H' = upd H T (.tup [.int (i : Nat), x]) ∧ ∀ xs, sqK k K H a xs → xs[i]? = some x, fun i H => ∃ xs, sqK k K H a xs ∧ xs.length = i⟩
theorem turn_ex {P : Program} {w : World} {K : PySem.W.Frag} {elts : List Expr} {kk : Nat} {tpos : Pos} {k : Kq} {a e it : Addr} :
    Turn P w K (.Tuple elts kk tpos) (Iex k K a) [e, it] e (fun i h => (∃ old, IsEnum h e it (i : Nat) old) ∧ itK k h it a i ∧ e ≠ it) where
  mem := by simp
  obj := fun i h st b hb => by
    obtain ⟨⟨old, he⟩, hi, _⟩ := st
    rcases List.mem_cons.mp hb with rfl | hb
    · exact ⟨_, he, fun v z => by cases z⟩
    · rw [List.mem_singleton.mp hb]
      exact it_obj hi
  keep := fun i h h' st kp => ⟨let ⟨old, he⟩ := st.1; ⟨old, kp e (by simp) _ he⟩, it_keep st.2.1 (fun o q => kp it (by simp) o q), st.2.2⟩
  item := by
    intro X hP hw hK hc i pins s σ H E I hf st hg
    subst hP hw hK
    obtain ⟨⟨old, he⟩, hi, hne⟩ := st
    obtain ⟨xs, x, hq, hx⟩ := hg
    obtain ⟨its, rv, co, hz⟩ := sq_inv I hq
    obtain ⟨u, hu, ru⟩ := rv.get hx
    have hitn : H it = none := (hf it (by simp)).1
    have hen : H e = none := (hf e (by simp)).1
    -- the thing walked is tracked or of the text: no iterator
    have hait : a ≠ it := it_ne hi co
    have hae : e ≠ a := co_ne he rfl co
    have W := GoesN.enumFrom (prog := X.prog) (w := X.w) (A := X.A) (elts := elts) (x1 := kk) (pos := tpos) 0 (draws_k (k := k) (prog := X.prog) (w := X.w) (A := X.A.in1) (I.ok.hd hc) hait its.toArray) e hne (by simp [hne, hae]) (by simp)
    have hil : i < its.toArray.size := by
      have := (List.getElem?_eq_some_iff.mp hu).1
      simpa using this
    refine W.goes i s _ E hil ⟨⟨old, by rw [Int.zero_add]; exact he⟩, hi, co⟩ fun v h' tk hY st' hk _ => ?_
    obtain ⟨T, t, y, rfl, hT, hy, hTT⟩ := hY
    have hyu : y = u := by
      rw [List.getElem?_toArray, hu] at hy
      exact (Option.some.inj hy).symm
    subst hyu
    have I1 : Inv X pins σ (upd H T (.tup [.int (i : Nat), x])) { s with heap := h', toks := tk } :=
      I.turnedNew (t' := tk) (ch := [e, it]) (fun c o hcn q => hk c o hcn q) (fun b hb => hf b hb) hT ⟨by show 2 ≤ sizeLine; decide, _, .cons ⟨t, rfl⟩ (.cons ru .nil), by rw [Int.zero_add] at hTT; exact hTT⟩
    obtain ⟨⟨old', he'⟩, hi', _⟩ := st'
    rw [Int.zero_add] at he'
    refine ⟨.ref T, _, I1, rfl, ⟨T, x, rfl, I.hok.fresh hT, rfl, fun ys hys => by rw [sq_inj I hys hq]; exact hx⟩, ⟨⟨old', he'⟩, hi', hne⟩, fun b hb => ?_⟩
    have hbl : b < s.heap.objs.size := by
      rcases List.mem_cons.mp hb with rfl | hb
      · exact Heap.lt_size he
      · rw [List.mem_singleton.mp hb]
        obtain ⟨o, q, _⟩ := it_obj hi
        exact Heap.lt_size q
    rw [upd_ne (Nat.ne_of_lt (Nat.lt_of_lt_of_le hbl hT))]
    exact (hf b hb).1
  done := by
    intro X hP hw hK hc i pins s σ H E I hf st hg
    subst hP hw hK
    obtain ⟨⟨old, he⟩, hi, hne⟩ := st
    obtain ⟨xs, hq, hx⟩ := hg
    obtain ⟨its, rv, co, hz⟩ := sq_inv I hq
    have W := GoesN.enumFrom (prog := X.prog) (w := X.w) (A := X.A) (elts := elts) (x1 := kk) (pos := tpos) 0 (draws_k (k := k) (prog := X.prog) (w := X.w) (A := X.A.in1) (I.ok.hd hc) (it_ne hi co) its.toArray) e hne (by simp [hne, (co_ne he rfl co : e ≠ a)]) (by simp)
    have hn : its.toArray.size = i := by rw [List.size_toArray, ← rv.length]; exact hx
    refine W.stops s (fun s1 => Inv X pins σ H s1) E (by rw [hn]; exact ⟨⟨old, by rw [Int.zero_add]; exact he⟩, hi, co⟩) fun h' tk hk _ => I.turnedL (ch := [e, it]) (fun c o hcn q => hk c o hcn q) hf
  self := fun A i s Q E st h => let ⟨⟨_, he⟩, _⟩ := st; wpAny_pyIter_enum he h
def iEx (k : Kq) (K : PySem.W.Frag) (ta : TA) : TI := fun σ H R => ta σ H fun vs H1 => ∃ a xs, vs = [.ref a] ∧ sqK k K H1 a xs ∧ R (Iex k K a) H1
theorem pi_ex {X : Cx} {k : Kq} {e : Expr} {ta : TA} {p pos tpos : Pos} {elts : List Expr} {kk : Nat} (hg : Gl X "enumerate") (hm : X.mg "enumerate" = none) (ha : PA X [e] ta) (hs : starEach [e] X.env = [(false, eval e X.env)]) :
    PI X (.Tuple elts kk tpos) (.Call (.Name "enumerate" p) [e] [] pos) (iEx k X.K ta) := by
  refine ⟨fun pins s σ H R I h => ?_⟩
  refine Call_ (ld_blt I hg hm boot_enumerate (PyProof.Rows.callWith_type1 (thn (ha.run pos pins s σ H _ I h) fun us s1 ⟨vs, H1, I1, r1, q1⟩ => ?_) hs rfl))
  obtain ⟨a, xs, ex, hq, q⟩ := q1
  subst ex
  cases r1 with
  | cons r rr =>
    cases rr
    cases r
    obtain ⟨its, rv, co, hz⟩ := sq_inv I1 hq
    refine enum_begin1 (begins_k k a its.toArray) co fun h' he ho hk => wpAny_pyIter_enum he ?_
    have I2 : Inv X pins σ H1 { s1 with heap := h' } := I1.kept (t' := s1.toks) hk
    refine ⟨s1.heap.objs.size + 1, [s1.heap.objs.size + 1, s1.heap.objs.size], _, _, H1, rfl, I2, turn_ex (k := k) (a := a), ⟨⟨.none, he⟩, it_of ho, Nat.succ_ne_self _⟩, fun b hb => ?_, q⟩
    have hle : s1.heap.objs.size ≤ b := by
      rcases List.mem_cons.mp hb with z | z
      · rw [z]; exact Nat.le_add_right _ _
      · rw [List.mem_singleton.mp z]; exact Nat.le_refl _
    exact I1.fpOk hle (I1.hok.fresh hle)
/-! ### zip of two -/
def Iz2 (k l : Kq) (K : PySem.W.Frag) (a b : Addr) : It :=
  ⟨fun i H => ∃ (xs ys : List V) (x y : V), sqK k K H a xs ∧ sqK l K H b ys ∧ xs[i]? = some x ∧ ys[i]? = some y,
    fun i H v H' => ∃ T x y, v = .ref T ∧ H T = none ∧ H' = upd H T (.tup [x, y]) ∧ (∀ xs, sqK k K H a xs → xs[i]? = some x) ∧ ∀ ys, sqK l K H b ys → ys[i]? = some y,
    fun i H => ∃ xs ys : List V, sqK k K H a xs ∧ sqK l K H b ys ∧ min xs.length ys.length = i⟩
/-- a zip's cells -/
def ZSt2 (k l : Kq) (N : Addr) (a b : Addr) (i : Nat) (h : Heap) : Prop :=
  IsZip h (N + 4) (N + 2) (N + 3) .none ∧ IsTupOf2 h (N + 2) (.ref N) (.ref (N + 1)) ∧ (∃ a1 a2, IsTupOf2 h (N + 3) a1 a2) ∧ itK k h N a i ∧ itK l h (N + 1) b i ∧ a < N ∧ b < N
theorem lt5 {N T S c : Nat} (h : N + 4 < S) (h2 : S ≤ T) (hc : c = N + 4 ∨ c = N + 2 ∨ c = N + 3 ∨ c = N ∨ c = N + 1) : c < T := by omega
theorem turn_z2 {P : Program} {w : World} {K : PySem.W.Frag} {elts : List Expr} {kk : Nat} {tpos : Pos} {k l : Kq} {a b N : Addr} :
    Turn P w K (.Tuple elts kk tpos) (Iz2 k l K a b) [N + 4, N + 2, N + 3, N, N + 1] (N + 4) (ZSt2 k l N a b) where
  mem := by simp
  obj := fun i h st c hc => by
    obtain ⟨hz, hTI, ⟨x, y, hTO⟩, h1, h2, _⟩ := st
    simp only [List.mem_cons, List.not_mem_nil, or_false] at hc
    rcases hc with rfl | rfl | rfl | rfl | rfl
    · exact ⟨_, hz, fun v q => nomatch q⟩
    · exact ⟨_, hTI, fun v q => nomatch q⟩
    · exact ⟨_, hTO, fun v q => nomatch q⟩
    · exact it_obj h1
    · exact it_obj h2
  keep := fun i h h' st kp => by
    obtain ⟨hz, hTI, ⟨x, y, hTO⟩, h1, h2, l1, l2⟩ := st
    exact ⟨kp _ (by simp) _ hz, kp _ (by simp) _ hTI, ⟨x, y, kp _ (by simp) _ hTO⟩, it_keep h1 (fun o q => kp _ (by simp) o q), it_keep h2 (fun o q => kp _ (by simp) o q), l1, l2⟩
  item := by
    intro X hP hw hK hc i pins s σ H E I hf st hg
    subst hP hw hK
    obtain ⟨hz, hTI, ⟨a1, a2, hTO⟩, h1, h2, l1, l2⟩ := st
    obtain ⟨xs, ys, x, y, hq, hq', hx, hy⟩ := hg
    obtain ⟨its, rv, co, _⟩ := sq_inv I hq
    obtain ⟨its2, rv2, co2, _⟩ := sq_inv I hq'
    obtain ⟨u, hu, ru⟩ := rv.get hx
    obtain ⟨u2, hu2, ru2⟩ := rv2.get hy
    have sep : ZipSep2 (N + 4) (N + 2) (N + 3) N (N + 1) [N, a] [N + 1, b] :=
      zip_sep2 (fp1 := [a]) (fp2 := [b]) (fun c hc => by rw [List.mem_singleton.mp hc]; exact l1) (fun c hc => by rw [List.mem_singleton.mp hc]; exact l2)
    have W := GoesN.zip2 (prog := X.prog) (w := X.w) (A := X.A) (elts := elts) (x1 := kk) (pos := tpos) sep (draws_k (k := k) (prog := X.prog) (w := X.w) (A := X.A.in1) (I.ok.hd hc) (it_ne h1 co) its.toArray) (draws_k (k := l) (prog := X.prog) (w := X.w) (A := X.A.in1) (I.ok.hd hc) (it_ne h2 co2) its2.toArray)
    have b1 := (List.getElem?_eq_some_iff.mp hu).1
    have b2 := (List.getElem?_eq_some_iff.mp hu2).1
    have hil : i < min its.toArray.size its2.toArray.size := by simp only [List.size_toArray]; omega
    refine W.goes i s _ E hil ⟨hz, hTI, ⟨a1, a2, hTO⟩, ⟨h1, co⟩, ⟨h2, co2⟩⟩ fun v h' tk hY st' hk _ => ?_
    obtain ⟨T, y1, y2, rfl, hT, hy1, hy2, hTT⟩ := hY
    have e1 : y1 = u := by
      rw [List.getElem?_toArray, hu] at hy1
      exact (Option.some.inj hy1).symm
    have e2 : y2 = u2 := by
      rw [List.getElem?_toArray, hu2] at hy2
      exact (Option.some.inj hy2).symm
    subst e1 e2
    have sub : ∀ c, c ∈ [N + 4, N + 3, N, N + 1] → c ∈ [N + 4, N + 2, N + 3, N, N + 1] := fun c hc => by
      simp only [List.mem_cons, List.not_mem_nil, or_false] at hc ⊢
      rcases hc with z | z | z | z <;> simp [z]
    have I1 : Inv X pins σ (upd H T (.tup [x, y])) { s with heap := h', toks := tk } :=
      I.turnedNew (t' := tk) (ch := [N + 4, N + 3, N, N + 1]) (fun c o hcn q => hk c o hcn q) (fun c hc => hf c (sub c hc)) hT ⟨by show 2 ≤ sizeLine; decide, _, .cons ru (.cons ru2 .nil), hTT⟩
    obtain ⟨hz', hTI', hTO', ⟨h1', _⟩, ⟨h2', _⟩⟩ := st'
    refine ⟨.ref T, _, I1, rfl, ⟨T, x, y, rfl, I.hok.fresh hT, rfl, fun zs hzs => by rw [sq_inj I hzs hq]; exact hx, fun zs hzs => by rw [sq_inj I hzs hq']; exact hy⟩, ⟨hz', hTI', hTO', h1', h2', l1, l2⟩, fun c hc => ?_⟩
    have hzl : N + 4 < s.heap.objs.size := Heap.lt_size hz
    have hcl : c < T := lt5 hzl hT (by simpa only [List.mem_cons, List.not_mem_nil, or_false] using hc)
    rw [upd_ne (Nat.ne_of_lt hcl)]
    exact (hf c hc).1
  done := by
    intro X hP hw hK hc i pins s σ H E I hf st hg
    subst hP hw hK
    obtain ⟨hz, hTI, ⟨a1, a2, hTO⟩, h1, h2, l1, l2⟩ := st
    obtain ⟨xs, ys, hq, hq', hn⟩ := hg
    obtain ⟨its, rv, co, _⟩ := sq_inv I hq
    obtain ⟨its2, rv2, co2, _⟩ := sq_inv I hq'
    have sep : ZipSep2 (N + 4) (N + 2) (N + 3) N (N + 1) [N, a] [N + 1, b] :=
      zip_sep2 (fp1 := [a]) (fp2 := [b]) (fun c hc => by rw [List.mem_singleton.mp hc]; exact l1) (fun c hc => by rw [List.mem_singleton.mp hc]; exact l2)
    have W := GoesN.zip2 (prog := X.prog) (w := X.w) (A := X.A) (elts := elts) (x1 := kk) (pos := tpos) sep (draws_k (k := k) (prog := X.prog) (w := X.w) (A := X.A.in1) (I.ok.hd hc) (it_ne h1 co) its.toArray) (draws_k (k := l) (prog := X.prog) (w := X.w) (A := X.A.in1) (I.ok.hd hc) (it_ne h2 co2) its2.toArray)
    have en : min its.toArray.size its2.toArray.size = i := by rw [List.size_toArray, List.size_toArray, ← rv.length, ← rv2.length]; exact hn
    have sub : ∀ c, c ∈ [N + 4, N + 3, N, N + 1] → c ∈ [N + 4, N + 2, N + 3, N, N + 1] := fun c hc => by
      simp only [List.mem_cons, List.not_mem_nil, or_false] at hc ⊢
      rcases hc with z | z | z | z <;> simp [z]
    exact W.stops s (fun s1 => Inv X pins σ H s1) E (by rw [en]; exact ⟨hz, hTI, ⟨a1, a2, hTO⟩, ⟨h1, co⟩, ⟨h2, co2⟩⟩) fun h' tk hk _ => I.turnedL (ch := [N + 4, N + 3, N, N + 1]) (fun c o hcn q => hk c o hcn q) fun c hc => hf c (sub c hc)
  self := fun A i s Q E st h => wpAny_pyIter_zip st.1 h
def iZ2 (k l : Kq) (K : PySem.W.Frag) (ta : TA) : TI := fun σ H R => ta σ H fun vs H1 => ∃ a b xs ys, vs = [.ref a, .ref b] ∧ sqK k K H1 a xs ∧ sqK l K H1 b ys ∧ R (Iz2 k l K a b) H1
theorem pi_z2 {X : Cx} {k l : Kq} {e e2 : Expr} {ta : TA} {p pos tpos : Pos} {elts : List Expr} {kk : Nat} (hg : Gl X "zip") (hm : X.mg "zip" = none) (ha : PA X [e, e2] ta)
    (hs : starEach [e, e2] X.env = (false, eval e X.env) :: starEach [e2] X.env) (hpl : (backTo pos (starEach [e2] X.env)).any (·.1) = false) :
    PI X (.Tuple elts kk tpos) (.Call (.Name "zip" p) [e, e2] [] pos) (iZ2 k l X.K ta) := by
  refine ⟨fun pins s σ H R I h => ?_⟩
  refine Call_ (ld_blt I hg hm PyProof.Rows.boot_zip (PyProof.Rows.callWith_type1 (thn (ha.run pos pins s σ H _ I h) fun us s1 ⟨vs, H1, I1, r1, q1⟩ => ?_) hs hpl))
  obtain ⟨a, b, xs, ys, ex, hq, hq', q⟩ := q1
  subst ex
  cases r1 with
  | cons r rr =>
    cases rr with
    | cons r' rr =>
      cases rr
      cases r
      cases r'
      obtain ⟨its, rv, co, _⟩ := sq_inv I1 hq
      obtain ⟨its2, rv2, co2, _⟩ := sq_inv I1 hq'
      refine zip_begins2 (begins_k k a its.toArray) (begins_k l b its2.toArray) co co2 fun h' hz hTI hTO h1 h2 hsz hk => wpAny_pyIter_zip hz ?_
      have I2 : Inv X pins σ H1 { s1 with heap := h' } := I1.kept (t' := s1.toks) hk
      refine ⟨s1.heap.objs.size + 4, [s1.heap.objs.size + 4, s1.heap.objs.size + 2, s1.heap.objs.size + 3, s1.heap.objs.size, s1.heap.objs.size + 1], _, _, H1, rfl, I2, turn_z2 (k := k) (l := l) (a := a) (b := b), ⟨hz, hTI, ⟨_, _, hTO⟩, it_of h1, it_of h2, co_lt co, co_lt co2⟩, fun c hcm => ?_, q⟩
      have hle : s1.heap.objs.size ≤ c := by
        simp only [List.mem_cons, List.not_mem_nil, or_false] at hcm
        rcases hcm with z | z | z | z | z
        · rw [z]; exact Nat.le_add_right _ _
        · rw [z]; exact Nat.le_add_right _ _
        · rw [z]; exact Nat.le_add_right _ _
        · rw [z]; exact Nat.le_refl _
        · rw [z]; exact Nat.le_add_right _ _
      exact I1.fpOk hle (I1.hok.fresh hle)
end Mw

set_option Elab.async false
set_option linter.all false
set_option autoImplicit false
set_option maxRecDepth 100000
/-! PyC4: targets, sources, comprehensions. -/
namespace Mw
open PySem PySem.Spec PyProof.Rows L2
variable [Tbs]

/-- tuples and locked things stay -/
def KeepT (H H' : Hp) : Prop := (∀ b, (∀ xs, H b = some (.tup xs) → H' b = some (.tup xs)) ∧ ∀ o u, H b = some (.frz o u) → H' b = some (.frz o u)) ∧ (LamX.Tabs Tbs.T H → LamX.Tabs Tbs.T H')
section
variable {K : PySem.W.Frag} {β β' : List Addr} {st : Sto} {H H' H0 : Hp}
theorem KeepT.upd {a : Addr} {us : List V} {o : HO} (h : H a = some (.lst us)) : KeepT H (L2.upd H a o) := ⟨fun b =>
  ⟨fun xs e => by rw [upd_ne fun z => by rw [z, h] at e; cases e]; exact e, fun o u e => by rw [upd_ne fun z => by rw [z, h] at e; cases e]; exact e⟩, tabs_upd (lst_nf h).tbl (lst_nf h).ext⟩
theorem SqT.keepT {a : Addr} {vs : List V} (k : KeepT H H') (h : SqT K H a vs) : SqT K H' a vs := by
  rcases h with (h | ⟨o, h⟩) | h
  · exact .inl (.inl ((k.1 a).1 _ h))
  · exact .inl (.inr ⟨o, (k.1 a).2 _ _ h⟩)
  · exact .inr h
theorem SqU.keepT {a : Addr} {vs : List V} (k : KeepT H H') (h : SqU K H a vs) : SqU K H' a vs := by
  rcases h with h | ⟨h, q⟩
  · exact .inl ((k.1 a).1 _ h)
  · exact .inr ⟨SqT.keepT k h, q⟩
theorem SqF.keepT {a : Addr} {vs : List V} (k : KeepT H H') (h : SqF K H a vs) : SqF K H' a vs := by
  rcases h with ⟨o, h⟩ | h
  · exact .inl ⟨o, (k.1 a).2 _ _ h⟩
  · exact .inr h
mutual
theorem Rep.keepT (k : KeepT H H') : ∀ (d : D) (v : V), Rep K β H d v → Rep K β H' d v
  | .non, _, h => h
  | .bl _, _, h => h
  | .int _, _, h => h
  | .str _, _, h => h
  | .tup xs, v, h => by obtain ⟨a, vs, e1, h1, h2⟩ := h; exact ⟨a, vs, e1, SqU.keepT k h1, RepL.keepT k xs vs h2⟩
  | .rol xs, v, h => by obtain ⟨a, vs, e1, h1, h2⟩ := h; exact ⟨a, vs, e1, SqF.keepT k h1, RepL.keepT k xs vs h2⟩
  | .ref n, v, h => h
theorem RepL.keepT (k : KeepT H H') : ∀ (ds : List D) (vs : List V), RepL K β H ds vs → RepL K β H' ds vs
  | [], _, h => h
  | x :: xs, vs, h => by obtain ⟨v, r, e1, h1, h2⟩ := h; exact ⟨v, r, e1, Rep.keepT k x v h1, RepL.keepT k xs r h2⟩
end
theorem Sim.keepT (s : Sim K β st H) (k : KeepT H H') (ha : ∀ a ∈ β, H' a = H a) : Sim K β st H' :=
  ⟨s.len, s.nd, fun n a o h1 h2 => by
    have q := s.obj n a o h1 h2
    cases o with
    | lst xs => obtain ⟨vs, q1, q2⟩ := q; exact ⟨vs, (ha a (List.mem_of_getElem? h1)).trans q1, RepL.keepT k _ _ q2⟩
    | dic lk kvs => obtain ⟨ks, q1, q2, q3⟩ := q; exact ⟨ks, by rw [ha a (List.mem_of_getElem? h1)]; exact q1, q2, RepL.keepT k _ _ q3⟩
    | dit lk kvs => obtain ⟨ks, q1, q2, q3⟩ := q; exact ⟨ks, by rw [ha a (List.mem_of_getElem? h1)]; exact q1, q2, RepL.keepT k _ _ q3⟩
    | ins _ _ => obtain ⟨dx, vs, q1, q2, q3⟩ := q; exact ⟨dx, vs, (ha a (List.mem_of_getElem? h1)).trans q1, q2, RepL.keepT k _ _ q3⟩, k.2 s.tab⟩
theorem EnvR.keepT (k : KeepT H H') {ρ : Env} {σ : L2.St} (h : EnvR K β H ρ σ) : EnvR K β H' ρ σ :=
  ⟨h.1, fun i d hi => let ⟨v, h1, h2⟩ := h.2 i d hi; ⟨v, h1, Rep.keepT k d v h2⟩⟩
end
/-! ### targets -/
mutual
def slotsT : Tgt → List Nat
  | .nm i => [i]
  | .tp ts => slotsTs ts
def slotsTs : Tgts → List Nat
  | .nil => []
  | .cons t ts => slotsT t ++ slotsTs ts
end
/-- only these slots may have changed -/
def OnlyAt (σ σ' : L2.St) (l : List Nat) : Prop := σ'.length = σ.length ∧ ∀ j, j ∉ l → σ'[j]? = σ[j]?
theorem OnlyAt.refl {σ : L2.St} {l : List Nat} : OnlyAt σ σ l := ⟨rfl, fun _ _ => rfl⟩
theorem OnlyAt.trans {σ σ1 σ2 : L2.St} {l l1 l2 : List Nat} (a : OnlyAt σ σ1 l1) (b : OnlyAt σ1 σ2 l2) (h1 : ∀ j ∈ l1, j ∈ l) (h2 : ∀ j ∈ l2, j ∈ l) : OnlyAt σ σ2 l :=
  ⟨b.1.trans a.1, fun j hj => (b.2 j fun z => hj (h2 j z)).trans (a.2 j fun z => hj (h1 j z))⟩
theorem wipe_get (σ : L2.St) (j : Nat) : ∀ vs : List Nat, (wipe σ vs)[j]? = if j ∈ vs then (if j < σ.length then some none else none) else σ[j]?
  | [] => by simp [wipe]
  | v :: vs => by
    have ih := wipe_get σ j vs
    have hl := wipe_length σ vs
    unfold wipe
    by_cases hv : v = j
    · subst hv
      by_cases hj : v < σ.length
      · rw [List.getElem?_set_self (by rw [hl]; exact hj)]; simp [hj]
      · rw [List.getElem?_eq_none (by simp; omega)]; simp [hj]
    · rw [List.getElem?_set_ne hv, ih]
      have : (j ∈ v :: vs) ↔ j ∈ vs := by simp [Ne.symm hv]
      simp only [this]
theorem wipe_only {σ σ' : L2.St} {l vs : List Nat} (h : OnlyAt σ σ' l) (hs : ∀ j ∈ l, j ∈ vs) : wipe σ' vs = wipe σ vs := by
  refine List.ext_getElem? fun j => ?_
  rw [wipe_get, wipe_get, h.1]
  split
  · rfl
  · rename_i hj
    exact h.2 j fun z => hj (hs j z)
theorem wipe_twice (σ : L2.St) (vs : List Nat) : wipe (wipe σ vs) vs = wipe σ vs := by
  refine List.ext_getElem? fun j => ?_
  rw [wipe_get, wipe_get, wipe_length]
  split <;> simp_all
theorem wipeD_get (ρ : Env) (j : Nat) : ∀ vs : List Nat, (wipeD ρ vs)[j]? = if j ∈ vs then (if j < ρ.length then some none else none) else ρ[j]?
  | [] => by simp [wipeD]
  | v :: vs => by
    have ih := wipeD_get ρ j vs
    have hl : (wipeD ρ vs).length = ρ.length := by
      have : ∀ ws : List Nat, (wipeD ρ ws).length = ρ.length := fun ws => by
        induction ws with
        | nil => rfl
        | cons w ws ih => simp [wipeD, ih]
      exact this vs
    unfold wipeD
    by_cases hv : v = j
    · subst hv
      by_cases hj : v < ρ.length
      · rw [List.getElem?_set_self (by rw [hl]; exact hj)]; simp [hj]
      · rw [List.getElem?_eq_none (by simp; omega)]; simp [hj]
    · rw [List.getElem?_set_ne hv, ih]
      have : (j ∈ v :: vs) ↔ j ∈ vs := by simp [Ne.symm hv]
      simp only [this]
theorem wipeD_length (ρ : Env) : ∀ vs : List Nat, (wipeD ρ vs).length = ρ.length
  | [] => rfl
  | v :: vs => by simp [wipeD, wipeD_length ρ vs]
theorem EnvR.wipe {K : PySem.W.Frag} {β : List Addr} {H : Hp} {ρ : Env} {σ : L2.St} (h : EnvR K β H ρ σ) (vs : List Nat) : EnvR K β H (wipeD ρ vs) (L2.wipe σ vs) := by
  refine ⟨by rw [wipeD_length, wipe_length]; exact h.1, fun i d hi => ?_⟩
  rw [wipeD_get] at hi
  rw [wipe_get]
  split at hi
  · split at hi <;> cases hi
  · rename_i hn
    rw [if_neg hn]
    exact h.2 i d hi
def tTg (K : PySem.W.Frag) (t : Tgt) : TG := fun v σ H Q =>
  ∃ β d ρ ρ', Rep K β H d v ∧ EnvR K β H ρ σ ∧ setT t d ρ = some ρ' ∧ ∀ σ', EnvR K β H ρ' σ' → OnlyAt σ σ' (slotsT t) → Q σ' H
def tTgs (K : PySem.W.Frag) (ts : Tgts) : TGs := fun vs σ H Q =>
  ∃ β ds ρ ρ', RepL K β H ds vs ∧ EnvR K β H ρ σ ∧ setTs ts ds ρ = some ρ' ∧ ∀ σ', EnvR K β H ρ' σ' → OnlyAt σ σ' (slotsTs ts) → Q σ' H
section
variable {X : Cx} {C : Call} {K : PySem.W.Frag}
theorem PG.imp {e : Expr} {t t' : TG} (h : PG X e t) (i : ∀ v σ H Q, t' v σ H Q → t v σ H Q) : PG X e t' := ⟨fun pins s σ H v u Q I r hw => h.run pins s σ H v u Q I r (i v σ H Q hw)⟩
theorem PGs.imp {e : List Expr} {t t' : TGs} (h : PGs X e t) (i : ∀ v σ H Q, t' v σ H Q → t v σ H Q) : PGs X e t' := ⟨fun pins s σ H v u Q I r hw => h.run pins s σ H v u Q I r (i v σ H Q hw)⟩
theorem g_nm {i : Nat} {x : Str} {pos : Pos} (hN : X.N.Nodup) (hi : X.N[i]? = some x) (hx : Loc X.env.scope x) (hf : X.fn x = true ∨ X.env.scope.names.lookup x = some .local) : PG X (.Name x pos) (tTg X.K (.nm i)) :=
  PG.imp (pg_name hN hi hx hf) fun v σ H Q ⟨β, d, ρ, ρ', r, en, e, q⟩ => by
    simp only [setT, Option.some.injEq] at e
    subst e
    exact q _ (en.set r) ⟨by simp, fun j hj => by rw [List.getElem?_set_ne (fun z => hj (by simp [slotsT, z]))]⟩
theorem asg_plain {e : Expr} {es : List Expr} {env : PySem.Env} (h : plainE e = true) : assignEach (e :: es) env = (false, assign e env) :: assignEach es env := by
  cases e <;> first | rfl | (cases h)
theorem asg_len : ∀ {es : List Expr} {env : PySem.Env}, es.all plainE = true → (assignEach es env).length = es.length ∧ (assignEach es env).findIdx? (·.1) = none
  | [], _, _ => ⟨rfl, rfl⟩
  | e :: es, env, h => by
    rw [List.all_cons, Bool.and_eq_true] at h
    obtain ⟨h1, h2⟩ := asg_len (env := env) h.2
    rw [asg_plain h.1]
    refine ⟨by simp [h1], ?_⟩
    rw [List.findIdx?_cons]
    simp [h2]
theorem g_nil : PGs X [] (tTgs X.K .nil) := PGs.imp pgs_nil fun v σ H Q ⟨β, ds, ρ, ρ', r, en, e, q⟩ => by
  simp only [setTs] at e
  split at e
  · simp only [Option.some.injEq] at e
    subst e
    exact ⟨r, q σ en OnlyAt.refl⟩
  · cases e
theorem g_cons {e : Expr} {es : List Expr} {t : Tgt} {ts : Tgts} (hp : plainE e = true) (h1 : PG X e (tTg X.K t)) (h2 : PGs X es (tTgs X.K ts)) : PGs X (e :: es) (tTgs X.K (.cons t ts)) :=
  PGs.imp (pgs_cons h1 h2 (by rw [asg_plain hp]; rfl)) fun v σ H Q ⟨β, ds, ρ, ρ', r, en, e, q⟩ => by
    simp only [setTs] at e
    split at e
    · rename_i d rest
      split at e
      · rename_i ρ1 e1
        obtain ⟨v, w, rfl, r1, r2⟩ := r
        refine ⟨v, w, rfl, β, d, ρ, ρ1, r1, en, e1, fun σ1 en1 o1 => ⟨β, rest, ρ1, ρ', r2, en1, e, fun σ2 en2 o2 => ?_⟩⟩
        exact q σ2 en2 (o1.trans o2 (fun j hj => by simp [slotsTs, hj]) fun j hj => by simp [slotsTs, hj])
      · cases e
    · cases e
def lenTs : Tgts → Nat
  | .nil => 0
  | .cons _ ts => lenTs ts + 1
theorem setTs_length : ∀ {ts : Tgts} {ds : List D} {ρ ρ' : Env}, setTs ts ds ρ = some ρ' → ds.length = lenTs ts
  | .nil, ds, ρ, ρ', e => by
    simp only [setTs] at e
    split at e
    · rfl
    · cases e
  | .cons t ts, ds, ρ, ρ', e => by
    simp only [setTs] at e
    split at e
    · split at e
      · simp [lenTs, setTs_length e]
      · cases e
    · cases e
theorem g_tp {es : List Expr} {k : Nat} {pos : Pos} {ts : Tgts} (hc : X.calm = true) (h : PGs X es (tTgs X.K ts)) (hp : es.all plainE = true) (hl : es.length = lenTs ts) : PG X (.Tuple es k pos) (tTg X.K (.tp ts)) :=
  PG.imp (pg_tup (n := es.length) hc h (asg_len hp).1 (asg_len hp).2) fun v σ H Q ⟨β, d, ρ, ρ', r, en, e, q⟩ => by
    simp only [setT] at e
    split at e
    · rename_i xs
      obtain ⟨a, vs, rfl, r1, r2⟩ := r
      refine ⟨a, vs, rfl, r1.sq, ?_, β, xs, ρ, ρ', r2, en, e, fun σ' en' o => q σ' en' o⟩
      rw [← r2.length, setTs_length e, hl]
    · cases e
/-! ### sources -/
structure ItOk (K : PySem.W.Frag) (β : List Addr) (H : Hp) (v : SV) (J : It) : Prop where
  turn : ∀ β2 st2 H2, Ext β H β2 H2 → Sim K β2 st2 H2 → chk v.ws st2 = true → ∀ (i : Nat) d, v.xs[i]? = some d → J.go i H2 ∧ ∀ x H3, J.yld i H2 x H3 → Ext β2 H2 β2 H3 ∧ Sim K β2 st2 H3 ∧ Rep K β2 H3 d x
  stop : ∀ β2 st2 H2, Ext β H β2 H2 → Sim K β2 st2 H2 → chk v.ws st2 = true → J.stop v.xs.length H2
  len : v.big = false → v.xs.length ≤ sizeLine
def tS (K : PySem.W.Frag) (C : Call) (c : Src) : TI := fun σ H R =>
  ∃ β st ρ v st', Sim K β st H ∧ EnvR K β H ρ σ ∧ evS C c ρ st = some (v, st') ∧ ∀ β' H' J, Ext β H β' H' → Sim K β' st' H' → ItOk K β' H' v J → R J H'
theorem PI.imp {tg e : Expr} {t t' : TI} (h : PI X tg e t) (i : ∀ σ H R, t' σ H R → t σ H R) : PI X tg e t' := ⟨fun pins s σ H R I hw => h.run pins s σ H R I (i σ H R hw)⟩
theorem PI.or {tg e : Expr} {t t' : TI} (h : PI X tg e t) (h' : PI X tg e t') : PI X tg e (fun σ H R => t σ H R ∨ t' σ H R) := ⟨fun pins s σ H R I hw => hw.elim (h.run pins s σ H R I) (h'.run pins s σ H R I)⟩
/-- lists and tuples that stand are no longer than the line -/
def Lens (K : PySem.W.Frag) (H : Hp) : Prop := ∀ k a xs, sqK k K H a xs → xs.length ≤ sizeLine
theorem PI.len {tg e : Expr} {t : TI} (h : PI X tg e t) : PI X tg e (fun σ H R => t σ H fun J H' => Lens X.K H' → R J H') := ⟨fun pins s σ H R I hw => by
  refine thn (h.run pins s σ H _ I hw) fun v s1 h1 => thn h1 fun itv s2 h2 => ?_
  obtain ⟨it, fp, tn, J, H', e, I2, T, st2, f2, r⟩ := h2
  exact ⟨it, fp, tn, J, H', e, I2, T, st2, f2, r fun k a xs hq => by obtain ⟨_, _, _, hz⟩ := sq_inv I2 hq; exact hz⟩⟩
/-- the kind of a walked value -/
def kqOf : RV → Kq
  | .val (.tup _) => .T
  | _ => .L
/-- a list or tuple as a source: where it stands from now on -/
theorem seqSrc {β : List Addr} {st : Sto} {H H0 : Hp} {rx : RV} {x : V} {v : SV} (s : Sim K β st H) (hx : RRep K β H H0 rx x) (e : srcSeq st rx = some v) :
    v.big = false ∧ ∃ a vs, x = .ref a ∧ sqK (kqOf rx) K H a vs ∧ RepL K β H v.xs vs ∧ ∀ β2 st2 H2, Ext β H β2 H2 → Sim K β2 st2 H2 → chk v.ws st2 = true → ∃ vs2, sqK (kqOf rx) K H2 a vs2 ∧ RepL K β2 H2 v.xs vs2 := by
  cases rx with
  | tmp zs =>
    simp only [srcSeq, Option.some.injEq] at e; subst e
    obtain ⟨a, vs, rfl, h1, h2, h3, h4⟩ := hx
    exact ⟨rfl, a, vs, rfl, SqL.of h1, h4, fun β2 st2 H2 x2 s2 _ => ⟨vs, SqL.of (x2.keep.get h1 h2), RepL.mono s x2 _ _ h4⟩⟩
  | val d =>
    cases d with
    | tup zs =>
      simp only [srcSeq, Option.some.injEq] at e; subst e
      obtain ⟨a, vs, rfl, h1, h2⟩ := hx
      exact ⟨rfl, a, vs, rfl, h1.sq, h2, fun β2 st2 H2 x2 s2 _ => ⟨vs, s.tup x2.keep h1.sq, RepL.mono s x2 _ _ h2⟩⟩
    | rol zs =>
      simp only [srcSeq, Option.some.injEq] at e; subst e
      obtain ⟨a, vs, rfl, h1, h2⟩ := hx
      exact ⟨rfl, a, vs, rfl, h1.sq, h2, fun β2 st2 H2 x2 s2 _ => ⟨vs, (s.fro x2.keep h1).sq, RepL.mono s x2 _ _ h2⟩⟩
    | ref n =>
      simp only [srcSeq] at e
      split at e
      · rename_i zs hz
        simp only [Option.some.injEq] at e; subst e
        obtain ⟨a, h1, rfl⟩ := hx
        obtain ⟨vs, h2, h3⟩ := s.obj n a _ h1 hz
        refine ⟨rfl, a, vs, rfl, SqL.of h2, h3, fun β2 st2 H2 x2 s2 hc => ?_⟩
        simp only [chk, List.all_cons, List.all_nil, Bool.and_true, decide_eq_true_eq] at hc
        obtain ⟨vs2, g2, g3⟩ := s2.obj n a _ (x2.get h1) hc
        exact ⟨vs2, SqL.of g2, g3⟩
      · cases e
    | _ => simp [srcSeq] at e
theorem chk_app {l m : List (Nat × O)} {st : Sto} (h : chk (l ++ m) st = true) : chk l st = true ∧ chk m st = true := by
  simp only [chk, List.all_append, Bool.and_eq_true] at h
  exact h
theorem RepL.at {β : List Addr} {H : Hp} : ∀ {ds : List D} {vs : List V}, RepL K β H ds vs → ∀ {i : Nat} {d : D}, ds[i]? = some d → ∃ v, vs[i]? = some v ∧ Rep K β H d v
  | [], _, _, _, _, e => by simp at e
  | x :: xs, _, ⟨v, r, rfl, h1, h2⟩, 0, d, e => by simp only [List.getElem?_cons_zero, Option.some.injEq] at e; subst e; exact ⟨v, rfl, h1⟩
  | x :: xs, _, ⟨v, r, rfl, h1, h2⟩, i + 1, d, e => by simp only [List.getElem?_cons_succ] at e ⊢; exact RepL.at h2 e

def Itk (k : Kq) (K : PySem.W.Frag) (a : Addr) : It := match k with
  | .L => Itl K a
  | .T => Itt K a
theorem Itk.eq (k : Kq) (K : PySem.W.Frag) (a : Addr) : Itk k K a = ⟨fun i H => ∃ xs x, sqK k K H a xs ∧ xs[i]? = some x, fun i H x H' => H' = H ∧ ∀ xs, sqK k K H a xs → xs[i]? = some x, fun i H => ∃ xs, sqK k K H a xs ∧ xs.length ≤ i⟩ := by
  cases k <;> rfl
/-- what a walk over a standing list or tuple gives -/
def Stn (k : Kq) (K : PySem.W.Frag) (β : List Addr) (H : Hp) (v : SV) (a : Addr) : Prop :=
  ∃ vs, sqK k K H a vs ∧ RepL K β H v.xs vs ∧ ∀ β2 st2 H2, Ext β H β2 H2 → Sim K β2 st2 H2 → chk v.ws st2 = true → ∃ vs2, sqK k K H2 a vs2 ∧ RepL K β2 H2 v.xs vs2
theorem itok_seq {k : Kq} {β : List Addr} {H : Hp} {v : SV} {a : Addr} (h : Stn k K β H v a) (hl : Lens K H) : ItOk K β H v (Itk k K a) := by
  obtain ⟨vs, h1, h2, h3⟩ := h
  rw [Itk.eq]
  refine ⟨fun β2 st2 H2 x2 s2 hc i d hd => ?_, fun β2 st2 H2 x2 s2 hc => ?_, fun _ => by rw [h2.length]; exact hl k a vs h1⟩
  · obtain ⟨vs2, g1, g2⟩ := h3 β2 st2 H2 x2 s2 hc
    obtain ⟨w, hw, rw_⟩ := RepL.at g2 hd
    refine ⟨⟨vs2, w, g1, hw⟩, fun x H3 hy => ?_⟩
    obtain ⟨rfl, hy⟩ := hy
    have := hy vs2 g1
    rw [hw] at this
    cases this
    exact ⟨.refl, s2, rw_⟩
  · obtain ⟨vs2, g1, g2⟩ := h3 β2 st2 H2 x2 s2 hc
    exact ⟨vs2, g1, by rw [g2.length]; exact Nat.le_refl _⟩
theorem s_ex {tg e : Expr} {a : CE} (ha : PE X e (tE X.K C a)) : PI X tg e (tS X.K C (.ex a)) :=
  PI.imp (PI.or (PI.len (pi_list ha)) (PI.or (PI.len (pi_tup ha)) (pi_str ha))) fun σ H R ⟨β, st, ρ, v, st', s, en, e, q⟩ => by
    simp only [evS] at e
    split at e
    · cases e
    rename_i r st1 e1
    simp only [Option.map_eq_some_iff, Prod.mk.injEq] at e
    obtain ⟨w, e2, rfl, rfl⟩ := e
    unfold srcOf at e2
    split at e2
    · rename_i z
      simp only [Option.some.injEq] at e2; subst e2
      refine .inr (.inr (seq1 s en e1 fun v β1 H1 x1 s1 r1 en1 => ⟨z, r1, q β1 H1 _ x1 s1 ⟨fun β2 st2 H2 x2 s2 _ i d hd => ?_, fun β2 st2 H2 x2 s2 _ => ?_, fun hb => by cases hb⟩⟩))
      · simp only [List.getElem?_map, Option.map_eq_some_iff] at hd
        obtain ⟨cc, hcc, rfl⟩ := hd
        have hcc' : z.cps[i]? = some cc := by simpa using hcc
        refine ⟨(Array.getElem?_eq_some_iff.mp hcc').1, fun x H3 hy => ?_⟩
        obtain ⟨rfl, c2, h2, rfl⟩ := hy
        rw [hcc'] at h2
        cases h2
        exact ⟨.refl, s2, rfl⟩
      · show z.cps.size ≤ _
        simp
    · cases hk : kqOf r with
      | L =>
        refine .inl (seq1 s en e1 fun v β1 H1 x1 s1 r1 en1 => ?_)
        obtain ⟨_, a, vs, rfl, h⟩ := seqSrc s1 r1 e2
        rw [hk] at h
        exact ⟨a, rfl, ⟨vs, h.1⟩, fun hl => q β1 H1 _ x1 s1 (itok_seq ⟨vs, h⟩ hl)⟩
      | T =>
        refine .inr (.inl (seq1 s en e1 fun v β1 H1 x1 s1 r1 en1 => ?_))
        obtain ⟨_, a, vs, rfl, h⟩ := seqSrc s1 r1 e2
        rw [hk] at h
        exact ⟨a, rfl, ⟨vs, h.1⟩, fun hl => q β1 H1 _ x1 s1 (itok_seq ⟨vs, h⟩ hl)⟩
/-! ranges -/
theorem s_rngN {β : List Addr} {H : Hp} {lo : Int} {n : Nat} : ItOk K β H ⟨rangeD lo n, [], true⟩ (Itr lo n) :=
  ⟨fun β2 st2 H2 x2 s2 _ i d hd => by
    simp only [rangeD, List.getElem?_map, Option.map_eq_some_iff] at hd
    obtain ⟨j, hj, rfl⟩ := hd
    obtain ⟨hi, hj⟩ := List.getElem?_eq_some_iff.mp hj
    simp only [List.length_range] at hi
    simp only [List.getElem_range] at hj
    subst hj
    exact ⟨hi, fun x H3 hy => by obtain ⟨rfl, rfl⟩ := hy; exact ⟨.refl, s2, rfl⟩⟩,
  fun β2 st2 H2 x2 s2 _ => by simp [rangeD, Itr], fun hb => by cases hb⟩
theorem s_rngC {β : List Addr} {H : Hp} {i : Int} {n : Nat} : ItOk K β H ⟨(List.range n).map fun (k : Nat) => .int (i - (k : Int)), [], true⟩ (Itc i (-1) n) :=
  ⟨fun β2 st2 H2 x2 s2 _ i d hd => by
    simp only [List.getElem?_map, Option.map_eq_some_iff] at hd
    obtain ⟨j, hj, rfl⟩ := hd
    obtain ⟨hi, hj⟩ := List.getElem?_eq_some_iff.mp hj
    simp only [List.length_range] at hi
    simp only [List.getElem_range] at hj
    subst hj
    exact ⟨hi, fun x H3 hy => by obtain ⟨rfl, rfl⟩ := hy; exact ⟨.refl, s2, by show _ = _; congr 1; omega⟩⟩,
  fun β2 st2 H2 x2 s2 _ => by simp [Itc], fun hb => by cases hb⟩
theorem seqR {β : List Addr} {st st1 : Sto} {ρ : Env} {σ : L2.St} {H : Hp} {a : CEs} {x : List RV} (s : Sim K β st H) (en : EnvR K β H ρ σ) (e : evR C a ρ st = some (x, st1)) {P : List V → Hp → Prop}
    (k : ∀ v β1 H1, Ext β H β1 H1 → Sim K β1 st1 H1 → RRepL K β1 H1 H x v → EnvR K β1 H1 ρ σ → P v H1) : tR K C a σ H P :=
  ⟨β, st, ρ, x, st1, s, en, e, fun v β1 H1 e1 s1 r1 => k v β1 H1 e1 s1 r1 (en.mono s e1)⟩
theorem i62_of {j : Int} (h : i62 j = true) : -(2 ^ 62) ≤ j ∧ j < 2 ^ 62 := i62_iff.mp h
end
end Mw

set_option Elab.async false
set_option linter.all false
set_option autoImplicit false
set_option maxRecDepth 100000
/-! PyC5: ranges, enumerate, zip; comprehensions. -/
namespace Mw
open PySem PySem.Spec PyProof.Rows L2
variable [Tbs]
def lenC : CEs → Nat
  | .nil => 0
  | .cons _ es => lenC es + 1
theorem evR_len {C : Call} : ∀ {es : CEs} {ρ : Env} {st st' : Sto} {rs : List RV}, evR C es ρ st = some (rs, st') → rs.length = lenC es
  | .nil, ρ, st, st', rs, e => by
    simp only [evR, Option.some.injEq, Prod.mk.injEq] at e
    rw [← e.1]; rfl
  | .cons c es, ρ, st, st', rs, e => by
    simp only [evR] at e
    split at e
    · cases e
    · split at e
      · cases e
      · rename_i h
        simp only [Option.some.injEq, Prod.mk.injEq] at e
        rw [← e.1, List.length_cons, evR_len h]; rfl
section
variable {X : Cx} {C : Call} {K : PySem.W.Frag}
theorem s_rng1 {tg e : Expr} {es : CEs} {p pos : Pos} (hl : lenC es = 1) (hp : plainE e = true) (hg : Gl X "range") (hm : X.mg "range" = none) (ha : PA X [e] (tR X.K C es)) :
    PI X tg (.Call (.Name "range" p) [e] [] pos) (tS X.K C (.rng es)) :=
  PI.imp (pi_range1 hg hm ha (by rw [star_plain hp]; rfl)) fun σ H R ⟨β, st, ρ, v, st', s, en, e, q⟩ => by
    simp only [evS] at e
    split at e
    · cases e
    rename_i rs st1 e1
    simp only [Option.map_eq_some_iff, Prod.mk.injEq] at e
    obtain ⟨w, e2, rfl, rfl⟩ := e
    have hlr := evR_len e1
    refine seqR s en e1 fun vs β1 H1 x1 s1 r1 en1 => ?_
    unfold rngOf at e2
    split at e2
    · split at e2
      · rename_i j hj
        simp only [Option.some.injEq] at e2; subst e2
        obtain ⟨v, rfl, rv⟩ := one_rep r1
        cases rv
        exact ⟨j, rfl, (i62_of hj).1, (i62_of hj).2, q β1 H1 _ x1 s1 s_rngN⟩
      · cases e2
    · simp [hl] at hlr
    · simp [hl] at hlr
    · cases e2
theorem s_rng2 {tg e e' : Expr} {es : CEs} {p pos : Pos} (hl : lenC es = 2) (hp : plainE e = true) (hp' : plainE e' = true) (hg : Gl X "range") (hm : X.mg "range" = none) (ha : PA X [e, e'] (tR X.K C es)) :
    PI X tg (.Call (.Name "range" p) [e, e'] [] pos) (tS X.K C (.rng es)) :=
  PI.imp (pi_range2 hg hm ha (by rw [star_plain hp, star_plain hp']; rfl) (by rw [star_plain hp']; rfl)) fun σ H R ⟨β, st, ρ, v, st', s, en, e, q⟩ => by
    simp only [evS] at e
    split at e
    · cases e
    rename_i rs st1 e1
    simp only [Option.map_eq_some_iff, Prod.mk.injEq] at e
    obtain ⟨w, e2, rfl, rfl⟩ := e
    have hlr := evR_len e1
    refine seqR s en e1 fun vs β1 H1 x1 s1 r1 en1 => ?_
    unfold rngOf at e2
    split at e2
    · simp [hl] at hlr
    · split at e2
      · rename_i i j hj
        rw [Bool.and_eq_true] at hj
        simp only [Option.some.injEq] at e2; subst e2
        obtain ⟨v, v', rfl, rv, rv'⟩ := two_rep r1
        cases rv
        cases rv'
        exact ⟨i, j, rfl, ⟨(i62_of hj.1).1, (i62_of hj.1).2, (i62_of hj.2).1, (i62_of hj.2).2⟩, q β1 H1 _ x1 s1 s_rngN⟩
      · cases e2
    · simp [hl] at hlr
    · cases e2
theorem s_rng3 {tg e e' e'' : Expr} {es : CEs} {p pos : Pos} (hl : lenC es = 3) (hp : plainE e = true) (hp' : plainE e' = true) (hp'' : plainE e'' = true) (hg : Gl X "range") (hm : X.mg "range" = none) (ha : PA X [e, e', e''] (tR X.K C es)) :
    PI X tg (.Call (.Name "range" p) [e, e', e''] [] pos) (tS X.K C (.rng es)) :=
  PI.imp (pi_range3 hg hm ha (by rw [star_plain hp]) (stars_plain (by simp [hp', hp'']))) fun σ H R ⟨β, st, ρ, v, st', s, en, e, q⟩ => by
    simp only [evS] at e
    split at e
    · cases e
    rename_i rs st1 e1
    simp only [Option.map_eq_some_iff, Prod.mk.injEq] at e
    obtain ⟨w, e2, rfl, rfl⟩ := e
    have hlr := evR_len e1
    refine seqR s en e1 fun vs β1 H1 x1 s1 r1 en1 => ?_
    unfold rngOf at e2
    split at e2
    · simp [hl] at hlr
    · simp [hl] at hlr
    · split at e2
      · rename_i i j hj
        rw [Bool.and_eq_true] at hj
        simp only [Option.some.injEq] at e2; subst e2
        obtain ⟨v, w1, rfl, rv, v', w2, rfl, rv', v'', w3, rfl, rv'', rfl⟩ := r1
        cases rv
        cases rv'
        cases rv''
        exact ⟨i, j, -1, _, rfl, RgC.neg (i62_of hj.1).1 (i62_of hj.1).2 (i62_of hj.2).1 (i62_of hj.2).2, q β1 H1 _ x1 s1 s_rngC⟩
      · cases e2
    · cases e2
/-! enumerate -/
theorem enmD_get : ∀ (k : Nat) (xs : List D) (i : Nat), (enmD k xs)[i]? = (xs[i]?).map fun x => .tup [.int ((k + i : Nat) : Int), x]
  | k, [], i => by simp [enmD]
  | k, x :: xs, 0 => by simp [enmD]
  | k, x :: xs, i + 1 => by
    simp only [enmD, List.getElem?_cons_succ]
    rw [enmD_get (k + 1) xs i]
    have : k + 1 + i = k + (i + 1) := by omega
    rw [this]
theorem enmD_len : ∀ (k : Nat) (xs : List D), (enmD k xs).length = xs.length
  | k, [] => rfl
  | k, x :: xs => by simp [enmD, enmD_len]
theorem itok_ex {k : Kq} {β : List Addr} {H : Hp} {v : SV} {a : Addr} (h : Stn k K β H v a) (hl : Lens K H) : ItOk K β H ⟨enmD 0 v.xs, v.ws, false⟩ (Iex k K a) := by
  obtain ⟨vs, h1, h2, h3⟩ := h
  refine ⟨fun β2 st2 H2 x2 s2 hc i d hd => ?_, fun β2 st2 H2 x2 s2 hc => ?_, fun _ => by simp only [enmD_len]; rw [h2.length]; exact hl k a vs h1⟩
  · obtain ⟨vs2, g1, g2⟩ := h3 β2 st2 H2 x2 s2 hc
    simp only [enmD_get, Option.map_eq_some_iff, Nat.zero_add] at hd
    obtain ⟨d, hd, rfl⟩ := hd
    obtain ⟨w, hw, rw_⟩ := RepL.at g2 hd
    refine ⟨⟨vs2, w, g1, hw⟩, fun x H3 hy => ?_⟩
    obtain ⟨T, x, rfl, hT, rfl, hx⟩ := hy
    have := hx vs2 g1
    rw [hw] at this
    cases this
    exact ⟨.new hT, s2.new hT, _, _, rfl, SqU.of upd_same, (.int (i : Nat)), [_], rfl, rfl, _, [], rfl, Rep.mono s2 (.new hT) _ _ rw_, rfl⟩
  · obtain ⟨vs2, g1, g2⟩ := h3 β2 st2 H2 x2 s2 hc
    exact ⟨vs2, g1, by simp only [enmD_len]; exact g2.length.symm⟩
theorem s_enm {e : Expr} {a : CE} {p pos tpos : Pos} {elts : List Expr} {kk : Nat} (hp : plainE e = true) (hg : Gl X "enumerate") (hm : X.mg "enumerate" = none) (ha : PA X [e] (tR X.K C (.cons a .nil))) :
    PI X (.Tuple elts kk tpos) (.Call (.Name "enumerate" p) [e] [] pos) (tS X.K C (.enm a)) :=
  PI.imp (PI.or (PI.len (pi_ex (k := .L) hg hm ha (by rw [star_plain hp]; rfl))) (PI.len (pi_ex (k := .T) hg hm ha (by rw [star_plain hp]; rfl)))) fun σ H R ⟨β, st, ρ, v, st', s, en, e, q⟩ => by
    simp only [evS] at e
    split at e
    · cases e
    rename_i r st1 e1
    simp only [Option.map_eq_some_iff, Prod.mk.injEq] at e
    obtain ⟨w, e2, rfl, rfl⟩ := e
    have e1' : evR C (.cons a .nil) ρ st = some ([r], st1) := by simp only [evR, e1]
    cases hk : kqOf r with
    | L =>
      refine .inl (seqR s en e1' fun vs β1 H1 x1 s1 r1 en1 => ?_)
      obtain ⟨v, rfl, r2⟩ := one_rep r1
      obtain ⟨_, a, ws, rfl, h⟩ := seqSrc s1 r2 e2
      rw [hk] at h
      exact ⟨a, ws, rfl, h.1, fun hl => q β1 H1 _ x1 s1 (itok_ex ⟨ws, h⟩ hl)⟩
    | T =>
      refine .inr (seqR s en e1' fun vs β1 H1 x1 s1 r1 en1 => ?_)
      obtain ⟨v, rfl, r2⟩ := one_rep r1
      obtain ⟨_, a, ws, rfl, h⟩ := seqSrc s1 r2 e2
      rw [hk] at h
      exact ⟨a, ws, rfl, h.1, fun hl => q β1 H1 _ x1 s1 (itok_ex ⟨ws, h⟩ hl)⟩
/-! zip -/
theorem itok_z2 {k l : Kq} {β : List Addr} {H : Hp} {v w : SV} {a b : Addr} (h : Stn k K β H v a) (h' : Stn l K β H w b) (hl : Lens K H) : ItOk K β H ⟨List.zipWith (fun x y => .tup [x, y]) v.xs w.xs, v.ws ++ w.ws, false⟩ (Iz2 k l K a b) := by
  obtain ⟨vs, h1, h2, h3⟩ := h
  obtain ⟨us, h1', h2', h3'⟩ := h'
  refine ⟨fun β2 st2 H2 x2 s2 hc i d hd => ?_, fun β2 st2 H2 x2 s2 hc => ?_, fun _ => ?_⟩
  · obtain ⟨vs2, g1, g2⟩ := h3 β2 st2 H2 x2 s2 (chk_app hc).1
    obtain ⟨us2, g1', g2'⟩ := h3' β2 st2 H2 x2 s2 (chk_app hc).2
    simp only [List.getElem?_zipWith] at hd
    split at hd
    · rename_i x y hx hy
      simp only [Option.some.injEq] at hd
      subst hd
      obtain ⟨x', hx', rx⟩ := RepL.at g2 hx
      obtain ⟨y', hy', ry⟩ := RepL.at g2' hy
      refine ⟨⟨vs2, us2, x', y', g1, g1', hx', hy'⟩, fun z H3 hz => ?_⟩
      obtain ⟨T, x3, y3, rfl, hT, rfl, ex, ey⟩ := hz
      have e1 := ex vs2 g1
      have e2 := ey us2 g1'
      rw [hx'] at e1
      rw [hy'] at e2
      cases e1
      cases e2
      exact ⟨.new hT, s2.new hT, _, _, rfl, SqU.of upd_same, _, [_], rfl, Rep.mono s2 (.new hT) _ _ rx, _, [], rfl, Rep.mono s2 (.new hT) _ _ ry, rfl⟩
    · cases hd
  · obtain ⟨vs2, g1, g2⟩ := h3 β2 st2 H2 x2 s2 (chk_app hc).1
    obtain ⟨us2, g1', g2'⟩ := h3' β2 st2 H2 x2 s2 (chk_app hc).2
    exact ⟨vs2, us2, g1, g1', by simp only [List.length_zipWith]; rw [g2.length, g2'.length]⟩
  · simp only [List.length_zipWith]
    have := hl k a vs h1
    rw [h2.length]
    omega
theorem Stn.of {β : List Addr} {st : Sto} {H H0 : Hp} {r : RV} {x : V} {v : SV} (s : Sim K β st H) (hx : RRep K β H H0 r x) (e : srcSeq st r = some v) : ∃ a vs, x = .ref a ∧ sqK (kqOf r) K H a vs ∧ Stn (kqOf r) K β H v a :=
  let ⟨_, a, vs, e1, h⟩ := seqSrc s hx e
  ⟨a, vs, e1, h.1, vs, h⟩
theorem s_zp {e e' : Expr} {es : CEs} {p pos tpos : Pos} {elts : List Expr} {kk : Nat} (hl : lenC es = 2) (hp : plainE e = true) (hp' : plainE e' = true) (hg : Gl X "zip") (hm : X.mg "zip" = none) (ha : PA X [e, e'] (tR X.K C es)) :
    PI X (.Tuple elts kk tpos) (.Call (.Name "zip" p) [e, e'] [] pos) (tS X.K C (.zp es)) :=
  have P := fun (k l : Kq) => PI.len (pi_z2 (k := k) (l := l) (p := p) (pos := pos) (tpos := tpos) (elts := elts) (kk := kk) hg hm ha (star_plain hp) (stars_plain (by simp [hp'])))
  PI.imp (PI.or (PI.or (P .L .L) (P .L .T)) (PI.or (P .T .L) (P .T .T))) fun σ H R ⟨β, st, ρ, v, st', s, en, e, q⟩ => by
    simp only [evS] at e
    split at e
    · cases e
    rename_i rs st1 e1
    simp only [Option.map_eq_some_iff, Prod.mk.injEq] at e
    obtain ⟨w, e2, rfl, rfl⟩ := e
    have hlr := evR_len e1
    unfold zpOf at e2
    split at e2
    · rename_i a b
      split at e2
      · rename_i p q' hp hq
        simp only [Option.some.injEq] at e2
        subst e2
        have go : tR X.K C es σ H fun vs H1 => ∃ a' b' xs ys, vs = [.ref a', .ref b'] ∧ sqK (kqOf a) X.K H1 a' xs ∧ sqK (kqOf b) X.K H1 b' ys ∧ (Lens X.K H1 → R (Iz2 (kqOf a) (kqOf b) X.K a' b') H1) := by
          refine seqR s en e1 fun vs β1 H1 x1 s1 r1 en1 => ?_
          obtain ⟨v, v', rfl, rv, rv'⟩ := two_rep r1
          obtain ⟨a', xs, rfl, f1, f2⟩ := Stn.of s1 rv hp
          obtain ⟨b', ys, rfl, g1, g2⟩ := Stn.of s1 rv' hq
          exact ⟨a', b', xs, ys, rfl, f1, g1, fun hz => q β1 H1 _ x1 s1 (itok_z2 f2 g2 hz)⟩
        cases hk : kqOf a <;> cases hk' : kqOf b <;> rw [hk, hk'] at go
        · exact .inl (.inl go)
        · exact .inl (.inr go)
        · exact .inr (.inl go)
        · exact .inr (.inr go)
      · cases e2
    · simp [hl] at hlr
    · cases e2
/-! ### list(range(..)), tuple(range(..)) -/
theorem rgV_rep {β : List Addr} {H : Hp} {n : Int} : RepL K β H (rangeD 0 n.toNat) (rgV 0 n) := by
  unfold rangeD rgV
  rw [show (n - 0).toNat = n.toNat by omega]
  generalize List.range n.toNat = l
  induction l with
  | nil => rfl
  | cons i l ih => exact ⟨_, _, rfl, rfl, ih⟩
theorem los_of {tp : Bool} {x r : RV} (e : losOf tp x = some r) : ∃ j, x = .val (.int j) ∧ RgOk 0 j ∧ r = if tp then .val (.tup (rangeD 0 j.toNat)) else .tmp (rangeD 0 j.toNat) := by
  unfold losOf rngOf at e
  split at e
  · rename_i v hv
    split at hv
    · split at hv
      · rename_i j0 j hj heq
        simp only [Option.some.injEq] at hv; subst hv
        split at e
        · rename_i hs
          simp only [Option.some.injEq] at e
          have h2 := i62_of heq
          have h3 := szOk_le hs
          rw [sizeLine_eq] at h3
          simp only [rangeD, List.length_map, List.length_range] at h3
          simp only [List.cons.injEq, and_true] at hj
          exact ⟨j, hj, ⟨by omega, by omega, h2.1, h2.2, by omega⟩, e.symm⟩
        · cases e
      · cases hv
    · rename_i heq; simp at heq
    · rename_i heq; simp at heq
    · cases hv
  · cases e
theorem e_losL {e : Expr} {a : CE} {p p2 pos pos2 : Pos} (hp : plainE e = true) (hc : X.calm = true) (hg : Gl X "list") (hm : X.mg "list" = none) (hg2 : Gl X "range") (hm2 : X.mg "range" = none) (ha : PE X e (tE X.K C a)) :
    PE X (.Call (.Name "list" p) [.Call (.Name "range" p2) [e] [] pos2] [] pos) (tE X.K C (.los false a)) :=
  PE.imp (pe_listRg hc hg hm (prg_1 hg2 hm2 ha (by rw [star_plain hp]))) fun σ H Q ⟨β, st, ρ, r, st', s, en, h, q⟩ => by
    simp only [ev] at h
    split at h
    · cases h
    rename_i x st1 e1
    simp only [Option.map_eq_some_iff, Prod.mk.injEq] at h
    obtain ⟨z, e3, rfl, rfl⟩ := h
    obtain ⟨j, rfl, hj, rfl⟩ := los_of e3
    refine seq1 s en e1 fun v β1 H1 x1 s1 r1 en1 => ?_
    cases r1
    refine ⟨j, rfl, hj, fun p hp => ?_⟩
    exact q _ β1 _ (x1.trans (Ext.new hp) s1.nd) (s1.new hp) ⟨p, _, rfl, upd_same, s1.off hp, x1.free hp fun hm => s1.off hp (x1.mem hm), RepL.mono s1 (Ext.new hp) _ _ rgV_rep⟩
theorem e_losT {e : Expr} {a : CE} {p p2 pos pos2 : Pos} (hp : plainE e = true) (hc : X.calm = true) (hg : Gl X "tuple") (hm : X.mg "tuple" = none) (hg2 : Gl X "range") (hm2 : X.mg "range" = none) (ha : PE X e (tE X.K C a)) :
    PE X (.Call (.Name "tuple" p) [.Call (.Name "range" p2) [e] [] pos2] [] pos) (tE X.K C (.los true a)) :=
  PE.imp (pe_tupRg hc hg hm (prg_1 hg2 hm2 ha (by rw [star_plain hp]))) fun σ H Q ⟨β, st, ρ, r, st', s, en, h, q⟩ => by
    simp only [ev] at h
    split at h
    · cases h
    rename_i x st1 e1
    simp only [Option.map_eq_some_iff, Prod.mk.injEq] at h
    obtain ⟨z, e3, rfl, rfl⟩ := h
    obtain ⟨j, rfl, hj, rfl⟩ := los_of e3
    refine seq1 s en e1 fun v β1 H1 x1 s1 r1 en1 => ?_
    cases r1
    refine ⟨j, rfl, hj, fun p hp => ?_⟩
    exact q _ β1 _ (x1.trans (Ext.new hp) s1.nd) (s1.new hp) ⟨p, _, rfl, SqU.of upd_same, RepL.mono s1 (Ext.new hp) _ _ rgV_rep⟩
end
end Mw

set_option Elab.async false
set_option linter.all false
set_option autoImplicit false
set_option maxRecDepth 100000
/-! PyC6: comprehensions. -/
namespace Mw
open PySem PySem.Spec PyProof.Rows L2
variable [Tbs]
section
variable {K : PySem.W.Frag} {β β' : List Addr} {st : Sto} {H H' : Hp}
theorem Ext.updFree (e : Ext β H β' H') {p : Addr} {o : HO} (h : H p = none) (nf : NF H' p) : Ext β H β' (upd H' p o) :=
  ⟨e.pre, ⟨fun b u hb hn nt => by rw [upd_ne (ne_of_none hb h)]; exact e.keep.get hb hn nt⟩, fun b o u hb => by rw [upd_ne (ne_of_none hb h)]; exact e.frz b o u hb, fun b hb hn => by
    by_cases z : b = p
    · rw [z]; exact h
    · rw [upd_ne z] at hb; exact e.tbn b hb hn, fun h => tabs_upd nf.tbl nf.ext (e.tab h)⟩
theorem Ext.notin (e : Ext β H β' H') {p : Addr} {o : HO} (h : H p = some o) (hn : p ∉ β) : p ∉ β' := fun hm => by
  obtain ⟨new, rfl, hf⟩ := e.pre
  rcases List.mem_append.mp hm with q | q
  · exact hn q
  · rw [hf p q] at h; cases h
theorem PTs.imp {X : Cx} {e : List Expr} {t t' : TT} (h : PTs X e t) (i : ∀ σ H Q, t' σ H Q → t σ H Q) : PTs X e t' := ⟨fun pins s σ H Q I hw => h.run pins s σ H Q I (i σ H Q hw)⟩
end
section
variable {X : Cx} {C : Call}
theorem ts_nil : PTs X [] (tCs X.K C .nil) := PTs.imp pts_nil fun σ H Q ⟨β, st, ρ, b, st', s, en, e, q⟩ => by
  simp only [evC, Option.some.injEq, Prod.mk.injEq] at e
  obtain ⟨rfl, rfl⟩ := e
  exact q β H .refl s
theorem ts_one {c : Expr} {a : CE} (h : PT X c (tT X.K C a)) : PTs X [c] (tCs X.K C (.cons a .nil)) := PTs.imp (pts_one h) fun σ H Q ⟨β, st, ρ, b, st', s, en, e, q⟩ => by
  refine ⟨β, st, ρ, b, st', s, en, ?_, q⟩
  simp only [evC] at e
  unfold evT
  split at e
  · cases e
  · rename_i x st1 e1
    split at e
    · cases e
    · rename_i ht
      simp only [Option.some.injEq, Prod.mk.injEq] at e
      obtain ⟨rfl, rfl⟩ := e
      simp [ht]
    · rename_i ht
      simp only [Option.some.injEq, Prod.mk.injEq] at e
      obtain ⟨rfl, rfl⟩ := e
      simp [ht]
/-- the comprehension's walk, in the reading of the library's -/
theorem lc_read {t : Tgt} {src : Src} {cs : CEs} {e : CE} {own : List Nat} {K : PySem.W.Frag} (ht : ∀ j ∈ slotsT t, j ∈ own) {σ : L2.St} {H : Hp} {Q : V → Hp → Prop} (h : tE K C (.comp t src cs e own) σ H Q) :
    tLc (tS K C src) (tTg K t) (tCs K C cs) (tE K C e) own σ H Q := by
  obtain ⟨β, st, ρ, r, st', s, en, ee, q⟩ := h
  simp only [ev] at ee
  split at ee
  · cases ee
  rename_i v st1 e1
  split at ee
  rotate_left
  · cases ee
  rename_i hbig
  simp only [Option.map_eq_some_iff, Prod.mk.injEq] at ee
  obtain ⟨⟨total, stF⟩, hc, rfl, rfl⟩ := ee
  refine ⟨β, st, ρ, v, st1, s, en, e1, fun β1 H1 J x1 s1 it D hD => ?_⟩
  have hz : v.xs.length ≤ sizeLine := hbig.elim it.len fun z => szOk_le z
  refine ⟨fun i m H2 => ∃ β2 st2 done acc rest, m = v.xs.length - i ∧ i ≤ v.xs.length ∧ Ext β1 H1 β2 H2 ∧ Sim K β2 st2 H2 ∧ H2 D = some (.lst acc) ∧ D ∉ β2 ∧ RepL K β2 H2 done acc ∧ acc.length ≤ i ∧
    compL v.ws (fun d => setT t d (wipeD ρ own)) (fun σ st => evC C cs σ st) (fun σ st => ev C e σ st) (v.xs.drop i) st2 = some (rest, stF) ∧ done ++ rest = total, ⟨v.xs.length, ?_⟩, fun i m H2 hw => ?_⟩
  · have nD : D ∉ β1 := s1.off hD
    exact ⟨β1, st1, [], [], total, by simp, Nat.zero_le _, Ext.new hD, s1.new hD, upd_same, nD, rfl, Nat.le_refl _, by simpa using hc, rfl⟩
  · obtain ⟨β2, st2, done, acc, rest, rfl, hi, x2, s2, hDa, nD, rA, hl, hcl, rfl⟩ := hw
    by_cases hlt : i < v.xs.length
    rotate_left
    · have hie : i = v.xs.length := by omega
      subst hie
      rw [List.drop_length] at hcl
      simp only [compL] at hcl
      split at hcl
      rotate_left
      · cases hcl
      rename_i hk
      simp only [Option.some.injEq, Prod.mk.injEq] at hcl
      obtain ⟨rfl, rfl⟩ := hcl
      refine .inl ⟨it.stop β2 st2 H2 x2 s2 hk, q _ β2 H2 (x1.trans x2 s2.nd) s2 ⟨D, acc, rfl, hDa, nD, x1.free hD fun hm => s1.off hD (x1.mem hm), by simpa using rA⟩⟩
    · have hd : v.xs.drop i = v.xs[i] :: v.xs.drop (i + 1) := List.drop_eq_getElem_cons hlt
      rw [hd] at hcl
      simp only [compL] at hcl
      split at hcl
      rotate_left
      · cases hcl
      rename_i hk
      split at hcl
      · cases hcl
      rename_i ρ' hset
      obtain ⟨go, yl⟩ := it.turn β2 st2 H2 x2 s2 hk i v.xs[i] (by simp [hlt])
      split at hcl
      · cases hcl
      all_goals
        rename_i st3 hcs
        refine .inr ⟨go, fun H' => ∃ β2 st2 done' acc rest', i + 1 ≤ v.xs.length ∧ Ext β1 H1 β2 H' ∧ Sim K β2 st2 H' ∧ H' D = some (.lst acc) ∧ D ∉ β2 ∧ RepL K β2 H' done' acc ∧ acc.length ≤ i + 1 ∧
          compL v.ws (fun d => setT t d (wipeD ρ own)) (fun σ st => evC C cs σ st) (fun σ st => ev C e σ st) (v.xs.drop (i + 1)) st2 = some (rest', stF) ∧ done' ++ rest' = done ++ rest, fun H' ⟨β3, st3', done', acc', rest', a1, a2, a3, a4, a5, a6, a7, a8, a9⟩ => ⟨v.xs.length - (i + 1), by omega, β3, st3', done', acc', rest', rfl, a1, a2, a3, a4, a5, a6, a7, a8, a9⟩, fun x H3 hy => ?_⟩
        obtain ⟨x3, s3, rx⟩ := yl x H3 hy
        have x13 : Ext β1 H1 β2 H3 := x2.trans x3 s3.nd
        have hD3 : H3 D = some (.lst acc) := x3.keep.get hDa nD
        have rA3 := RepL.mono s2 x3 _ _ rA
        refine ⟨β2, v.xs[i], wipeD ρ own, ρ', rx, ((en.mono s x1).mono s1 x13).wipe own, hset, fun σ2 en2 oa => ⟨?_, β2, st2, ρ', _, st3, s3, en2, hcs, fun β4 H4 x4 s4 => ?_⟩⟩
        · rw [wipe_only oa ht, wipe_twice]
        have hD4 : H4 D = some (.lst acc) := x4.keep.get hD3 nD
        have nD4 := x4.notin hD3 nD
        have rA4 := RepL.mono s3 x4 _ _ rA3
      · exact ⟨β4, st3, done, acc, rest, hlt, x13.trans x4 s4.nd, s4, hD4, nD4, rA4, by omega, hcl, rfl⟩
      · show tE K C e σ2 H4 _
        split at hcl
        · cases hcl
        rename_i rr st4 he
        split at hcl
        · cases hcl
        rename_i ys stL hrec
        simp only [Option.some.injEq, Prod.mk.injEq] at hcl
        obtain ⟨rfl, rfl⟩ := hcl
        refine seq1 s4 (en2.mono s3 x4) he fun y β5 H5 x5 s5 r5 _ => ?_
        have hD5 : H5 D = some (.lst acc) := x5.keep.get hD4 nD4
        obtain ⟨β6, x6, s6, r6, _⟩ := mat_ok x5 s5 r5
        have nD6 := x6.notin hD4 nD4
        have rA5 := RepL.mono s4 x6 _ _ rA4
        refine ⟨acc, hD5, by omega, β6, (mat rr st4).2, done ++ [(mat rr st4).1], acc ++ [y], ys, hlt, ((x13.trans x4 s4.nd).trans x6 s6.nd).updFree hD (lst_nf hD5), s6.keepT (KeepT.upd hD5) (fun a ha => upd_ne fun z => nD6 (z ▸ ha)), upd_same, nD6, RepL.keepT (KeepT.upd hD5) _ _ (rA5.append ⟨y, [], rfl, r6, rfl⟩), by simp; omega, hrec, by simp⟩
end
end Mw

set_option Elab.async false
set_option linter.all false
set_option autoImplicit false
set_option maxRecDepth 100000
/-! PyG: what defs promise where no text is being shown (guards known), calls of such, a law's end by such. -/
namespace Mw
open PySem PySem.Spec PyProof.Rows L2
structure FnG (P : Program) (w : World) (K : PySem.W.Frag) (mg : Str → Option Value) (base : Heap) (k : Nat) (f : Addr) (fd : FuncData) (ps : List Str) (sp : Sp) : Prop where
  len : ∀ vs H Q E, sp vs H Q E → vs.length = ps.length
  run : ∀ (A : Around) (out : List PySem.Env) (s : Shared) (H : Hp) (ar : Args) (us : List Value) (vs : List V) (Q : VK) (E : XK), Room k A → A.guards = some [] → Env0 P w K mg base A out s H → BindsTo s fd ar (ps.zip us) →
    Vals vs us → sp vs H Q E → codeAny (model P w) A (.call (.ref f) ar) (CR (L2.CX P w) out P w H s Q E) s
section
variable {X : Cx} {k : Nat} {f : Addr} {fd : FuncData} {ps : List Str} {sp : Sp} {E : XK}
theorem run_fnG {pins : List (Addr × Obj)} {σ : L2.St} {H : Hp} {s : Shared} {Q : VK} {us : List Value} {vs : List V} (F : FnG X.prog X.w X.K X.mg X.base k f fd ps sp) (hr : Room k X.A) (gd : X.A.guards = some []) (hb : Binds X.K fd ps []) (hx : PassesAt (L2.CX X.prog X.w) X σ E)
    (I : Inv X pins σ H s) (r : Vals vs us) (h : sp vs H Q E) : wpAny (model X.prog X.w) X.A (call (.ref f) us) (EP X pins σ Q) X.xe s := by
  have hl : us.length = ps.length := r.length.symm.trans (F.len _ _ _ _ h)
  have hb' : BindsTo s fd ⟨us, []⟩ (ps.zip us) := by
    have z := hb s us I.kIn (by simpa using hl)
    simpa using z
  refine wpAny_call (codeAny_mono (F.run X.A X.stack s H _ us vs Q E hr gd I.env0 hb' r h) fun a b c => ?_)
  rcases a with e | a
  · exact hx _ _ _ _ _ I c
  · cases a with
    | ret u => exact I.after c
    | next | brk | cont => exact c.elim
variable {x : Str} {p pos : Pos} {e : Expr} {es : List Expr} {t : TA}
theorem pe_callG (F : FnG X.prog X.w X.K X.mg X.base k f fd ps sp) (hr : Room k X.A) (gd : X.A.guards = some []) (hg : Gl X x) (hm : X.mg x = some (.ref f)) (hk : PySem.W.keepIn X.K (.ref f) = true) (hb : Binds X.K fd ps []) {E : L2.St → XK} (hx : ∀ σ, PassesAt (L2.CX X.prog X.w) X σ (E σ))
    (ha : PA X (e :: es) t) (hdb : (x == ("__debug__" : Str)) = false) (he : starEach (e :: es) X.env = (false, eval e X.env) :: starEach es X.env) (hpl : (backTo pos (starEach es X.env)).any (·.1) = false) :
    PE X (.Call (.Name x p) (e :: es) [] pos) (fun σ H Q => t σ H fun vs H1 => sp vs H1 Q (E σ)) := by
  refine ⟨fun pins s σ H Q I h => wpAny_Call_Name_kw (ld_glob I hg hm ?_ hdb)⟩
  exact PySem.W.callWith_K (h₀ := X.base) I.ok.mod.kin hk (thn (ha.run pos pins s σ H _ I h) fun us s1 ⟨vs, H1, J, r, q⟩ => ⟨J.kIn, run_fnG F hr gd hb (hx σ) J r q⟩) he hpl
theorem pe_callG0 (F : FnG X.prog X.w X.K X.mg X.base k f fd ps sp) (hr : Room k X.A) (gd : X.A.guards = some []) (hg : Gl X x) (hm : X.mg x = some (.ref f)) (hk : PySem.W.keepIn X.K (.ref f) = true) (hb : Binds X.K fd ps []) {E : L2.St → XK} (hx : ∀ σ, PassesAt (L2.CX X.prog X.w) X σ (E σ))
    (hdb : (x == ("__debug__" : Str)) = false) : PE X (.Call (.Name x p) [] [] pos) (fun σ H Q => sp [] H Q (E σ)) :=
  ⟨fun pins s σ H Q I h => wpAny_Call_Name_kw (ld_glob I hg hm (PySem.W.callWith_K0 I.kIn hk (run_fnG (us := []) F hr gd hb (hx σ) I .nil h)) hdb)⟩
end
/-- room for a call out of a def's body, and for an instance made there -/
structure RoomG (k : Nat) (A : Around) : Prop where
  hd : A.handled = none
  dp : A.depth + 3 * k + 7 < recursionLimit
  un : A.units + 16 * k + 205 < cLine
theorem RoomG.r {k : Nat} {A : Around} (r : RoomG k A) : Room k A := ⟨r.hd, by have := r.dp; omega, by have := r.un; omega⟩
theorem RoomG.in2 {k : Nat} {A : Around} (r : RoomG k A) : Room k A.in1.in1 := ⟨r.hd, by have := r.dp; show A.depth + 3 * k + 5 < _; omega, by have := r.un; show A.units + 1 + 1 + 16 * k + 200 < _; omega⟩
theorem RoomG.mk_ {k : Nat} {A : Around} (r : RoomG k A) (C : Addr) (us : List Value) : Room k (A.under (.builtin "type.__call__" ⟨.ref C :: us, []⟩)) :=
  ⟨r.hd, by have := r.dp; rw [make_depth]; omega, by have := r.un; rw [make_units]; omega⟩
theorem roomG {k : Nat} {A : Around} {env : PySem.Env} (r : Room (k + 1) A) : RoomG k (A.deeper env) :=
  ⟨r.hd, by have := r.dp; show A.depth + 1 + 3 * k + 7 < _; omega, by have := r.un; show A.units + 3 + 16 * k + 205 < _; omega⟩
/-- a def by its body -/
theorem fnG_of {P : Program} {w : World} {K : PySem.W.Frag} {mg : Str → Option Value} {base : Heap} {x qual : Str} {params : Arguments} {body : List Stmt} {scope : Scope} {f : Addr} {fd : FuncData} {N ps : List Str} {k : Nat} {sp : Sp}
    (F : FunD K x qual params body scope [] [] f fd) (S : FnScope N ps scope) (len : ∀ vs H Q E, sp vs H Q E → vs.length = ps.length)
    (hbody : ∀ (cdv : Value), (∃ oc od osl fd, K.lookup f = some ⟨oc, od, .func fd, osl⟩ ∧ fd.code = cdv ∧ PySem.W.codeIn K cdv qual = true) → ∀ (A : Around) (out : List PySem.Env) (s : Shared) (H : Hp) (vs : List V) (Q : VK) (E : XK), RoomG k (A.deeper (envOfC qual scope s.heap.objs.size f cdv)) → A.guards = some [] → sp vs H Q E →
      ∃ t, PSs (cxOf (L2.CX P w) P w K mg base N qual scope f cdv A out s H E) body t ∧ t { nx := fun _ H' => Q .non H', rt := Q } (start N vs) H) : FnG P w K mg base (k + 1) f fd ps sp := by
  obtain ⟨oc, od, dV, kV, doc, pm, an, cdv, ct, osl, rfl, lk, hcd, _, _⟩ := F.ex
  refine ⟨len, fun A out s H ar us vs Q E hr gd e0 hb r hsp => ?_⟩
  have hlv := len _ _ _ _ hsp
  have KX : K.In s.heap := e0.mod.kin.keeps fun b o z => (e0.bs b o z).1
  have lim : s.heap.NoLimit := e0.mod.nolimit.keeps fun b o z => (e0.bs b o z).1
  have hkd : ∀ z ∈ ps.zip us, scope.names.lookup z.1 = some .local ∨ (scope.names.lookup z.1 = some .cell ∧ ((cellsFrom (s.heap.objs.size + 1) scope.names []).lookup z.1).isSome = true) := by
    rintro ⟨n, v⟩ hz
    exact (S.par n (List.of_mem_zip hz).1).imp id fun q => ⟨q, PySem.W.cellsFrom_some _ _ _ (.inl q)⟩
  refine codeAny_call_function hr.depth (KX _ _ lk) rfl S.co S.gen rfl (PySem.W.codeRec_of KX hcd) (hb _ _ _ _ (wpAny_newFunctionEnv_cells S.kind hkd fun env he s1 x => ?_))
  subst he
  refine ⟨lim.keeps x.toInCall.keep, codeAny_func ?_⟩
  obtain ⟨t, ht, hq⟩ := hbody cdv ⟨_, _, _, _, lk, rfl, hcd⟩ A out s H vs Q E (roomG hr) gd hsp
  have I : Inv (cxOf (L2.CX P w) P w K mg base N qual scope f cdv A out s H E) [] (start N vs) H s1 := inv_start S hr.hd e0 hlv r x
  have fin : ∀ {σ' : L2.St} {H' : Hp} {v : V} {u : Value} {s' : Shared}, Inv (cxOf (L2.CX P w) P w K mg base N qual scope f cdv A out s H E) [] σ' H' s' → RelV v u → Q v H' → L2.CE out P w H s Q u s' :=
    fun J rv q => ⟨_, _, J.os, J.bare, J.base, J.hok, rv, q⟩
  refine wpAny_mono (ht.run [] s1 (start N vs) H _ I hq) (fun fl s' hs => ?_) fun _ _ z => z
  cases fl with
  | ret u => obtain ⟨v, σ', H', J, rv, q⟩ := hs; exact fin J rv q
  | next => obtain ⟨σ', H', J, q⟩ := hs; exact fin (v := V.non) (u := Value.none) J rfl q
  | brk | cont => obtain ⟨_, _, _, q⟩ := hs; exact q.elim
/-- the law is called where nothing is being shown; the tables of the defs within which lambdas are made are empty then -/
def OnlyT (cs : List (Addr × Addr)) (H : Hp) : Prop := (∀ b, H b = none ∨ (H b = some (.tbl #[]) ∧ b ∈ cs.map (·.2)) ∨ ∃ o xs, H b = some (.frz o (.lst xs))) ∧ ∀ p ∈ cs, H p.2 = some (.tbl #[])
theorem law_callG {P : Program} {w : World} {K : PySem.W.Frag} {mg mb : Str → Option Value} {k : Nat} {fa a : Addr} {cs : List (Addr × Addr)} {fd : FuncData} {x : Str} {sp : Sp} {s₁ : Shared} {vs : List Value} {ns : List Int}
    (KX : K.In s₁.heap) (g1 : s₁.heap.Ns mainGlobals mg) (g2 : s₁.heap.Ns builtinsNs mb) (g3 : ∀ x : Str, x ≠ "__name__" → mb x = bootBuiltins x) (lim : s₁.heap.NoLimit) (hg : s₁.gens = #[])
    (tE : ∀ p ∈ cs, s₁.heap.get? p.2 = some { cls := .none, data := .fields #[] }) (tK : ∀ p ∈ cs, K.lookup p.2 = none) (tC : ∀ p ∈ cs, PySem.W.codeHdIn K p.1 p.2 = true)
    (hbm : ∃ (bm : Addr) (ob : Obj), mg "__builtins__" = some (.ref bm) ∧ bm ≠ builtinsNs ∧ s₁.heap.get? bm = some ob ∧ ob.cls = .type "module" ∧ ob.dict = some builtinsNs ∧ ob.data = .plain)
    (ha : s₁.heap.get? a = some { cls := .type "list", data := .seq vs.toArray }) (hi : IntsAre vs ns) (hl : ns.length ≤ sizeLine) (hr : Room k callerA)
    (F : ∀ base : Heap, K.In base → base.Ns mainGlobals mg → (∀ p ∈ cs, LamX.TabB base mg p.1 p.2) → FnG P w K mg base k fa fd [x] sp) (hbind : ∀ (s : Shared) (u : Value), BindsTo s fd ⟨[u], []⟩ [(x, u)])
    (hsp : ∀ H : Hp, OnlyT cs H → SqL K H a (ns.map V.int) → sp [.ref a] H (fun v _ => v = .bl true) fun _ _ _ => False)
    (hCX : ∀ H e s', CX0 [] H s₁ (fun _ _ _ => False) e s' → False) :
    codeAny (model P w) callerA (.call (.ref fa) ⟨[.ref a], []⟩) (fun r s' => r = .ok (.ret (.bool true)) ∧ OldK s₁.heap s'.heap ∧ s'.os = s₁.os ∧ AllBare s'.gens) s₁ := by
  have rv := vals_ints hi
  have nil_no : ∀ b : Addr, b ∈ ([] : List Addr) → False := fun b hb => nomatch hb
  have tAt : ∀ b, b ∈ cs.map (·.2) → s₁.heap.get? b = some { cls := .none, data := .fields #[] } := fun b hb => by
    obtain ⟨p, hp, rfl⟩ := List.mem_map.mp hb
    exact tE p hp
  have tIn : ∀ p ∈ cs, p.2 ∈ cs.map (·.2) := fun p hp => List.mem_map_of_mem hp
  have aNo : a ∉ cs.map (·.2) := fun z => by
    have y := tAt a z
    rw [ha] at y
    exact nomatch (show Data.seq vs.toArray _ = Data.fields #[] from congrArg Obj.data (Option.some.inj y))
  have main : ∀ H : Hp, OnlyT cs H → SqL K H a (ns.map V.int) → HOk P w H s₁.heap → (∀ b, H b ≠ none → b = a ∨ b ∈ cs.map (·.2)) → (H a ≠ none → K.lookup a = none) →
      codeAny (model P w) callerA (.call (.ref fa) ⟨[.ref a], []⟩) (fun r s' => r = .ok (.ret (.bool true)) ∧ OldK s₁.heap s'.heap ∧ s'.os = s₁.os ∧ AllBare s'.gens) s₁ := by
    intro H hO hS hok hA hK
    -- what is neither the script nor a table is not tracked
    have unt : ∀ {b : Addr} {o : Obj}, s₁.heap.get? b = some o → (∀ ys n, o.data ≠ .seq ys n) → o.data ≠ .fields #[] → H b = none := by
      intro b o z n1 n2
      rcases hq : H b with _ | u
      · rfl
      · rcases hA b (by rw [hq]; simp) with y | y
        · subst y
          rw [ha] at z
          cases z
          exact absurd rfl (n1 _ _)
        · rw [tAt b y] at z
          cases z
          exact absurd rfl n2
    have nsK : ∀ {b : Addr} {m : Str → Option Value}, s₁.heap.Ns b m → (hidT s₁.heap H).Ns b m := by
      rintro b m ⟨o, es, ep, z, d, r⟩
      refine ⟨o, es, ep, hidT_get z (unt z (fun ys n y => ?_) fun y => ?_), d, r⟩ <;> (rw [d] at y; cases y)
    have hKb : K.In (hidT s₁.heap H) := by
      intro b o z
      refine hidT_get (KX b o z) ?_
      rcases hq : H b with _ | u
      · rfl
      · rcases hA b (by rw [hq]; simp) with y | y
        · subst y
          rw [hK (by rw [hq]; simp)] at z
          cases z
        · obtain ⟨p, hp, rfl⟩ := List.mem_map.mp y
          rw [tK p hp] at z
          cases z
    have hTB : ∀ p ∈ cs, LamX.TabB (hidT s₁.heap H) mg p.1 p.2 := by
      intro p hp
      refine ⟨PySem.W.codeHd_of_K hKb (tC p hp), ?_, fun z => ?_⟩
      · obtain ⟨bm, ob, b1, b2, b3, b4, b5, b6⟩ := hbm
        refine ⟨bm, ob, b1, b2, fun z => ?_, fun z => ?_, hidT_get b3 (unt b3 (fun ys n y => ?_) fun y => ?_), b4, b5, b6⟩
        · obtain ⟨o, es, ep, y, d, _⟩ := g1
          rw [z, y] at b3
          cases b3
          rw [d] at b6
          cases b6
        · rw [z, tE p hp] at b3
          cases b3
          cases b6
        · rw [b6] at y; cases y
        · rw [b6] at y; cases y
      · obtain ⟨o, es, ep, y, d, _⟩ := g1
        rw [z, tE p hp] at y
        cases y
        cases d
    obtain ⟨mc, l1, l2⟩ := lim
    have e0 : Env0 P w K mg (hidT s₁.heap H) callerA [] s₁ H :=
      ⟨rfl, ⟨hKb, nsK g1, ⟨mb, nsK g2, g3⟩, ⟨mc, nsK l1, l2⟩⟩, fun _ _ z => of_hidT z, Nat.le_of_eq (hidT_size _ _), trivial, fun b hb => (nil_no b hb).elim, hok, .of_eq hg⟩
    refine codeAny_mono ((F _ hKb (nsK g1) hTB).run callerA [] s₁ H _ [.ref a] [.ref a] _ _ hr rfl e0 (hbind s₁ (.ref a)) (.cons rfl .nil) (hsp H hO hS)) fun r s' h => ?_
    rcases r with e | r
    · obtain ⟨_, _, _, _, _, _, _, _, _, _, _, _, z⟩ := h; exact z.elim
    cases r with
    | next | brk | cont => exact h.elim
    | ret u =>
      obtain ⟨v, H', os, bare, un, hok', r', q⟩ := h
      cases (show v = .bl true from q)
      cases (show u = Value.bool true from r')
      have same : ∀ b o, b ∉ cs.map (·.2) → s₁.heap.get? b = some o → s'.heap.get? b = some o := by
        intro b o nb z
        rcases hq : H b with _ | u
        · exact un.keep b o z hq (fun y => nil_no b y) (by simp)
        · rcases hO.1 b with y | ⟨y, y2⟩ | ⟨ob, xs, y⟩
          · rw [hq] at y; cases y
          · exact absurd y2 nb
          · have e2 := (hok' b _ (un.frzs b ob _ y)).1
            have e1 := (hok b _ y).1
            rw [z] at e1
            cases e1
            exact e2
      have more : ∀ b, b ∈ cs.map (·.2) → ∃ ys : Array Value, s'.heap.get? b = some { cls := .none, data := .fields ys } := by
        intro b hb
        obtain ⟨p, hp, rfl⟩ := List.mem_map.mp hb
        obtain ⟨ys, z⟩ := un.tbls p.2 #[] (hO.2 p hp)
        exact ⟨_, hok' p.2 _ z⟩
      refine ⟨rfl, ⟨fun b o z => ?_, fun b o z => ?_⟩, os, bare⟩
      · by_cases hb : b ∈ cs.map (·.2)
        · obtain ⟨ys, hys⟩ := more b hb
          obtain ⟨p, hp, rfl⟩ := List.mem_map.mp hb
          rw [tE p hp] at z
          cases z
          exact .inr (.inl ⟨((PySem.W.codeHd_of_K KX (tC p hp)).tab (tE p hp)).isCodeTable, rfl, #[], ys, rfl, by rw [Array.empty_append]; exact hys⟩)
        · exact .inl (same b o hb z)
      · by_cases hb : b ∈ cs.map (·.2)
        · obtain ⟨ys, hys⟩ := more b hb
          exact ⟨_, hys⟩
        · exact ⟨o, same b o hb z⟩
  have tabs : ∀ b, (if b ∈ cs.map (·.2) then some (HO.tbl #[]) else none) = none ∨ ((if b ∈ cs.map (·.2) then some (HO.tbl #[]) else none) = some (.tbl #[]) ∧ b ∈ cs.map (·.2)) := fun b => by
    by_cases hb : b ∈ cs.map (·.2)
    · exact .inr ⟨if_pos hb, hb⟩
    · exact .inl (if_neg hb)
  rcases hk : K.lookup a with _ | o
  · refine main (fun b => if b = a then some (.frz { cls := .type "list", data := .seq vs.toArray } (.lst (ns.map V.int))) else if b ∈ cs.map (·.2) then some (.tbl #[]) else none) ⟨fun b => ?_, fun p hp => ?_⟩ (.inl (.inr ⟨{ cls := .type "list", data := .seq vs.toArray }, if_pos rfl⟩)) ?_ ?_ fun _ => hk
    · by_cases hb : b = a
      · exact .inr (.inr ⟨_, _, if_pos hb⟩)
      · rcases tabs b with y | ⟨y, y2⟩
        · exact .inl ((if_neg hb).trans y)
        · exact .inr (.inl ⟨(if_neg hb).trans y, y2⟩)
    · show (if p.2 = a then _ else _) = _
      rw [if_neg fun z => aNo (by rw [← z]; exact tIn p hp), if_pos (tIn p hp)]
    · intro b u z
      by_cases hb : b = a
      · cases (if_pos hb).symm.trans z
        subst hb
        exact ⟨ha, by rw [List.length_map]; exact hl, vs, _, rv, ha⟩
      · have z2 := (if_neg hb).symm.trans z
        rcases tabs b with y | ⟨y, y2⟩
        · cases z2.symm.trans y
        · cases z2.symm.trans y
          exact tAt b y2
    · intro b z
      by_cases hb : b = a
      · exact .inl hb
      · rcases tabs b with y | ⟨_, y2⟩
        · exact absurd ((if_neg hb).trans y) z
        · exact .inr y2
  · have z := KX a o hk
    rw [ha] at z
    cases z
    refine main (fun b => if b ∈ cs.map (·.2) then some (.tbl #[]) else none) ⟨fun b => ?_, fun p hp => if_pos (tIn p hp)⟩ (.inr ⟨_, vs.toArray, _, hk, rfl, rfl, rfl, by rw [List.size_toArray, hi.length]; exact hl, by simpa using rv⟩) (fun b u z => ?_) (fun b z => ?_) fun z => absurd (if_neg aNo) z
    · rcases tabs b with y | ⟨y, y2⟩
      · exact .inl y
      · exact .inr (.inl ⟨y, y2⟩)
    · rcases tabs b with y | ⟨y, y2⟩
      · cases z.symm.trans y
      · cases z.symm.trans y
        exact tAt b y2
    · rcases tabs b with y | ⟨_, y2⟩
      · exact absurd y z
      · exact .inr y2
theorem walk_ofG {l : PySem.W.OpenLaw} {n k : Nat} {q : Program} {loose : List Str} {XP : (Str → Option Value) → Heap → Prop} {YP : World → Heap → Prop} {d : DefRec} {x : Str}
    (hn : l.most = some n) (hn2 : n ≤ sizeLine) (hdf : d.params.defaults = []) (hr : Room k callerA)
    (F : ∀ (w : World) (mg : Str → Option Value) (fa : Addr) (h : Heap), YP w h → h.Ns mainGlobals mg → mg d.name = some (.ref fa) →
      ∃ (K : PySem.W.Frag) (fd : FuncData) (sp : Sp) (cs : List (Addr × Addr)), K.In h ∧ ((∀ p ∈ cs, h.get? p.2 = some { cls := .none, data := .fields #[] }) ∧ (∀ p ∈ cs, K.lookup p.2 = none) ∧ ∀ p ∈ cs, PySem.W.codeHdIn K p.1 p.2 = true) ∧ (∀ (s : Shared) (u : Value), BindsTo s fd ⟨[u], []⟩ [(x, u)]) ∧
        (∀ (H : Hp) (a : Addr) (ns : List Int), ns.length ≤ n → OnlyT cs H → SqL K H a (ns.map V.int) → sp [.ref a] H (fun v _ => v = .bl true) fun _ _ _ => False) ∧ ∀ base : Heap, K.In base → base.Ns mainGlobals mg → (∀ p ∈ cs, LamX.TabB base mg p.1 p.2) → FnG l.prog w K mg base k fa fd [x] sp)
    (hCX : ∀ (H : Hp) (s : Shared) (e : Value) (s' : Shared), CX0 [] H s (fun _ _ _ => False) e s' → False) : PySem.W.WalkO q loose XP YP l.row.toRowW d [] (fun f vs => PySem.call f vs) :=
  Att.attach_call hn hdf fun w s₀ s₁ mg mb fa o pm cd doc a vs ns G Y ho hd hcd hmg hobj hints hlen hg => by
    obtain ⟨K, fd, sp, cs, KX, ⟨t1, t2, t3⟩, hb, hsp, hF⟩ := F w mg fa _ Y G.T.g hmg
    exact law_callG KX G.T.g G.T.b G.T.builtins G.T.nolimit hg t1 t2 t3 G.T.bmain hobj hints (Nat.le_trans hlen hn2) hr hF hb (fun H hO hS => hsp H a ns hlen hO hS) fun H e s' => hCX H s₁ e s'
end Mw

set_option Elab.async false
set_option linter.all false
set_option autoImplicit false
set_option maxRecDepth 100000
/-! PyC7: calls; statements. -/
namespace Mw
open PySem PySem.Spec PyProof.Rows L2
variable [Tbs]
/-- a def's promise: what C says -/
def spOf (K : PySem.W.Frag) (C : Call) (f : Str) (np : Nat) : Sp := fun vs H Q _ =>
  ∃ β st ds d st', Sim K β st H ∧ RepL K β H ds vs ∧ ds.length = np ∧ C f ds st = some (d, st') ∧ ∀ v β' H', Ext β H β' H' → Sim K β' st' H' → Rep K β' H' d v → Q v H'
/-- how a statement lands -/
def Lands (K : PySem.W.Frag) (W : WX) (β : List Addr) (H : Hp) (D : Ends) (fl : Fl) (ρ' : Env) (st' : Sto) : Prop :=
  ∀ β' H', Ext β H β' H' → Sim K β' st' H' → match fl with
    | .nx => ∀ σ', EnvR K β' H' ρ' σ' → D.nx σ' H'
    | .bk => ∀ σ', EnvR K β' H' ρ' σ' → D.bk σ' H'
    | .ct => ∀ σ', EnvR K β' H' ρ' σ' → D.ct σ' H'
    | .rt d => ∀ v, Rep K β' H' d v → D.rt v H'
    | .ex c => ∀ σ', EnvR K β' H' ρ' σ' → W (.ref (He.ga K c)) none σ' H'
def tSt (K : PySem.W.Frag) (W : WX) (C : Call) (n : Nat) (c : CS) : TS := fun D σ H =>
  ∃ β st ρ fl ρ' st', Sim K β st H ∧ EnvR K β H ρ σ ∧ exS C n c ρ st = some (fl, ρ', st') ∧ Lands K W β H D fl ρ' st'
def tSs (K : PySem.W.Frag) (W : WX) (C : Call) (n : Nat) (c : CSs) : TS := fun D σ H =>
  ∃ β st ρ fl ρ' st', Sim K β st H ∧ EnvR K β H ρ σ ∧ exs C n c ρ st = some (fl, ρ', st') ∧ Lands K W β H D fl ρ' st'
section
variable {X : Cx} {C : Call} {K : PySem.W.Frag} {n : Nat} {W : WX}
theorem PS.imp {e : Stmt} {t t' : TS} (h : PS X e t) (i : ∀ D σ H, t' D σ H → t D σ H) : PS X e t' := ⟨fun pins s σ H D I hw => h.run pins s σ H D I (i D σ H hw)⟩
theorem PSs.imp {e : List Stmt} {t t' : TS} (h : PSs X e t) (i : ∀ D σ H, t' D σ H → t D σ H) : PSs X e t' := ⟨fun pins s σ H D I hw => h.run pins s σ H D I (i D σ H hw)⟩
section
variable {β β1 : List Addr} {st st1 : Sto} {ρ : Env} {σ : L2.St} {H H1 : Hp} {En : Ends} {fl : Fl} {ρ' : Env} {st' : Sto}
theorem Lands.ext (l : Lands K W β H En fl ρ' st') (x : Ext β H β1 H1) : Lands K W β1 H1 En fl ρ' st' := fun β2 H2 x2 s2 => l β2 H2 (x.trans x2 s2.nd) s2
theorem seqA {a : CEs} {x : List D} (s : Sim K β st H) (en : EnvR K β H ρ σ) (e : evA C a ρ st = some (x, st1)) {P : List V → Hp → Prop}
    (k : ∀ v β1 H1, Ext β H β1 H1 → Sim K β1 st1 H1 → RepL K β1 H1 x v → EnvR K β1 H1 ρ σ → P v H1) : tA K C a σ H P :=
  ⟨β, st, ρ, x, st1, s, en, e, fun v β1 H1 e1 s1 r1 => k v β1 H1 e1 s1 r1 (en.mono s e1)⟩
end
theorem pass00 {X : Cx} : ∀ σ, PassesAt (L2.CX X.prog X.w) X σ E0 := fun _ _ _ _ _ _ _ h => by
  obtain ⟨_, _, _, _, _, _, _, _, _, _, _, _, z⟩ := h
  exact z.elim
/-- a def's raising -/
def spR (K : PySem.W.Frag) (C : Call) (f : Str) (np : Nat) : Sp := fun vs H _ E =>
  ∃ β st ds c st', Sim K β st H ∧ RepL K β H ds vs ∧ ds.length = np ∧ C (bang f) ds st = some (.str c, st') ∧ ∀ β' H', Ext β H β' H' → Sim K β' st' H' → E (.ref (He.ga K c)) none H'
def spG (K : PySem.W.Frag) (C : Call) (f : Str) (np : Nat) : Sp := fun vs H Q E => spOf K C f np vs H Q E ∨ spR K C f np vs H Q E
theorem FnG.imp {P : Program} {w : World} {mg : Str → Option Value} {base : Heap} {k : Nat} {f : Addr} {fd : FuncData} {ps : List Str} {sp sp' : Sp} (F : FnG P w K mg base k f fd ps sp) (h : ∀ vs H Q E, sp' vs H Q E → sp vs H Q E) : FnG P w K mg base k f fd ps sp' :=
  ⟨fun vs H Q E q => F.len vs H Q E (h _ _ _ _ q), fun A out s H ar us vs Q E hr gd e0 hb r q => F.run A out s H ar us vs Q E hr gd e0 hb r (h _ _ _ _ q)⟩
/-- what a call raises -/
def tX (K : PySem.W.Frag) (W : WX) (C : Call) (c : CE) : TE := fun σ H _ =>
  ∃ β st ρ c' st', Sim K β st H ∧ EnvR K β H ρ σ ∧ xE C c ρ st = some (c', st') ∧ ∀ β' H', Ext β H β' H' → Sim K β' st' H' → W (.ref (He.ga K c')) none σ H'
theorem xcall_ok {r : Option (D × Sto)} {z : Str × Sto} (h : xcall r = some z) : r = some (.str z.1, z.2) := by
  unfold xcall at h
  split at h
  · simp only [Option.some.injEq] at h; subst h; rfl
  · cases h
/-- what goes on by an expression whose value lands, or that raises -/
theorem PS.or {s : Stmt} {t t' : TS} (h : PS X s t) (h' : PS X s t') : PS X s (fun D σ H => t D σ H ∨ t' D σ H) := ⟨fun pins s σ H D I hw => hw.elim (h.run pins s σ H D I) (h'.run pins s σ H D I)⟩
/-! ### comprehension, call -/
theorem e_comp {elt tg iter : Expr} {ifs : List Expr} {scope : Scope} {own : List (Str × Nat)} {pos : Pos} {t : Tgt} {src : Src} {cs : CEs} {e : CE} (ht : ∀ j ∈ slotsT t, j ∈ own.map (·.2)) (hc : X.calm = true) (hN : X.N.Nodup) (hi : PI X tg iter (tS X.K C src)) (ok : BlkOk X.N X.env.scope scope own)
    (hg : ∀ (s : Shared) (H : Hp) (A : Addr) (cl : List (Str × Addr)) (fp : List Addr), PG (X.blk s H scope (compEnvC scope cl A X.env) fp) tg (tTg X.K t)) (hs : ∀ (s : Shared) (H : Hp) (A : Addr) (cl : List (Str × Addr)) (fp : List Addr), PTs (X.blk s H scope (compEnvC scope cl A X.env) fp) ifs (tCs X.K C cs))
    (he : ∀ (s : Shared) (H : Hp) (A : Addr) (cl : List (Str × Addr)) (fp : List Addr), PE (X.blk s H scope (compEnvC scope cl A X.env) fp) elt (tE X.K C e)) (hf : ∀ x, foldedSetIterable iter X.env x = pure x) :
    PE X (.ListComp elt [⟨tg, iter, ifs, 0⟩] scope pos) (tE X.K C (.comp t src cs e (own.map (·.2)))) :=
  PE.imp (pe_lc hc hN hi ok hg hs he hf) fun σ H Q => lc_read ht
theorem evA_len : ∀ {es : CEs} {ρ : Env} {st st' : Sto} {rs : List D}, evA C es ρ st = some (rs, st') → rs.length = lenC es
  | .nil, ρ, st, st', rs, e => by
    simp only [evA, Option.some.injEq, Prod.mk.injEq] at e
    rw [← e.1]; rfl
  | .cons c es, ρ, st, st', rs, e => by
    simp only [evA] at e
    split at e
    · cases e
    · split at e
      · cases e
      · rename_i h
        simp only [Option.some.injEq, Prod.mk.injEq] at e
        rw [← e.1, List.length_cons, evA_len h]; rfl
theorem call_read {f : Str} {es : CEs} {np : Nat} {t : TA} {E : XK} (hl : lenC es = np) (ht : ∀ σ H Q, tA K C es σ H Q → t σ H Q) {σ : L2.St} {H : Hp} {Q : VK} (h : tE K C (.call f es) σ H Q) : t σ H fun vs H1 => spOf K C f np vs H1 Q E := by
  obtain ⟨β, st, ρ, r, st', s, en, e, q⟩ := h
  simp only [ev] at e
  split at e
  · cases e
  rename_i ds st1 e1
  simp only [Option.map_eq_some_iff, Prod.mk.injEq] at e
  obtain ⟨⟨d, st2⟩, e2, rfl, rfl⟩ := e
  refine ht _ _ _ (seqA s en e1 fun vs β1 H1 x1 s1 r1 en1 => ?_)
  exact ⟨β1, st1, ds, d, st2, s1, r1, (evA_len e1).trans hl, e2, fun v β' H' x' s' r' => q v β' H' (x1.trans x' s'.nd) s' r'⟩
theorem e_call {k : Nat} {g : Addr} {fd : FuncData} {ps : List Str} {x : Str} {p pos : Pos} {e : Expr} {es : List Expr} {f : Str} {as : CEs} (F : FnG X.prog X.w X.K X.mg X.base k g fd ps (spOf X.K C f ps.length)) (hr : Room k X.A) (gd : X.A.guards = some []) (hg : Gl X x) (hm : X.mg x = some (.ref g)) (hk : PySem.W.keepIn X.K (.ref g) = true) (hb : Binds X.K fd ps []) 
    (hl : lenC as = ps.length) (ha : PA X (e :: es) (tA X.K C as)) (hp : (e :: es).all plainE = true) (hdb : (x == ("__debug__" : Str)) = false) : PE X (.Call (.Name x p) (e :: es) [] pos) (tE X.K C (.call f as)) := by
  rw [List.all_cons, Bool.and_eq_true] at hp
  exact PE.imp (pe_callG (E := fun _ => E0) F hr gd hg hm hk hb pass00 ha hdb (star_plain hp.1) (stars_plain hp.2)) fun σ H Q => call_read hl fun _ _ _ => id
theorem e_call0 {k : Nat} {g : Addr} {fd : FuncData} {ps : List Str} {x : Str} {p pos : Pos} {f : Str} (F : FnG X.prog X.w X.K X.mg X.base k g fd ps (spOf X.K C f ps.length)) (hr : Room k X.A) (gd : X.A.guards = some []) (hg : Gl X x) (hm : X.mg x = some (.ref g)) (hk : PySem.W.keepIn X.K (.ref g) = true) (hb : Binds X.K fd ps []) 
    (hl : 0 = ps.length) (hdb : (x == ("__debug__" : Str)) = false) : PE X (.Call (.Name x p) [] [] pos) (tE X.K C (.call f .nil)) :=
  PE.imp (pe_callG0 (E := fun _ => E0) F hr gd hg hm hk hb pass00 hdb) fun σ H Q => call_read (E := E0) (es := .nil) (t := tNil) hl fun σ H Q ⟨β, st, ρ, ds, st', s, en, e, q⟩ => by
    simp only [evA, Option.some.injEq, Prod.mk.injEq] at e
    obtain ⟨rfl, rfl⟩ := e
    exact q [] β H .refl s rfl
/-! ### statements -/
theorem s_pass {pos : Pos} : PS X (.Pass pos) (tSt X.K W C n .pass) := PS.imp ps_pass fun D σ H ⟨β, st, ρ, fl, ρ', st', s, en, e, l⟩ => by
  simp only [exS, Option.some.injEq, Prod.mk.injEq] at e
  obtain ⟨rfl, rfl, rfl⟩ := e
  exact l β H .refl s σ en
theorem s_brk {pos : Pos} : PS X (.Break pos) (tSt X.K W C n .brk) := PS.imp ps_break fun D σ H ⟨β, st, ρ, fl, ρ', st', s, en, e, l⟩ => by
  simp only [exS, Option.some.injEq, Prod.mk.injEq] at e
  obtain ⟨rfl, rfl, rfl⟩ := e
  exact l β H .refl s σ en
theorem s_cont {pos : Pos} : PS X (.Continue pos) (tSt X.K W C n .cont) := PS.imp ps_continue fun D σ H ⟨β, st, ρ, fl, ρ', st', s, en, e, l⟩ => by
  simp only [exS, Option.some.injEq, Prod.mk.injEq] at e
  obtain ⟨rfl, rfl, rfl⟩ := e
  exact l β H .refl s σ en
theorem s_retN {pos : Pos} : PS X (.Return none pos) (tSt X.K W C n .retN) := PS.imp ps_retN fun D σ H ⟨β, st, ρ, fl, ρ', st', s, en, e, l⟩ => by
  simp only [exS, Option.some.injEq, Prod.mk.injEq] at e
  obtain ⟨rfl, rfl, rfl⟩ := e
  exact l β H .refl s .non rfl
/-- a raised one, read -/
theorem x_read {a : CE} {ρ : Env} {σ : L2.St} {H : Hp} {β : List Addr} {st : Sto} {D : Ends} {fl : Fl} {ρ' : Env} {st' : Sto} {Q : VK} (s : Sim K β st H) (en : EnvR K β H ρ σ) (e : xout ρ (xE C a ρ st) = some (fl, ρ', st')) (l : Lands K W β H D fl ρ' st') : tX K W C a σ H Q := by
  unfold xout at e
  split at e
  · rename_i c st1 hx
    simp only [Option.some.injEq, Prod.mk.injEq] at e
    obtain ⟨rfl, rfl, rfl⟩ := e
    exact ⟨β, st, ρ, c, st1, s, en, hx, fun β' H' x s' => l β' H' x s' σ (en.mono s x)⟩
  · cases e
theorem s_ret {e : Expr} {a : CE} {pos : Pos} (he : PE X e (tE X.K C a)) : PS X (.Return (some e) pos) (tSt X.K W C n (.ret a)) := PS.imp (ps_ret he) fun D σ H ⟨β, st, ρ, fl, ρ', st', s, en, e, l⟩ => by
  simp only [exS] at e
  split at e
  · cases e
  rename_i r st1 e1
  simp only [Option.some.injEq, Prod.mk.injEq] at e
  obtain ⟨rfl, rfl, rfl⟩ := e
  refine seq1 s en e1 fun v β1 H1 x1 s1 r1 en1 => ?_
  obtain ⟨β2, x2, s2, r2, _⟩ := mat_ok x1 s1 r1
  exact l β2 H1 x2 s2 v r2
theorem s_expr {e : Expr} {a : CE} {pos : Pos} (he : PE X e (tE X.K C a)) (hs : swapsWith e none pos.line X.env = pure false) : PS X (.Expr e pos) (tSt X.K W C n (.expr a)) := PS.imp (ps_expr he hs) fun D σ H ⟨β, st, ρ, fl, ρ', st', s, en, e, l⟩ => by
  simp only [exS] at e
  split at e
  · cases e
  rename_i r st1 e1
  simp only [Option.some.injEq, Prod.mk.injEq] at e
  obtain ⟨rfl, rfl, rfl⟩ := e
  exact seq1 s en e1 fun v β1 H1 x1 s1 r1 en1 => l β1 H1 x1 s1 σ en1
theorem s_retX {e : Expr} {a : CE} {pos : Pos} (he : PE X e (tE X.K C a)) (hx : PE X e (tX X.K W C a)) : PS X (.Return (some e) pos) (tSt X.K W C n (.retX a)) := PS.imp (PS.or (ps_ret he) (ps_ret hx)) fun D σ H ⟨β, st, ρ, fl, ρ', st', s, en, e, l⟩ => by
  simp only [exS] at e
  split at e
  · exact .inr (x_read s en e l)
  rename_i r st1 e1
  simp only [Option.some.injEq, Prod.mk.injEq] at e
  obtain ⟨rfl, rfl, rfl⟩ := e
  refine .inl (seq1 s en e1 fun v β1 H1 x1 s1 r1 en1 => ?_)
  obtain ⟨β2, x2, s2, r2, _⟩ := mat_ok x1 s1 r1
  exact l β2 H1 x2 s2 v r2
theorem s_exprX {e : Expr} {a : CE} {pos : Pos} (he : PE X e (tE X.K C a)) (hx : PE X e (tX X.K W C a)) (hs : swapsWith e none pos.line X.env = pure false) : PS X (.Expr e pos) (tSt X.K W C n (.exprX a)) := PS.imp (PS.or (ps_expr he hs) (ps_expr hx hs)) fun D σ H ⟨β, st, ρ, fl, ρ', st', s, en, e, l⟩ => by
  simp only [exS] at e
  split at e
  · exact .inr (x_read s en e l)
  rename_i r st1 e1
  simp only [Option.some.injEq, Prod.mk.injEq] at e
  obtain ⟨rfl, rfl, rfl⟩ := e
  exact .inl (seq1 s en e1 fun v β1 H1 x1 s1 r1 en1 => l β1 H1 x1 s1 σ en1)
theorem s_if {c : Expr} {a b : List Stmt} {pos : Pos} {k : CE} {x y : CSs} (hc : PT X c (tT X.K C k)) (ha : PSs X a (tSs X.K W C n x)) (hb : PSs X b (tSs X.K W C n y)) : PS X (.If c a b pos) (tSt X.K W C n (.ite k x y)) := PS.imp (ps_if hc ha hb) fun D σ H ⟨β, st, ρ, fl, ρ', st', s, en, e, l⟩ => by
  simp only [exS] at e
  split at e
  · cases e
  · rename_i st1 e1
    refine seqT s en e1 fun β1 H1 x1 s1 en1 => ?_
    rw [if_pos rfl]
    exact ⟨β1, st1, ρ, fl, ρ', st', s1, en1, e, l.ext x1⟩
  · rename_i st1 e1
    refine seqT s en e1 fun β1 H1 x1 s1 en1 => ?_
    rw [if_neg Bool.false_ne_true]
    exact ⟨β1, st1, ρ, fl, ρ', st', s1, en1, e, l.ext x1⟩
theorem ss_nil : PSs X [] (tSs X.K W C n .nil) := PSs.imp pss_nil fun D σ H ⟨β, st, ρ, fl, ρ', st', s, en, e, l⟩ => by
  simp only [exs, Option.some.injEq, Prod.mk.injEq] at e
  obtain ⟨rfl, rfl, rfl⟩ := e
  exact l β H .refl s σ en
theorem ss_cons {a : Stmt} {b : List Stmt} {x : CS} {y : CSs} (ha : PS X a (tSt X.K W C n x)) (hb : PSs X b (tSs X.K W C n y)) : PSs X (a :: b) (tSs X.K W C n (.cons x y)) := PSs.imp (pss_cons ha hb) fun D σ H ⟨β, st, ρ, fl, ρ', st', s, en, e, l⟩ => by
  simp only [exs] at e
  split at e
  · rename_i ρ1 st1 e1
    exact ⟨β, st, ρ, .nx, ρ1, st1, s, en, e1, fun β1 H1 x1 s1 σ1 en1 => ⟨β1, st1, ρ1, fl, ρ', st', s1, en1, e, l.ext x1⟩⟩
  · rename_i hn
    refine ⟨β, st, ρ, fl, ρ', st', s, en, e, fun β1 H1 x1 s1 => ?_⟩
    cases fl with
    | nx => exact (hn _ _ e).elim
    | rt d => exact l β1 H1 x1 s1
    | bk => exact l β1 H1 x1 s1
    | ct => exact l β1 H1 x1 s1
    | ex c => exact l β1 H1 x1 s1
theorem s_asg {tg e : Expr} {t : Tgt} {a : CE} {pos : Pos} (he : PE X e (tE X.K C a)) (hg : PG X tg (tTg X.K t)) (hs : swapsWithSole [tg] e pos.line X.env = pure false) (hw : swappedStores [tg] e X.env = pure none)
    (h1 : (assignEach [tg] X.env).map (·.2) = [assign tg X.env]) : PS X (.Assign [tg] e pos) (tSt X.K W C n (.asg t a)) := PS.imp (ps_asg he hg hs hw h1) fun D σ H ⟨β, st, ρ, fl, ρ', st', s, en, e, l⟩ => by
  simp only [exS] at e
  split at e
  · cases e
  rename_i r st1 e1
  simp only [Option.map_eq_some_iff, Prod.mk.injEq] at e
  obtain ⟨ρ1, e2, rfl, rfl, rfl⟩ := e
  refine seq1 s en e1 fun v β1 H1 x1 s1 r1 en1 => ?_
  obtain ⟨β2, x2, s2, r2, _⟩ := mat_ok x1 s1 r1
  exact ⟨β2, _, ρ, ρ1, r2, en.mono s x2, e2, fun σ2 en2 _ => l β2 H1 x2 s2 σ2 en2⟩
theorem s_asgX {tg e : Expr} {t : Tgt} {a : CE} {pos : Pos} (he : PE X e (tE X.K C a)) (hx : PE X e (tX X.K W C a)) (hg : PG X tg (tTg X.K t)) (hs : swapsWithSole [tg] e pos.line X.env = pure false) (hw : swappedStores [tg] e X.env = pure none)
    (h1 : (assignEach [tg] X.env).map (·.2) = [assign tg X.env]) : PS X (.Assign [tg] e pos) (tSt X.K W C n (.asgX t a)) := PS.imp (PS.or (ps_asg he hg hs hw h1) (ps_asg hx hg hs hw h1)) fun D σ H ⟨β, st, ρ, fl, ρ', st', s, en, e, l⟩ => by
  simp only [exS] at e
  split at e
  · exact .inr (x_read s en e l)
  rename_i r st1 e1
  simp only [Option.map_eq_some_iff, Prod.mk.injEq] at e
  obtain ⟨ρ1, e2, rfl, rfl, rfl⟩ := e
  refine .inl (seq1 s en e1 fun v β1 H1 x1 s1 r1 en1 => ?_)
  obtain ⟨β2, x2, s2, r2, _⟩ := mat_ok x1 s1 r1
  exact ⟨β2, _, ρ, ρ1, r2, en.mono s x2, e2, fun σ2 en2 _ => l β2 H1 x2 s2 σ2 en2⟩
end
end Mw

set_option Elab.async false
set_option linter.all false
set_option autoImplicit false
set_option maxRecDepth 100000
/-! PyC8: stores, loops. -/
namespace Mw
open PySem PySem.Spec PyProof.Rows L2
variable [Tbs]
section
variable {X : Cx} {C : Call} {K : PySem.W.Frag} {n : Nat} {W : WX}
theorem asg_read {i : Nat} {a : CE} {pos : Pos} {En : Ends} {σ : L2.St} {H : Hp} (h : tSt K W C n (.asg (.nm i) a) En σ H) : tAsg (tE K C a) (gName i) En σ H := by
  obtain ⟨β, st, ρ, fl, ρ', st', s, en, e, l⟩ := h
  simp only [exS] at e
  split at e
  · cases e
  rename_i r st1 e1
  simp only [Option.map_eq_some_iff, Prod.mk.injEq, setT, Option.some.injEq] at e
  obtain ⟨ρ1, rfl, rfl, rfl, rfl⟩ := e
  refine seq1 s en e1 fun v β1 H1 x1 s1 r1 en1 => ?_
  obtain ⟨β2, x2, s2, r2, _⟩ := mat_ok x1 s1 r1
  exact l β2 H1 x2 s2 _ ((en.mono s x2).set r2)
/-- name = [.. for ..] -/
theorem s_setLc {i : Nat} {y : Str} {py : Pos} {elt tg iter : Expr} {ifs : List Expr} {scope : Scope} {own : List (Str × Nat)} {pos spos : Pos} {t : Tgt} {src : Src} {cs : CEs} {e : CE} (ht : ∀ j ∈ slotsT t, j ∈ own.map (·.2)) (hc : X.calm = true) (hN : X.N.Nodup)
    (hy : X.N[i]? = some y) (hyl : X.env.scope.names.lookup y = some .local) (hsw : swapsWith (.ListComp elt [⟨tg, iter, ifs, 0⟩] scope pos) (some (.Name y py)) spos.line X.env = pure true) (hi : PI X tg iter (tS X.K C src)) (ok : BlkOk X.N X.env.scope scope own)
    (hg : ∀ (s : Shared) (H : Hp) (A : Addr) (cl : List (Str × Addr)) (fp : List Addr), PG (X.blk s H scope (compEnvC scope cl A X.env) fp) tg (tTg X.K t)) (hs : ∀ (s : Shared) (H : Hp) (A : Addr) (cl : List (Str × Addr)) (fp : List Addr), PTs (X.blk s H scope (compEnvC scope cl A X.env) fp) ifs (tCs X.K C cs))
    (he : ∀ (s : Shared) (H : Hp) (A : Addr) (cl : List (Str × Addr)) (fp : List Addr), PE (X.blk s H scope (compEnvC scope cl A X.env) fp) elt (tE X.K C e)) (hf : ∀ x, foldedSetIterable iter X.env x = pure x) :
    PS X (.Assign [.Name y py] (.ListComp elt [⟨tg, iter, ifs, 0⟩] scope pos) spos) (tSt X.K W C n (.asg (.nm i) (.comp t src cs e (own.map (·.2))))) :=
  PS.imp (ps_setLc hc hN hy hyl hsw hi ok hg hs he hf) fun D σ H h => lc_read ht (asg_read (pos := pos) h)
/-- a, b = x, y -/
theorem s_par {i j : Nat} {x y : Str} {a b : Expr} {a' b' : CE} {px py pt pos : Pos} {kt k2 : Nat} {pt2 : Pos} (hc : X.calm = true) (hN : X.N.Nodup) (hi : X.N[i]? = some x) (hj : X.N[j]? = some y) (hij : i ≠ j)
    (hx : X.env.scope.names.lookup x = some .local) (hy : X.env.scope.names.lookup y = some .local) (ha : PA X [a, b] (tA X.K C (.cons a' (.cons b' .nil))))
    (hw : swappedStores [.Tuple [.Name x px, .Name y py] kt pt] (.Tuple [a, b] k2 pt2) X.env = pure (some [x, y])) :
    PS X (.Assign [.Tuple [.Name x px, .Name y py] kt pt] (.Tuple [a, b] k2 pt2) pos) (tSt X.K W C n (.asg (.tp (.cons (.nm i) (.cons (.nm j) .nil))) (.tup (.cons a' (.cons b' .nil))))) :=
  PS.imp (ps_par hc hN hi hj hij hx hy ha hw rfl) fun D σ H ⟨β, st, ρ, fl, ρ', st', s, en, e, l⟩ => by
    simp only [exS, ev] at e
    split at e
    · cases e
    rename_i r st1 e1
    simp only [Option.map_eq_some_iff, Prod.mk.injEq] at e1
    obtain ⟨⟨ds, st2⟩, e2, rfl, rfl⟩ := e1
    simp only [Option.map_eq_some_iff, Prod.mk.injEq, mat] at e
    obtain ⟨ρ1, e3, rfl, rfl, rfl⟩ := e
    refine seqA s en e2 fun vs β1 H1 x1 s1 r1 en1 => ?_
    have hl := evA_len e2
    simp only [lenC] at hl
    match ds, hl, e3, r1 with
    | [d1, d2], _, e3, ⟨v, w, e4, r2, v', w', e5, r3, e6⟩ =>
      subst e6 e5 e4
      simp only [setT, setTs, Option.some.injEq] at e3
      subst e3
      exact ⟨v, v', rfl, l β1 H1 x1 s1 _ ((en1.set r2).set r3)⟩
/-- name += e, name -= e, of numbers -/
theorem s_augAdd {i : Nat} {x : Str} {e : Expr} {a : CE} {pos' pos : Pos} (hN : X.N.Nodup) (hi : X.N[i]? = some x) (hx : Loc X.env.scope x) (he : PE X e (tE X.K C a)) (hf : X.fn x = true ∨ X.env.scope.names.lookup x = some .local) :
    PS X (.AugAssign (.Name x pos') .Add e pos) (tSt X.K W C n (.aug i .add a)) := PS.imp (ps_aug hN hi hx he ip_add hf) fun D σ H ⟨β, st, ρ, fl, ρ', st', s, en, ee, l⟩ => by
  simp only [exS] at ee
  split at ee
  · rename_i d hd
    split at ee
    · cases ee
    rename_i y st1 e1
    split at ee
    · rename_i p q
      simp only [Option.some.injEq, Prod.mk.injEq] at ee
      obtain ⟨rfl, rfl, rfl⟩ := ee
      obtain ⟨v, hv, rv⟩ := en.get hd
      cases rv
      exact ⟨.int p, hv, seq1 s en e1 fun w β1 H1 x1 s1 r1 en1 => ⟨p, q, rfl, r1, l β1 H1 x1 s1 _ (en1.set rfl)⟩⟩
    · cases ee
  · cases ee
theorem s_augSub {i : Nat} {x : Str} {e : Expr} {a : CE} {pos' pos : Pos} (hN : X.N.Nodup) (hi : X.N[i]? = some x) (hx : Loc X.env.scope x) (he : PE X e (tE X.K C a)) (hf : X.fn x = true ∨ X.env.scope.names.lookup x = some .local) :
    PS X (.AugAssign (.Name x pos') .Sub e pos) (tSt X.K W C n (.aug i .sub a)) := PS.imp (ps_aug hN hi hx he ip_sub hf) fun D σ H ⟨β, st, ρ, fl, ρ', st', s, en, ee, l⟩ => by
  simp only [exS] at ee
  split at ee
  · rename_i d hd
    split at ee
    · cases ee
    rename_i y st1 e1
    split at ee
    · rename_i p q
      simp only [Option.some.injEq, Prod.mk.injEq] at ee
      obtain ⟨rfl, rfl, rfl⟩ := ee
      obtain ⟨v, hv, rv⟩ := en.get hd
      cases rv
      exact ⟨.int p, hv, seq1 s en e1 fun w β1 H1 x1 s1 r1 en1 => ⟨p, q, rfl, r1, l β1 H1 x1 s1 _ (en1.set rfl)⟩⟩
    · cases ee
  · cases ee
/-- o[i] = e -/
theorem s_put {o i e : Expr} {a b c : CE} {tpos pos : Pos} (hu : X.A.units + 65 < cLine) (ho : PE X o (tE X.K C a)) (hi : PE X i (tE X.K C b)) (he : PE X e (tE X.K C c)) (hs : swapsWithSole [.Subscript o i tpos] e pos.line X.env = pure false)
    (ha : ∀ v, assign (.Subscript o i tpos) X.env v = (do
      let ov ← holding [v] (eval o X.env)
      let iv ← holding [v, ov] (eval i X.env)
      standAt tpos
      holding [v, ov, iv] (setItem ov iv v)
      release [v, ov, iv] [])) : PS X (.Assign [.Subscript o i tpos] e pos) (tSt X.K W C n (.put a b c)) :=
  PS.imp (ps_asg he (pg_sub ho hi (put_ok hu) ha) hs rfl rfl) fun D σ H ⟨β, st, ρ, fl, ρ', st', s, en, ee, l⟩ => by
    simp only [exS] at ee
    split at ee
    · cases ee
    rename_i r st1 e1
    split at ee
    · cases ee
    rename_i x st2 e2
    split at ee
    · cases ee
    rename_i y st3 e3
    simp only [Option.map_eq_some_iff, Prod.mk.injEq] at ee
    obtain ⟨st4, e4, rfl, rfl, rfl⟩ := ee
    refine seq1 s en e1 fun v β1 H1 x1 s1 r1 en1 => ?_
    obtain ⟨β2, x2, s2, r2, _⟩ := mat_ok x1 s1 r1
    have en2 := en.mono s x2
    refine seq1 s2 en2 e2 fun w β3 H3 x3 s3 r3 en3 => ?_
    refine seq1 s3 en3 e3 fun z β4 H4 x4 s4 r4 en4 => ?_
    have x34 := x3.trans x4 s4.nd
    refine ⟨β2, H1, β4, st3, x, y, _, st4, x34, s4, r3.mono s3 x4 s4.nd, r4.back x3 x4, Rep.mono s2 x34 _ _ r2, e4, fun β5 H5 x5 s5 _ => ?_⟩
    exact l β5 H5 (x2.trans x5 s5.nd) s5 σ (en2.mono s2 x5)
theorem s_while {c : Expr} {body : List Stmt} {k : CE} {b : CSs} {pos : Pos} (hp : PassesOwn (model X.prog X.w) X.A X.env X.xe) (hc : PT X c (tT X.K C k)) (hb : PSs X body (tSs X.K W C n b)) : PS X (.While c body [] pos) (tSt X.K W C n (.while k b)) :=
  PS.imp (ps_while hp hc hb) fun D σ H ⟨β, st, ρ, fl, ρ', st', s, en, e, l⟩ => by
    simp only [exS] at e
    refine ⟨fun m σ2 H2 => ∃ β2 st2 ρ2, Ext β H β2 H2 ∧ Sim X.K β2 st2 H2 ∧ EnvR X.K β2 H2 ρ2 σ2 ∧ whileL (fun σ st => evT C k σ st) (fun σ st => exs C n b σ st) m ρ2 st2 = some (fl, ρ', st'), ⟨n, β, st, ρ, .refl, s, en, e⟩, fun m σ2 H2 ⟨β2, st2, ρ2, x2, s2, en2, e2⟩ => ?_⟩
    cases m with
    | zero => simp only [whileL] at e2; cases e2
    | succ m =>
      simp only [whileL] at e2
      split at e2
      · cases e2
      · rename_i st3 e3
        simp only [Option.some.injEq, Prod.mk.injEq] at e2
        obtain ⟨rfl, rfl, rfl⟩ := e2
        refine seqT s2 en2 e3 fun β3 H3 x3 s3 en3 => ?_
        rw [if_neg Bool.false_ne_true]
        exact l β3 H3 (x2.trans x3 s3.nd) s3 σ2 en3
      · rename_i st3 e3
        refine seqT s2 en2 e3 fun β3 H3 x3 s3 en3 => ?_
        rw [if_pos rfl]
        have x03 := x2.trans x3 s3.nd
        refine ⟨fun σ' H' => ∃ β2 st2 ρ2, Ext β H β2 H' ∧ Sim X.K β2 st2 H' ∧ EnvR X.K β2 H' ρ2 σ' ∧ whileL (fun σ st => evT C k σ st) (fun σ st => exs C n b σ st) m ρ2 st2 = some (fl, ρ', st'), fun σ' H' h => ⟨m, Nat.lt_succ_self _, h⟩, ?_⟩
        cases hbody : exs C n b ρ2 st3 with
        | none => rw [hbody] at e2; cases e2
        | some r =>
          obtain ⟨fl4, ρ4, st4⟩ := r
          refine ⟨β3, st3, ρ2, fl4, ρ4, st4, s3, en3, hbody, fun β4 H4 x4 s4 => ?_⟩
          rw [hbody] at e2
          have x04 := x03.trans x4 s4.nd
          cases fl4 with
          | nx => exact fun σ4 en4 => ⟨β4, st4, ρ4, x04, s4, en4, e2⟩
          | ct => exact fun σ4 en4 => ⟨β4, st4, ρ4, x04, s4, en4, e2⟩
          | bk =>
            simp only [Option.some.injEq, Prod.mk.injEq] at e2
            obtain ⟨rfl, rfl, rfl⟩ := e2
            exact fun σ4 en4 => l β4 H4 x04 s4 σ4 en4
          | rt d =>
            simp only [Option.some.injEq, Prod.mk.injEq] at e2
            obtain ⟨rfl, rfl, rfl⟩ := e2
            exact fun v rv => l β4 H4 x04 s4 v rv
          | ex c =>
            simp only [Option.some.injEq, Prod.mk.injEq] at e2
            obtain ⟨rfl, rfl, rfl⟩ := e2
            exact fun σ4 en4 => l β4 H4 x04 s4 σ4 en4
theorem s_for {tg iter : Expr} {body : List Stmt} {t : Tgt} {src : Src} {b : CSs} {pos : Pos} (hp : PassesOwn (model X.prog X.w) X.A X.env X.xe) (hc : X.calm = true) (hi : PI X tg iter (tS X.K C src)) (hg : PG X tg (tTg X.K t)) (hb : PSs X body (tSs X.K W C n b))
    (hs : ∀ x, foldedSetIterable iter X.env x = pure x) : PS X (.For tg iter body [] pos) (tSt X.K W C n (.for t src b)) :=
  PS.imp (ps_for hp hc hi hg hb hs) fun D σ H ⟨β, st, ρ, fl, ρ', st', s, en, e, l⟩ => by
    simp only [exS] at e
    split at e
    · cases e
    rename_i v st1 e1
    refine ⟨β, st, ρ, v, st1, s, en, e1, fun β1 H1 J x1 s1 it => ?_⟩
    refine ⟨fun i m σ2 H2 => m = v.xs.length - i ∧ i ≤ v.xs.length ∧ ∃ β2 st2 ρ2, Ext β1 H1 β2 H2 ∧ Sim X.K β2 st2 H2 ∧ EnvR X.K β2 H2 ρ2 σ2 ∧ forL v.ws (fun d σ => setT t d σ) (fun σ st => exs C n b σ st) (v.xs.drop i) ρ2 st2 = some (fl, ρ', st'),
      ⟨_, rfl, Nat.zero_le _, β1, st1, ρ, .refl, s1, en.mono s x1, by simpa using e⟩, fun i m σ2 H2 hw => ?_⟩
    obtain ⟨rfl, hi, β2, st2, ρ2, x2, s2, en2, e2⟩ := hw
    by_cases hlt : i < v.xs.length
    rotate_left
    · have hie : i = v.xs.length := by omega
      subst hie
      rw [List.drop_length] at e2
      simp only [forL] at e2
      split at e2
      · rename_i hk
        simp only [Option.some.injEq, Prod.mk.injEq] at e2
        obtain ⟨rfl, rfl, rfl⟩ := e2
        exact .inl ⟨it.stop β2 st2 H2 x2 s2 hk, l β2 H2 (x1.trans x2 s2.nd) s2 σ2 en2⟩
      · cases e2
    · have hd : v.xs.drop i = v.xs[i] :: v.xs.drop (i + 1) := List.drop_eq_getElem_cons hlt
      rw [hd] at e2
      simp only [forL] at e2
      split at e2
      rotate_left
      · cases e2
      rename_i hk
      split at e2
      · cases e2
      rename_i ρ3 hset
      obtain ⟨go, yl⟩ := it.turn β2 st2 H2 x2 s2 hk i v.xs[i] (by simp [hlt])
      refine .inr ⟨go, fun σ' H' => ∃ β2 st2 ρ2, Ext β1 H1 β2 H' ∧ Sim X.K β2 st2 H' ∧ EnvR X.K β2 H' ρ2 σ' ∧ forL v.ws (fun d σ => setT t d σ) (fun σ st => exs C n b σ st) (v.xs.drop (i + 1)) ρ2 st2 = some (fl, ρ', st'), fun σ' H' h => ⟨v.xs.length - (i + 1), by omega, rfl, hlt, h⟩, fun x H3 hy => ?_⟩
      obtain ⟨x3, s3, rx⟩ := yl x H3 hy
      refine ⟨β2, v.xs[i], ρ2, ρ3, rx, en2.mono s2 x3, hset, fun σ4 en4 oa => ?_⟩
      have x13 := x2.trans x3 s3.nd
      cases hbody : exs C n b ρ3 st2 with
      | none => rw [hbody] at e2; cases e2
      | some r =>
        obtain ⟨fl4, ρ4, st4⟩ := r
        refine ⟨β2, st2, ρ3, fl4, ρ4, st4, s3, en4, hbody, fun β4 H4 x4 s4 => ?_⟩
        rw [hbody] at e2
        have x14 := x13.trans x4 s4.nd
        cases fl4 with
        | nx => exact fun σ4 en4 => ⟨β4, st4, ρ4, x14, s4, en4, e2⟩
        | ct => exact fun σ4 en4 => ⟨β4, st4, ρ4, x14, s4, en4, e2⟩
        | bk =>
          simp only [Option.some.injEq, Prod.mk.injEq] at e2
          obtain ⟨rfl, rfl, rfl⟩ := e2
          exact fun σ4 en4 => l β4 H4 (x1.trans x14 s4.nd) s4 σ4 en4
        | rt d =>
          simp only [Option.some.injEq, Prod.mk.injEq] at e2
          obtain ⟨rfl, rfl, rfl⟩ := e2
          exact fun v rv => l β4 H4 (x1.trans x14 s4.nd) s4 v rv
        | ex c =>
          simp only [Option.some.injEq, Prod.mk.injEq] at e2
          obtain ⟨rfl, rfl, rfl⟩ := e2
          exact fun σ4 en4 => l β4 H4 (x1.trans x14 s4.nd) s4 σ4 en4
end
end Mw

set_option Elab.async false
set_option linter.all false
set_option autoImplicit false
set_option maxRecDepth 100000
/-! PyC9: min and max with default=. -/
namespace Mw
open PySem PySem.Spec PyProof.Rows L2
variable [Tbs]
theorem ints_alike (ns : List Int) : PySem.W.AlikeAll (ns.map PyData.int) := by
  refine ⟨fun x hx y hy => ?_, fun x hx => ?_⟩
  · obtain ⟨a, _, rfl⟩ := List.mem_map.mp hx
    obtain ⟨b, _, rfl⟩ := List.mem_map.mp hy
    rfl
  · obtain ⟨a, _, rfl⟩ := List.mem_map.mp hx
    intro h; cases h
theorem ints_depth : ∀ (ns : List Int), PyData.depthAll (ns.map PyData.int) ≤ 1
  | [] => by simp [PyData.depthAll]
  | n :: ns => by
    have := ints_depth ns
    simp only [List.map_cons, PyData.depthAll, PyData.depth]
    omega
section
variable {X : Cx} {C : Call}
def rMM (K : PySem.W.Frag) (mx : Bool) : List V → List V → Hp → VK → Prop := fun vs zs H Q => ∃ (a : Addr) (ns : List Int) (d : V), vs = [V.ref a] ∧ zs = [d] ∧ SqL K H a (ns.map V.int) ∧
  Q (match (if mx then maxI ns else minI ns) with | some i => .int i | none => d) H
theorem minI_min : ∀ (ns : List Int) (n : Int), ns.foldl (fun m y => if y < m then y else m) n = ns.foldl min n
  | [], n => rfl
  | y :: ns, n => by
    rw [List.foldl_cons, List.foldl_cons, minI_min ns]
    congr 1
    omega
theorem maxI_max : ∀ (ns : List Int) (n : Int), ns.foldl (fun m y => if y > m then y else m) n = ns.foldl max n
  | [], n => rfl
  | y :: ns, n => by
    rw [List.foldl_cons, List.foldl_cons, maxI_max ns]
    congr 1
    omega
theorem cr_minD (hc : X.calm = true) (hu : X.A.units + 65 < cLine) : CallRK X (.builtin "min") [Str.ofString "default"] (rMM X.K false) := by
  intro pins s σ H vs zs us ws Q I r rz h
  obtain ⟨a, ns, d, rfl, rfl, hs, q⟩ := h
  obtain ⟨its, rv, hl, _⟩ := I.list hs
  obtain rfl := Vals.ref1 r
  obtain ⟨w1, rfl, e1⟩ := vals1 rz
  have hd := ints_depth ns
  refine PySem.W.min_list_default (xs := ns.map PyData.int) (as := []) (I.ok.hd hc) hl.isList (by simpa using PyProof.Rows.IntsAre.reads s.heap rv.ints) (ints_alike ns) (by omega) (fun hz h' tk hk => ?_) fun y ys i v h' tk bs hz _ hr hk => ?_
  · have : ns = [] := List.map_eq_nil_iff.mp hz
    subst this
    exact ⟨d, H, I.kept hk, e1, q⟩
  · cases ns with
    | nil => cases hz
    | cons n ns =>
      simp only [List.map_cons, List.cons.injEq] at hz
      obtain ⟨rfl, rfl⟩ := hz
      rw [PySem.W.minD_ints] at hr
      cases hr
      refine ⟨.int (ns.foldl min n), H, I.kept hk, ⟨_, rfl⟩, ?_⟩
      simp only [minI, minI_min] at q
      exact q
theorem cr_maxD (hc : X.calm = true) (hu : X.A.units + 65 < cLine) : CallRK X (.builtin "max") [Str.ofString "default"] (rMM X.K true) := by
  intro pins s σ H vs zs us ws Q I r rz h
  obtain ⟨a, ns, d, rfl, rfl, hs, q⟩ := h
  obtain ⟨its, rv, hl, _⟩ := I.list hs
  obtain rfl := Vals.ref1 r
  obtain ⟨w1, rfl, e1⟩ := vals1 rz
  have hd := ints_depth ns
  refine PySem.W.max_list_default (xs := ns.map PyData.int) (as := []) (I.ok.hd hc) hl.isList (by simpa using PyProof.Rows.IntsAre.reads s.heap rv.ints) (ints_alike ns) (by omega) (fun hz h' tk hk => ?_) fun y ys i v h' tk bs hz _ hr hk => ?_
  · have : ns = [] := List.map_eq_nil_iff.mp hz
    subst this
    exact ⟨d, H, I.kept hk, e1, q⟩
  · cases ns with
    | nil => cases hz
    | cons n ns =>
      simp only [List.map_cons, List.cons.injEq] at hz
      obtain ⟨rfl, rfl⟩ := hz
      rw [PySem.W.maxD_ints] at hr
      cases hr
      refine ⟨.int (ns.foldl max n), H, I.kept hk, ⟨_, rfl⟩, ?_⟩
      simp only [maxI, maxI_max] at q
      exact q
theorem boot_min : bootBuiltins (Str.ofString "min") = some (.builtin "min") := by kernel_rfl
theorem boot_max : bootBuiltins (Str.ofString "max") = some (.builtin "max") := by kernel_rfl
theorem e_mm {mx : Bool} {x : Str} {e f : Expr} {a b : CE} {p kp pos : Pos} (hx : x = if mx then Str.ofString "max" else Str.ofString "min") (hp : plainE e = true) (hc : X.calm = true) (hu : X.A.units + 65 < cLine) (hg : Gl X x) (hm : X.mg x = none) (ha : PE X e (tE X.K C a)) (hb : PE X f (tE X.K C b)) :
    PE X (.Call (.Name x p) [e] [⟨some (Str.ofString "default"), f, kp⟩] pos) (tE X.K C (.mm mx a b)) := by
  have core : PE X (.Call (.Name x p) [e] [⟨some (Str.ofString "default"), f, kp⟩] pos) (tCKw (rMM X.K mx) (tCons (tE X.K C a) tNil) (tCons (tE X.K C b) tNil)) := by
    have hs : backTo pos (starEach [e] X.env) = (false, eval e X.env) :: backTo pos (starEach [] X.env) := by rw [star_plain hp]; rfl
    have hs2 : (backTo pos (starEach [e] X.env)).any (·.1) = false := stars_plain (by simp [hp])
    subst hx
    cases mx
    · exact pe_callBK (cr_minD hc hu) hg hm boot_min (pa_cons ha pa_nil (star_plain hp)) (pk_cons hb pk_nil) (by decide) (by decide) hs hs2
    · exact pe_callBK (cr_maxD hc hu) hg hm boot_max (pa_cons ha pa_nil (star_plain hp)) (pk_cons hb pk_nil) (by decide) (by decide) hs hs2
  refine PE.imp core fun σ H Q ⟨β, st, ρ, r, st', s, en, h, q⟩ => ?_
  simp only [ev] at h
  split at h
  · cases h
  rename_i y st1 e1
  split at h
  · cases h
  rename_i z st2 e2
  simp only [Option.map_eq_some_iff, Prod.mk.injEq] at h
  obtain ⟨w, e3, rfl, rfl⟩ := h
  unfold tCKw tCons tNil
  refine seq1 s en e1 fun v β1 H1 x1 s1 r1 en1 => seq1 s1 en1 e2 fun u β2 H2 x2 s2 r2 en2 => ?_
  have x12 := x1.trans x2 s2.nd
  unfold mmApp at e3
  split at e3
  · rename_i d
    simp only [Option.bind_eq_some_iff] at e3
    obtain ⟨zs, f1, ns, f2, e3⟩ := e3
    obtain ⟨q1, rfl, h1⟩ := listInts s2 (r1.mono s1 x2 s2.nd) f1 f2
    simp only [Option.some.injEq] at e3
    subst e3
    refine ⟨q1, ns, u, rfl, rfl, h1, ?_⟩
    cases hh : (if mx then maxI ns else minI ns) with
    | none =>
      rw [hh] at q
      exact q u β2 H2 x12 s2 r2
    | some i =>
      rw [hh] at q
      exact q (.int i) β2 H2 x12 s2 rfl
  · cases e3
end
end Mw

set_option Elab.async false
set_option linter.all false
set_option autoImplicit false
set_option maxRecDepth 100000
/-! PyC10: for i in reversed(range(e)). -/
namespace Mw
open PySem PySem.Spec PyProof.Rows L2
variable [Tbs]
section
variable {X : Cx} {C : Call} {K : PySem.W.Frag}
theorem s_revC {β : List Addr} {H : Hp} {n : Nat} (h : n ≤ sizeLine) : ItOk K β H ⟨(rangeD 0 n).reverse, [], false⟩ (Itc ((n : Int) - 1) (-1) n) :=
  ⟨fun β2 st2 H2 x2 s2 _ i d hd => by
    have hi : i < n := by
      have := (List.getElem?_eq_some_iff.mp hd).1
      simpa [rangeD] using this
    have hd' : d = .int ((n : Int) - 1 - (i : Int)) := by
      rw [List.getElem?_reverse (by simpa [rangeD] using hi)] at hd
      simp only [rangeD, List.length_map, List.length_range, List.getElem?_map, Option.map_eq_some_iff] at hd
      obtain ⟨j, hj, rfl⟩ := hd
      obtain ⟨_, hj⟩ := List.getElem?_eq_some_iff.mp hj
      simp only [List.getElem_range] at hj
      subst hj
      congr 1; omega
    subst hd'
    exact ⟨hi, fun x H3 hy => by obtain ⟨rfl, rfl⟩ := hy; exact ⟨.refl, s2, by show _ = _; congr 1; omega⟩⟩,
  fun β2 st2 H2 x2 s2 _ => by simp [Itc, rangeD], fun hb => by simpa [rangeD] using h⟩
theorem s_rvR {tg e : Expr} {a : CE} {p p2 pos pos2 : Pos} (hp : plainE e = true) (hg : Gl X "reversed") (hm : X.mg "reversed" = none) (hg2 : Gl X "range") (hm2 : X.mg "range" = none) (ha : PE X e (tE X.K C a)) :
    PI X tg (.Call (.Name "reversed" p) [.Call (.Name "range" p2) [e] [] pos2] [] pos) (tS X.K C (.rv (.los true a))) :=
  PI.imp (pi_revR hg hm (prg_1 hg2 hm2 ha (by rw [star_plain hp])) (star_plain rfl)) fun σ H R ⟨β, st, ρ, v, st', s, en, h, q⟩ => by
    simp only [evS, ev] at h
    split at h
    · cases h
    rename_i r st1 e1
    split at e1
    · cases e1
    rename_i x st2 e2
    simp only [Option.map_eq_some_iff, Prod.mk.injEq] at e1 h
    obtain ⟨z, e3, rfl, rfl⟩ := e1
    obtain ⟨w, e4, rfl, rfl⟩ := h
    obtain ⟨j, rfl, hj, rfl⟩ := los_of e3
    simp only [if_true, srcSeq, Option.some.injEq] at e4
    subst e4
    refine seq1 s en e2 fun v β1 H1 x1 s1 r1 en1 => ?_
    cases r1
    obtain ⟨h1, h2, h3, h4, h5⟩ := hj
    refine ⟨j, rfl, by omega, by omega, by omega, by omega, ?_⟩
    have e1 : (0 : Int) + (((j - 0).toNat : Nat) : Int) - 1 = (j.toNat : Int) - 1 := by
      rw [show j - 0 = j by omega]; omega
    have e2 : (j - 0).toNat = j.toNat := by rw [show j - 0 = j by omega]
    rw [e1, e2]
    refine q β1 _ _ x1 s1 (s_revC ?_)
    rw [sizeLine_eq]
    omega
end
end Mw

set_option Elab.async false
set_option linter.all false
set_option autoImplicit false
set_option maxRecDepth 100000
/-! PyC11: sorted(xs, key=f, reverse=b), f a def of the program, xs a list or a tuple. -/
namespace Mw
open PySem PySem.Spec PyProof.Rows L2
variable [Tbs]
section
variable {prog : Program} {w : World} {A : Around} {E : Value → Shared → Prop} {s : Shared} {l : Addr} {ws : List Value}
/-- a list's or a tuple's own object -/
def SeqAtL (h : Heap) (l : Addr) (ws : List Value) : Prop := ∃ (o : Obj) (n : Nat), h.get? l = some o ∧ (o.cls = .type "list" ∨ o.cls = .type "tuple") ∧ o.data = .seq ws.toArray n
theorem gather_seq {Q : List Value → Shared → Prop} (hs : SeqAtL s.heap l ws) (hz : ws.length ≤ sizeLine)
    (q : Q ws { s with heap := (s.heap.push (seqObj "list" #[] 0)).update s.heap.objs.size (Obj.mapSeq (· ++ ws.toArray)) }) :
    wpAny (model prog w) A (collect (.ref l)) Q E s := by
  obtain ⟨o, n, h1, h2, h3⟩ := hs
  rcases h2 with h2 | h2
  · exact collect_list ⟨o, h1, h2, n, h3⟩ q hz
  unfold collect
  refine wpAny_bind (wpAny_runValue (codeAny_builtin entry_proto_collect' ?_))
  show wpAny _ _ (do again (.builtin "list.__iadd__" ⟨[← newList [], .ref l], []⟩)) _ _ s
  refine wpAny_bind (wpAny_newList (wpAny_pure ⟨Code.quiet_builtin _ (by decide +kernel), codeAny_builtin entry_list_iadd' ?_⟩))
  show wpAny _ _ (Builtin.List.listExtendWith (.ref s.heap.objs.size) (.ref l) (.ref s.heap.objs.size)) _ _ { s with heap := s.heap.push (seqObj "list" #[] 0) }
  unfold Builtin.List.listExtendWith
  have g1 : (s.heap.push (seqObj "list" #[] 0)).get? l = some o := Heap.get?_push_of_some _ h1
  refine wpAny_bind (wpAny_typeOf (T := "tuple") ⟨o, g1, h2⟩ ?_)
  have hb : (Value.type "tuple" == Value.type "tuple") = true := by rfl
  rw [if_pos (by rw [hb]; simp)]
  refine wpAny_bind (listItems_at g1 h3 (wpAny_bind (listItems_at (xs := #[]) (n := 0) (Heap.get?_push_size _ rfl) rfl ?_)))
  rw [if_neg (by simp)]
  refine wpAny_bind (listUpdate_at (xs := #[]) (n := 0) (Heap.get?_push_size _ rfl) rfl (wpAny_pure ?_) (Nat.zero_le _) (by show (#[] ++ ws.toArray).size ≤ sizeLine + 1; simp only [Array.size_append, List.size_toArray, List.length_nil]; omega))
  show wpAny (model prog w) A (do
      let o ← load s.heap.objs.size
      match o.data with
      | .seq xs _ => pure xs.toList
      | _ => unsupported "internal:collect") Q E { s with heap := (s.heap.push (seqObj "list" #[] 0)).update s.heap.objs.size (Obj.mapSeq (· ++ ws.toArray)) }
  refine wpAny_bind (wpAny_load (get?_update_seq (Heap.get?_push_size _ rfl) _) ?_)
  show wpAny _ _ (pure ((#[] : Array Value) ++ ws.toArray).toList) Q E _
  rw [show ((#[] : Array Value) ++ ws.toArray).toList = ws by simp]
  exact wpAny_pure q
theorem sorted_seq {kw : List (Str × Value)} {Q : Value → Shared → Prop} (hs : SeqAtL s.heap l ws) (hz : ws.length ≤ sizeLine) (k1 : argsOk "sorted" ⟨[.ref l], kw⟩) (k2 : ∀ x, argsOk "list.sort" ⟨[.ref x], kw⟩)
    (body : ∀ E' : Value → Shared → Prop, wpAny (model prog w) A.in1.in1 (Builtin.«list.sort» ⟨[.ref (s.heap.objs.size + 1)], kw⟩) (fun f s' => f = .done (.ret .none) ∧ Q (.ref (s.heap.objs.size + 1)) s') E' { s with heap := PySem.W.copyHeap s.heap ws }) :
    wpAny (model prog w) A (call (.builtin "sorted") [.ref l] kw) Q E s := by
  refine call_function_entry_kw kind_sorted plain_sorted entry_sorted k1 ?_
  unfold Builtin.«sorted»
  refine wpAny_bind (m := checkCount "sorted" 1 1 _) (wpAny_pure (wpAny_bind (gather_seq hs hz (wpAny_bind (wpAny_newList ?_ hz)))))
  have hsz : ((s.heap.push (seqObj "list" #[] 0)).update s.heap.objs.size (Obj.mapSeq (· ++ ws.toArray))).objs.size = s.heap.objs.size + 1 := by rw [Heap.size_update, size_push']
  show wpAny _ _ _ _ _ { s with heap := PySem.W.copyHeap s.heap ws }
  rw [hsz]
  refine wpAny_bind (wpAny_holding (wpAny_call_entry_kw slot_list_sort ⟨_, PySem.W.copyHeap_at s.heap ws, rfl⟩ entry_list_sort ?_ (k2 _)))
  show wpAny (model prog w) A.in1.in1 (Builtin.«list.sort» ⟨[.ref (s.heap.objs.size + 1)], kw⟩) _ _ _
  refine wpAny_mono (body _) (fun f s' hf => ?_) fun _ _ e => e
  obtain ⟨rfl, hq⟩ := hf
  exact ⟨_, rfl, wpAny_pure ⟨_, rfl, hq⟩⟩
end
section
variable {X : Cx} {pins : List (Addr × Obj)} {σ : L2.St} {H : Hp} {s : Shared} {A : Around} {E : Value → Shared → Prop}
theorem FpOk.nofr {b : Addr} (I : Inv X pins σ H s) (f : FpOk X pins H b) : b ∉ frs X.stack := fun hb => by
  rcases List.mem_cons.mp (I.stkSub b hb) with z | z
  · exact f.2.1 z
  · exact f.2.2.1 z
/-- what a call of the key's def does -/
def KeyRun (X : Cx) (W : Hp → Prop) (H : Hp) (k : Int) (s1 : Shared) (v : Value) (s2 : Shared) : Prop :=
  ∃ H', (∃ t, v = .int k t) ∧ W H' ∧ s2.os = s1.os ∧ AllBare s2.gens ∧ Un (frs X.stack) [] H H' s1.heap s2.heap ∧ HOk X.prog X.w H' s2.heap
theorem FpOk.un {H' : Hp} {b : Addr} {o : Obj} {g g' : Heap} (f : FpOk X pins H b) (u : Un (frs X.stack) [] H H' g g') (hb : g.get? b = some o) : FpOk X pins H' b :=
  ⟨u.free b o hb f.1 List.not_mem_nil, f.2⟩
theorem int_snoc {n : Int} {t : Tok} : ∀ {us : List Value} {ns : List Int}, IntsAre us ns → IntsAre (us ++ [.int n t]) (ns ++ [n])
  | _, _, .nil => .cons n t .nil
  | _, _, .cons m u r => .cons m u (int_snoc r)
theorem ints_each {g : Heap} : ∀ {us : List Value} {ns : List Int}, IntsAre us ns → PySem.W.EachIs (fun v d => ∃ as, Reads g v d as) us (ns.map PyData.int)
  | _, _, .nil => .nil
  | _, _, .cons n t r => .cons ⟨[], Reads.int ..⟩ (ints_each r)
theorem key_run {W : Hp → Prop} (hW : W H) {P : PySem.Fin → Shared → Prop} {f : Value} {a kS : Addr} {b : Bool} {ws : List Value} {ks : List Int} {e1 : Nat} (I : Inv X pins σ H s) (fa : FpOk X pins H a) (fk : FpOk X pins H kS)
    (nk : s.heap.get? kS = some (seqObj "list" #[] 0)) (na : s.heap.get? a = some (seqObj "list" #[] e1)) (hka : kS ≠ a) (hlen : ks.length = ws.length) (hz : ws.length ≤ sizeLine) (hu : A.units + 10 < cLine)
    (turn : ∀ (i : Nat) (u : Value) (k : Int), ws[i]? = some u → ks[i]? = some k → ∀ H1 s1, W H1 → Inv X pins σ H1 s1 → wpAny (model X.prog X.w) A (call f [u]) (KeyRun X W H1 k s1) (fun _ _ => False) s1)
    (h : ∀ H3 s3 out c, W H3 → Inv X pins σ H3 s3 → FpOk X pins H3 a → s3.heap.get? a = some (seqObj "list" (List.toArray out) c) → PySem.W.KeyedOut b (ks.map PyData.int) ws out → P (.done (.ret .none)) s3) :
    wpAny (model X.prog X.w) A (ksk_rest a f b ws.toArray e1 (.ref kS)) P E s := by
  have ra : a ∉ frs X.stack := FpOk.nofr I fa
  have rk : kS ∉ frs X.stack := FpOk.nofr I fk
  unfold ksk_rest
  refine wpAny_bind (wpAny_rule ?_)
  first
    | rw [List.forIn_toArray]
    | (rw [← Array.forIn_toList]; simp only [List.toList_toArray])
    | rw [← Array.forIn_toList]
  refine wpAny_bind (ksk_fold (fun i s1 => ∃ H1 kA e, W H1 ∧ FpOk X pins H1 a ∧ FpOk X pins H1 kS ∧ Inv X pins σ H1 s1 ∧ s1.heap.get? kS = some (seqObj "list" kA e) ∧ s1.heap.get? a = some (seqObj "list" #[] e1) ∧ IntsAre kA.toList (ks.take i)) ws 0 s ⟨H, #[], 0, hW, fa, fk, I, nk, na, by rw [List.take_zero]; exact .nil⟩ (fun j u s1 hx hJ => ?_) fun s1 hJ => ?_)
  · obtain ⟨H1, kA, e, hW1, fa1, fk1, I1, nk1, na1, hk⟩ := hJ
    simp only [Nat.zero_add] at hk ⊢
    have hj : j < ws.length := (List.getElem?_eq_some_iff.mp hx).1
    obtain ⟨k, hkj⟩ : ∃ k, ks[j]? = some k := ⟨_, List.getElem?_eq_getElem (by omega)⟩
    have hsz : kA.size ≤ ws.length := by
      have q := hk.length
      rw [Array.length_toList, List.length_take] at q
      omega
    refine wpAny_bind (wpAny_attempt (wpAny_mono (turn j u k hx hkj H1 s1 hW1 I1) (fun v s2 hv => ?_) fun _ _ z => z.elim))
    obtain ⟨H2, ⟨t, rfl⟩, hW2, os, bare, un, hok⟩ := hv
    have I2 : Inv X pins σ H2 s2 := I1.call' os un hok bare (fun b y => absurd y List.not_mem_nil)
    have nk2 : s2.heap.get? kS = some (seqObj "list" kA e) := un.keep _ _ nk1 fk1.1 rk List.not_mem_nil
    have na2 : s2.heap.get? a = some (seqObj "list" #[] e1) := un.keep _ _ na1 fa1.1 ra List.not_mem_nil
    have sb := Heap.SameBut.update s2.heap kS (Obj.mapSeq (·.push (Value.int k t)))
    obtain ⟨c2, hc2⟩ : ∃ c2, (s2.heap.update kS (Obj.mapSeq (·.push (Value.int k t)))).get? kS = some (seqObj "list" (kA.push (.int k t)) c2) := ⟨_, get?_update_seq nk2 (·.push (Value.int k t))⟩
    try dsimp only
    refine wpAny_bind (listUpdate_at nk2 rfl (wpAny_pure ⟨rfl, H2, kA.push (.int k t), c2, hW2, FpOk.un fa1 un na1, FpOk.un fk1 un nk1, I2.turnedL (t' := s2.toks) (ch := [kS]) (fun b o hb q => (sb.2 b (fun z => hb (by simp [z]))).trans q) (fun b hb => by rw [List.mem_singleton.mp hb]; exact FpOk.un fk1 un nk1), hc2, (sb.2 a hka.symm).trans na2, ?_⟩)
      (Nat.le_trans hsz hz) (Nat.le_trans (Nat.le_of_eq (Array.size_push ..)) (Nat.succ_le_succ (Nat.le_trans hsz hz))))
    have e3 : ks.take (j + 1) = ks.take j ++ [k] := by rw [List.take_add_one, hkj]; simp
    have e4 : (kA.push (Value.int k t)).toList = kA.toList ++ [.int k t] := by simp
    rw [e3, e4]
    exact int_snoc hk
  · obtain ⟨H1, kA, e, hW1, fa1, fk1, I1, nk1, na1, hk⟩ := hJ
    have e3 : ks.take (0 + ws.length) = ks := List.take_of_length_le (by omega)
    rw [e3] at hk
    have hsz : kA.size = ws.length := by
      have q := hk.length
      rw [Array.length_toList] at q
      omega
    have hal : PySem.W.AllAlike (ks.map PyData.int) := PySem.W.AllAlike.of fun _ _ => rfl
    have hsk : PySem.W.Sortable (ks.map PyData.int) := PySem.W.Sortable.others fun _ => And.intro (fun z => by cases z) (fun _ z => by cases z)
    have hu2 : ∀ d, d ∈ ks.map PyData.int → A.units + d.depth < cLine := fun d hd => by
      obtain ⟨k, _, rfl⟩ := List.mem_map.mp hd
      simp only [PyData.depth]; omega
    refine wpAny_bind (listItems_at nk1 rfl ?_)
    refine PySem.W.keyH_end (κ := PySem.W.dataKind s1.heap (ks.map PyData.int)) (h₁ := PySem.W.hideAll s1.heap [kS]) (fun c o hc q => ?_) (PySem.W.hideAll_none _ (by simp)) nk1 na1 hka (PySem.W.SortsAt.data (ints_each hk) hal hsk hu2) hsz hz fun h3 tk3 c k3 n3 => ?_
    · exact PySem.W.of_hideAll _ q
    · refine h H1 _ _ c hW1 (I1.turnedL (t' := tk3) (h' := h3) (ch := [a, kS]) (fun d o hd q => ?_) fun d hd => ?_) fa1 n3 ⟨s1.heap, kA.toList, hal, rfl, ints_each hk⟩
      · simp only [List.mem_cons, List.not_mem_nil, or_false, not_or] at hd
        exact k3 d o hd.1 (PySem.W.hideAll_get _ q (by simpa using hd.2))
      · simp only [List.mem_cons, List.not_mem_nil, or_false] at hd
        rcases hd with rfl | rfl
        · exact fa1
        · exact fk1
theorem sorted_keyI {W : Hp → Prop} (hW : W H) {Q : Value → Shared → Prop} {l : Addr} {f : Value} {b : Bool} {kw : List (Str × Value)} {ws : List Value} {ks : List Int} (I : Inv X pins σ H s) (hs : SeqAtL s.heap l ws) (hz : ws.length ≤ sizeLine) (hlen : ks.length = ws.length) (hu : X.A.units + 65 < cLine)
    (k1 : argsOk "sorted" ⟨[.ref l], kw⟩) (k2 : ∀ x, argsOk "list.sort" ⟨[.ref x], kw⟩) (ht : ∀ x, Builtin.«list.sort» ⟨[.ref x], kw⟩ = ksk_tree x f b)
    (turn : ∀ (i : Nat) (u : Value) (k : Int), ws[i]? = some u → ks[i]? = some k → ∀ H1 s1, W H1 → Inv X pins σ H1 s1 → wpAny (model X.prog X.w) X.A.in1.in1 (call f [u]) (KeyRun X W H1 k s1) (fun _ _ => False) s1)
    (q : ∀ p H3 s3 out c, W H3 → Inv X pins σ H3 s3 → FpOk X pins H3 p → s3.heap.get? p = some (seqObj "list" (List.toArray out) c) → PySem.W.KeyedOut b (ks.map PyData.int) ws out → Q (.ref p) s3) :
    wpAny (model X.prog X.w) X.A (call (.builtin "sorted") [.ref l] kw) Q E s := by
  refine sorted_seq hs hz k1 k2 fun E' => ?_
  rw [ht]
  obtain ⟨h0, eh⟩ : ∃ h0, h0 = PySem.W.copyHeap s.heap ws := ⟨_, rfl⟩
  have ho : h0.get? (s.heap.objs.size + 1) = some (seqObj "list" ws.toArray 0) := by rw [eh]; exact PySem.W.copyHeap_at s.heap ws
  have old : ∀ c o, s.heap.get? c = some o → h0.get? c = some o ∧ c ≠ s.heap.objs.size + 1 := fun c o z => ⟨by rw [eh]; exact PySem.W.copyHeap_old z, Nat.ne_of_lt (Nat.lt_succ_of_lt (Heap.lt_size z))⟩
  rw [← eh]
  clear eh
  have hlt := Heap.lt_size ho
  obtain ⟨e1, ho1⟩ : ∃ e1, (h0.update (s.heap.objs.size + 1) (Obj.mapSeq fun _ => (#[] : Array Value))).get? (s.heap.objs.size + 1) = some (seqObj "list" #[] e1) := ⟨_, get?_update_seq ho fun _ => #[]⟩
  have sb := Heap.SameBut.update h0 (s.heap.objs.size + 1) (Obj.mapSeq fun _ => (#[] : Array Value))
  have hsz : (h0.update (s.heap.objs.size + 1) (Obj.mapSeq fun _ => (#[] : Array Value))).objs.size = h0.objs.size := Heap.size_update ..
  unfold ksk_tree
  refine wpAny_bind (listItems_at ho rfl (wpAny_bind (listUpdate_at ho rfl ?_ (by rw [List.size_toArray]; exact hz) (Nat.zero_le _))))
  refine wpAny_bind (seqEpoch_at ho1 rfl (wpAny_bind (wpAny_newTuple ?_ (by show ws.length ≤ _; exact hz))))
  refine wpAny_bind (wpAny_newList (wpAny_holding ?_) (Nat.zero_le _))
  obtain ⟨h1, eh1⟩ : ∃ h1, h1 = h0.update (s.heap.objs.size + 1) (Obj.mapSeq fun _ => (#[] : Array Value)) := ⟨_, rfl⟩
  rw [← eh1] at ho1 sb hsz ⊢
  have hk3 : (h1.push (seqObj "tuple" ws.toArray 0)).objs.size = h1.objs.size + 1 := size_push' ..
  have up : ∀ c o, s.heap.get? c = some o → ((h1.push (seqObj "tuple" ws.toArray 0)).push (seqObj "list" #[] 0)).get? c = some o := fun c o z =>
    Heap.get?_push_of_some _ (Heap.get?_push_of_some _ ((sb.2 c (old c o z).2).trans (old c o z).1))
  have fa : FpOk X pins H (s.heap.objs.size + 1) := I.fpOk (Nat.le_succ _) (I.hok.fresh (Nat.le_succ _))
  have hle2 : s.heap.objs.size + 1 < (h1.push (seqObj "tuple" ws.toArray 0)).objs.size := by rw [hk3, hsz]; exact Nat.lt_succ_of_lt hlt
  have hle : s.heap.objs.size ≤ (h1.push (seqObj "tuple" ws.toArray 0)).objs.size := Nat.le_of_lt (Nat.lt_of_succ_lt hle2)
  have fk : FpOk X pins H (h1.push (seqObj "tuple" ws.toArray 0)).objs.size := I.fpOk hle (I.hok.fresh hle)
  refine key_run hW (ks := ks) (I.kept (t' := s.toks) up) fa fk (Heap.get?_push_size _ rfl) (Heap.get?_push_of_some _ (Heap.get?_push_of_some _ ho1)) (Nat.ne_of_gt hle2) hlen hz (by show X.A.units + 1 + 1 + 10 < cLine; omega) turn fun H3 s3 out c w3 I3 f3 n3 ko => ?_
  exact ⟨rfl, q _ H3 s3 out c w3 I3 f3 n3 ko⟩
end
end Mw

set_option Elab.async false
set_option linter.all false
set_option autoImplicit false
set_option maxRecDepth 100000
/-! PyB6: sorted, repr of data. -/
namespace Mw
open PySem PySem.Spec PyProof.Rows L2
variable [Tbs]
section
variable {K : PySem.W.Frag} {β : List Addr} {st : Sto} {H H0 : Hp}
abbrev RU (K : PySem.W.Frag) (β : List Addr) (H : Hp) (u : Value) (d : D) : Prop := ∃ v, RelV v u ∧ Rep K β H d v
theorem each_rep : ∀ {us : List Value} {vs : List V} {xs : List D}, Vals vs us → RepL K β H xs vs → PySem.W.EachIs (RU K β H) us xs
  | _, _, [], hv, hr => by
    cases (show _ = [] from hr)
    cases hv
    exact .nil
  | _, _, x :: xs, hv, hr => by
    obtain ⟨v, r, rfl, h1, h2⟩ := hr
    cases hv with
    | cons q t => exact .cons ⟨v, q, h1⟩ (each_rep t h2)
theorem rep_each : ∀ {us : List Value} {xs : List D}, PySem.W.EachIs (RU K β H) us xs → ∃ vs, Vals vs us ∧ RepL K β H xs vs
  | _, _, .nil => ⟨[], .nil, rfl⟩
  | _, _, .cons ⟨v, q, h1⟩ t => by
    obtain ⟨vs, a, b⟩ := rep_each t
    exact ⟨v :: vs, .cons q a, v, vs, rfl, h1, b⟩
theorem mapO_map {α γ : Type} {f : α → Option γ} {g : α → γ} (hg : ∀ a c, f a = some c → g a = c) : ∀ {l : List α} {m : List γ}, mapO f l = some m → m = l.map g
  | [], m, h => by simp only [mapO, Option.some.injEq] at h; subst h; rfl
  | x :: xs, m, h => by
    simp only [mapO] at h
    split at h
    · rename_i y hy
      split at h
      · rename_i ys hys
        simp only [Option.some.injEq] at h; subst h
        rw [List.map_cons, hg x y hy, mapO_map hg hys]
      · cases h
    · cases h
theorem mapO_mem {α γ : Type} {f : α → Option γ} : ∀ {l : List α} {m : List γ}, mapO f l = some m → ∀ x ∈ l, ∃ y, f x = some y
  | [], m, h, x, hx => by simp at hx
  | z :: zs, m, h, x, hx => by
    simp only [mapO] at h
    split at h
    · rename_i y hy
      split at h
      · rename_i ys hys
        rcases List.mem_cons.mp hx with rfl | hx
        · exact ⟨y, hy⟩
        · exact mapO_mem hys x hx
      · cases h
    · cases h
theorem sortD_out {xs ys : List D} (h : sortD st xs = some ys) : (∀ x ∈ xs, toPy st 58 x = some (pyD st x)) ∧ PySem.W.AllAlike (xs.map (pyD st)) ∧ PySem.W.Sortable (xs.map (pyD st)) ∧ xs.length ≤ sizeLine ∧ ys = xs.mergeSort (PySem.W.dataLe false (pyD st)) := by
  unfold sortD at h
  split at h
  · rename_i ds hds
    split at h
    · rename_i hc
      simp only [Option.some.injEq] at h
      have e1 : ds = xs.map (pyD st) := mapO_map (fun a c q => by simp [pyD, q]) hds
      subst e1
      simp only [Bool.and_eq_true, Bool.or_eq_true, alikeD, List.all_eq_true] at hc
      obtain ⟨c1, c2, c3⟩ := hc
      refine ⟨fun x hx => ?_, fun d hd e he => c1 d hd e he, ?_, szOk_le c3, h.symm⟩
      · obtain ⟨y, hy⟩ := mapO_mem hds x hx
        simp [pyD, hy]
      · rcases c2 with c2 | c2
        · refine .inl fun d hd => ?_
          have := c2 d hd
          unfold tupC at this
          split at this
          · exact ⟨_, _, rfl⟩
          · cases this
        · refine .inr fun d hd => ?_
          have := c2 d hd
          constructor
          · rintro rfl; simp [notNT] at this
          · rintro zs rfl; simp [notNT] at this
    · cases h
  · cases h
end
theorem rvPy_depth {K : PySem.W.Frag} {β : List Addr} {st : Sto} {H H0 : Hp} {rx : RV} {x : V} (s : Sim K β st H) {p : PyData} (h : rvPy st rx = some p) (r : RRep K β H H0 rx x) : p.depth ≤ 60 := by
  cases rx with
  | val d => exact (toPy_dp s 60 d p x h r).2.2
  | tmp xs =>
    simp only [rvPy, Option.map_eq_some_iff] at h
    obtain ⟨ps, e, rfl⟩ := h
    obtain ⟨a, vs, _, _, _, _, r2⟩ := r
    have := (toPyL_dp s 59 xs ps vs e r2).2.2
    simp only [PyData.depth]
    omega
section
variable {X : Cx}
theorem bi_sortL (hu : X.A.units + 65 < cLine) : CallR X (.builtin "sorted") (rOf X.K biSortL) := by
  intro pins s σ H vs us Q I r h
  obtain ⟨β, st, H0, rs, rr, c, hr, e, q⟩ := h
  unfold biSortL at e
  split at e
  rotate_left
  · cases e
  obtain ⟨x, rfl, hx⟩ := one_rep hr
  simp only [Option.bind_eq_some_iff, Option.map_eq_some_iff] at e
  obtain ⟨zs, e1, ys, e2, rfl⟩ := e
  obtain ⟨a, ws, rfl, h1, h2⟩ := listOf_sq c.sim hx e1
  obtain ⟨its, rv, hl, hz⟩ := I.list h1
  obtain ⟨u, rfl, ru⟩ := vals1 r
  obtain rfl : u = Value.ref a := ru
  obtain ⟨p1, p2, p3, p4, p5⟩ := sortD_out e2
  have er := each_rep rv h2
  refine PySem.W.sorted_data (bs := zs) (enc := pyD st) (R := RU X.K β H) hl.isList er ?_ p2 p3 p4 (fun b hb => ?_) fun out ho eo => ?_
  · refine (PySem.W.each_mem er).mono fun u d ⟨⟨v, q1, q2⟩, hm⟩ => ?_
    obtain ⟨d1, d2, d3⟩ := toPy_dp c.sim 58 d _ v (p1 d hm) q2
    exact Dp.reads I _ _ _ d1 q1
  · have : ∃ v, Rep X.K β H b v := by
      obtain ⟨i, hi⟩ := List.getElem?_of_mem hb
      obtain ⟨v, _, hv⟩ := h2.get hi
      exact ⟨v, hv⟩
    obtain ⟨v, hv⟩ := this
    obtain ⟨_, _, d3⟩ := toPy_dp c.sim 58 b _ v (p1 b hb) hv
    omega
  · obtain ⟨vs', v1, v2⟩ := rep_each eo
    obtain ⟨n, hn⟩ := sortedAll_at s.heap its out.toArray
    have kp : ∀ b o, s.heap.get? b = some o → (sortedAll s.heap its out.toArray).get? b = some o := fun b o z => sortedAll_old z
    have hd : s.heap.objs.size ≤ s.heap.objs.size + 1 := Nat.le_succ _
    have hlen : vs'.length ≤ sizeLine := by rw [v1.length, ho]; exact p4
    refine ⟨.ref (s.heap.objs.size + 1), upd H (s.heap.objs.size + 1) (.lst vs'), I.laid (t' := s.toks) kp hd ⟨hlen, out, n, v1, hn⟩, rfl, ?_⟩
    subst p5
    exact q.tmp c v2 _ (I.hok.fresh hd)
theorem intsOf_id : ∀ is : List Int, intsOf (is.map D.int) = some is
  | [] => rfl
  | i :: is => by
    have := intsOf_id is
    simp only [intsOf] at this
    simp only [intsOf, List.map_cons, mapO, this]
theorem keys_ints : ∀ {kvs : List (D × D)} {ks : List (Key × V)} {is : List Int}, DicR kvs ks → intsOf (kvs.map (·.1)) = some is → ks.map (·.1) = is.map Sum.inl
  | [], ks, is, h, e => by
    cases ks with
    | nil => simp only [List.map_nil, intsOf, mapO, Option.some.injEq] at e; subst e; rfl
    | cons a l => simp [DicR] at h
  | p :: kvs, ks, is, h, e => by
    cases ks with
    | nil => simp [DicR] at h
    | cons a l =>
      simp only [DicR, List.map_cons, List.cons.injEq] at h
      have e1 := intsOf_eq e
      cases is with
      | nil => simp at e1
      | cons i is =>
        simp only [List.map_cons, List.cons.injEq] at e1
        have e2 : intsOf (kvs.map (·.1)) = some is := by rw [e1.2]; exact intsOf_id is
        have ih := keys_ints (show DicR kvs l from h.2) e2
        rw [List.map_cons, List.map_cons, ih]
        congr 1
        have h3 := h.1
        rw [e1.1] at h3
        cases ha : a.1 with
        | inl j => rw [ha] at h3; simp only [keyD, D.int.injEq] at h3; rw [h3]
        | inr j => rw [ha] at h3; simp [keyD] at h3
theorem bi_sortDI (hc : X.calm = true) : CallR X (.builtin "sorted") (rOf X.K biSortDI) := callR_mono (call_sortedDI hc) fun xs H Q h => by
  obtain ⟨β, st, H0, rs, rr, c, hr, e, q⟩ := h
  unfold biSortDI at e
  split at e
  rotate_left
  · cases e
  rename_i n
  obtain ⟨x, rfl, hx⟩ := one_rep hr
  split at e
  rotate_left
  · cases e
  rename_i lk kvs hz
  simp only [Option.bind_eq_some_iff] at e
  obtain ⟨is, e1, e2⟩ := e
  split at e2
  rotate_left
  · cases e2
  rename_i hl
  simp only [Option.some.injEq] at e2; subst e2
  obtain ⟨a, h1, rfl⟩ := hx
  obtain ⟨ks, h2, h3, h4⟩ := c.sim.dic h1 hz
  refine ⟨a, ks, is, rfl, h2, keys_ints h3 e1, of_decide_eq_true hl, fun ys p pm pw hp => ?_⟩
  have hpm : (is.mergeSort fun a b => decide (a ≤ b)).Perm is := List.mergeSort_perm ..
  have hpw : (is.mergeSort fun a b => decide (a ≤ b)).Pairwise (· ≤ ·) := by
    have := List.pairwise_mergeSort (le := fun a b : Int => decide (a ≤ b)) (fun a b c h1 h2 => by
      simp only [decide_eq_true_eq] at *; omega) (fun a b => by
      simp only [Bool.or_eq_true, decide_eq_true_eq]; omega) is
    simpa using this
  have ey : ys = is.mergeSort fun a b => decide (a ≤ b) := List.Perm.eq_of_pairwise (fun a b _ _ h1 h2 => Int.le_antisymm h1 h2) pw hpw (pm.trans hpm.symm)
  rw [ey]
  exact q.tmp c (RepL.ofInts _) p hp
theorem bi_sorted (hc : X.calm = true) (hu : X.A.units + 65 < cLine) : CallR X (.builtin "sorted") (rBi X.K .sorted) := rOf_or (bi_sortL hu) (bi_sortDI hc)
theorem bi_repr (hu : X.A.units + 65 < cLine) (gd : X.A.guards = some []) : CallR X (.builtin "repr") (rBi X.K .repr) := by
  intro pins s σ H vs us Q I r h
  obtain ⟨β, st, H0, rs, rr, c, hr, e, q⟩ := h
  simp only [biApp] at e
  unfold biRepr at e
  split at e
  rotate_left
  · cases e
  obtain ⟨x, rfl, hx⟩ := one_rep hr
  obtain ⟨u, rfl, ru⟩ := vals1 r
  split at e
  rotate_left
  · cases e
  rename_i p hp
  split at e
  rotate_left
  · cases e
  rename_i hc
  simp only [Option.some.injEq] at e; subst e
  simp only [Bool.and_eq_true, decide_eq_true_eq] at hc
  obtain ⟨c1, c2⟩ := hc
  have hz : p.shown.length ≤ sizeLine := by rw [sizeLine_eq]; exact c2
  obtain ⟨d1, d2⟩ := rvPy_dp c.sim hp hx
  obtain ⟨as, rd⟩ := Dp.reads I p x u d1 ru
  have hdep : p.depth ≤ 60 := rvPy_depth c.sim hp hx
  have hsm : p.hasDict = true → sysModules ∉ as := PyData.noDict_hsm (PyData.hasDict_of_canLay p (SeqAt.canLay_of_shaped d2))
  cases p with
  | none =>
    cases rd
    refine P.repr_of_none ⟨.str "None", H, I.tok _, ⟨_, rfl⟩, q.val c.sim rfl⟩
  | bool b =>
    cases rd
    refine P.repr_of_bool ⟨.str (if b then "True" else "False"), H, I.tok _, ⟨_, rfl⟩, q.val c.sim rfl⟩
  | int i =>
    cases rd
    refine P.repr_of_int (by simpa [PyData.showable] using c1) ⟨.str (toString i : String), H, I.tok _, ⟨_, rfl⟩, q.val c.sim rfl⟩
  | str z =>
    cases rd
    exact P.repr_of_str ⟨.str (reprText z), H, I.tok _, ⟨_, rfl⟩, q.val c.sim rfl⟩ hz
  | list zs =>
    cases rd with
    | list h1 h2 h3 h4 =>
      exact repr_of_reads' (.list h1 h2 h3 h4) c1 hsm gd (by omega) (fun _ _ z => z) (fun h' u tk hk => ⟨.str (PyData.shown (.list zs)), H, I.kept hk, ⟨_, rfl⟩, q.val c.sim rfl⟩) hz
  | tuple zs =>
    cases rd with
    | tuple h1 h2 h3 h4 =>
      exact repr_of_reads' (.tuple h1 h2 h3 h4) c1 hsm gd (by omega) (fun _ _ z => z) (fun h' u tk hk => ⟨.str (PyData.shown (.tuple zs)), H, I.kept hk, ⟨_, rfl⟩, q.val c.sim rfl⟩) hz
  | dict kvs =>
    have := SeqAt.canLay_of_shaped d2
    simp [PyData.canLay0] at this
end
end Mw

set_option Elab.async false
set_option linter.all false
set_option autoImplicit false
set_option maxRecDepth 100000
/-! PyC12: sorted(xs, key=f, reverse=b), as the core says. -/
namespace Mw
open PySem PySem.Spec PyProof.Rows L2
variable [Tbs]
section
variable {C : Call} {st : Sto} {f : Str}
theorem keysC_at {xs : List D} : ∀ {ks : List Int}, keysC C st f xs = some ks → ks.length = xs.length ∧ ∀ (i : Nat) (d : D) (k : Int), xs[i]? = some d → ks[i]? = some k → C f [d] st = some (.int k, st) := by
  induction xs with
  | nil =>
    intro ks h
    simp only [keysC, Option.some.injEq] at h
    subst h
    exact ⟨rfl, fun i d k h => by simp at h⟩
  | cons x xs ih =>
    intro ks h
    simp only [keysC] at h
    split at h
    · rename_i k0 st1 hc
      split at h
      · rename_i hst
        subst hst
        obtain ⟨ks', h', rfl⟩ := Option.map_eq_some_iff.mp h
        obtain ⟨h1, h2⟩ := ih h'
        refine ⟨by simp [h1], fun i d k hd hk => ?_⟩
        cases i with
        | zero =>
          simp only [List.getElem?_cons_zero, Option.some.injEq] at hd hk
          subst hd; subst hk
          exact hc
        | succ i =>
          simp only [List.getElem?_cons_succ] at hd hk
          exact h2 i d k hd hk
      · cases h
    · cases h
end
section
variable {X : Cx} {C : Call}
/-- what the sorting asks and gives -/
def rSrt (K : PySem.W.Frag) (C : Call) (f : Str) (b : Bool) (g : Addr) : List V → List V → Hp → VK → Prop := fun vs zs H Q =>
  ∃ β st x v w ks H0, vs = [v] ∧ zs = [.ref g, .bl b] ∧ Sim K β st H ∧ RRep K β H H0 x v ∧ srcSeq st x = some w ∧ keysC C st f w.xs = some ks ∧ w.xs.length ≤ sizeLine ∧
    ∀ (p : Addr) (ys : List V) β' H', Ext β H β' H' → Sim K β' st H' → H' p = none → RepL K β' H' (srtD b (w.xs.zip ks)) ys → Q (.ref p) (upd H' p (.lst ys))
theorem srtD_eq (b : Bool) (ps : List (D × Int)) : (ps.mergeSort (PySem.W.dataLe b fun p : D × Int => PyData.int p.2)).map (·.1) = srtD b ps := by
  unfold srtD
  congr 1
  cases b
  · rw [PySem.W.dataLe_int]; rfl
  · rw [PySem.W.dataGe_int]; rfl
theorem each_fst {R : Value → D → Prop} : ∀ {us : List Value} {ps : List (D × Int)}, PySem.W.EachIs (fun u p => R u p.1) us ps → PySem.W.EachIs R us (ps.map (·.1))
  | _, _, .nil => .nil
  | _, _, .cons h t => .cons h (each_fst t)
theorem each_zip {R : Value → D → Prop} : ∀ {us : List Value} {xs : List D} {ks : List Int}, ks.length = xs.length → PySem.W.EachIs R us xs → PySem.W.EachIs (fun u (p : D × Int) => R u p.1) us (xs.zip ks)
  | _, _, [], h, .nil => .nil
  | _, _, k :: ks, h, .cons q t => .cons q (each_zip (by simpa using h) t)
theorem coK_seq {k : Kq} {h : Heap} {a : Addr} {its : List Value} (co : coK k h a its.toArray) : SeqAtL h a its := by
  cases k with
  | L =>
    obtain ⟨o, h1, h2, n, h3⟩ := co
    exact ⟨o, n, h1, .inl h2, h3⟩
  | T =>
    obtain ⟨o, h1, h2, n, h3⟩ := co
    exact ⟨o, n, h1, .inr h2, h3⟩
theorem cr_srt {k : Nat} {g : Addr} {fd : FuncData} {ps : List Str} {f : Str} {b : Bool} (F : FnG X.prog X.w X.K X.mg X.base k g fd ps (spOf X.K C f ps.length)) (hr : Room k X.A.in1.in1) (gd : X.A.guards = some []) (hb : Binds X.K fd ps []) (hp : ps.length = 1) (hu : X.A.units + 65 < cLine) :
    CallRK X (.builtin "sorted") [Str.ofString "key", Str.ofString "reverse"] (rSrt X.K C f b g) := by
  intro pins s σ H vs zs us ws Q I r rz h
  obtain ⟨β, st, x, v, w, ks, H0, rfl, rfl, sim, hx, e1, e2, hz, q⟩ := h
  obtain ⟨_, a, xs, rfl, hsq, hrep, _⟩ := seqSrc sim hx e1
  obtain ⟨its, rv, co, hlen⟩ := sq_inv I hsq
  obtain rfl := Vals.ref1 r
  obtain ⟨w1, w2, rfl, r1, r2⟩ := vals2 rz
  obtain rfl : w1 = Value.ref g := r1
  obtain rfl : w2 = Value.bool b := r2
  obtain ⟨k1, k2⟩ := keysC_at e2
  have hxl : w.xs.length = xs.length := RepL.length hrep
  have hil : xs.length = its.length := rv.length
  refine sorted_keyI (W := fun H1 => ∃ β1, Ext β H β1 H1 ∧ Sim X.K β1 st H1) ⟨β, .refl, sim⟩ I (ws := its) (ks := ks) (b := b) (f := .ref g) (coK_seq co) (by omega) (by omega) hu (ksk_s2 _ _ _) (fun _ => ksk_l2 _ _ _) (fun x => ksk_t2 g x b) (fun i u k0 hi hk H1 s1 hW1 I1 => ?_) fun p H3 s3 out c hW3 I3 f3 n3 ko => ?_
  · obtain ⟨β1, x1, sim1⟩ := hW1
    have hil2 := (List.getElem?_eq_some_iff.mp hi).1
    obtain ⟨d, hd⟩ : ∃ d, w.xs[i]? = some d := ⟨_, List.getElem?_eq_getElem (by omega)⟩
    obtain ⟨z, hz1, hz2⟩ := RepL.at hrep hd
    obtain ⟨u', hu1, hu2⟩ := rv.get hz1
    rw [hi] at hu1
    cases hu1
    have hC := k2 i d k0 hd hk
    have hsp : spOf X.K C f ps.length [z] H1 (fun v H' => v = .int k0 ∧ ∃ β1, Ext β H β1 H' ∧ Sim X.K β1 st H') E0 :=
      ⟨β1, st, [d], .int k0, st, sim1, ⟨z, [], rfl, Rep.mono sim x1 _ _ hz2, rfl⟩, by rw [hp]; rfl, hC, fun v β' H' x' s' r' => ⟨r', β', x1.trans x' s'.nd, s'⟩⟩
    have hb' : BindsTo s1 fd ⟨[u], []⟩ (ps.zip [u]) := by
      have y := hb s1 [u] I1.kIn (by simp [hp])
      simpa using y
    refine wpAny_call (codeAny_mono (F.run X.A.in1.in1 X.stack s1 H1 _ [u] [z] _ E0 hr gd I1.env0.in1.in1 hb' (.cons hu2 .nil) hsp) fun a' b' c' => ?_)
    rcases a' with e | a'
    · obtain ⟨_, _, _, _, _, _, _, _, _, _, _, _, z⟩ := (show L2.CX X.prog X.w X.stack H1 s1 E0 e b' from c'); exact z.elim
    · cases a' with
      | ret u' =>
        obtain ⟨v, H', os, bare, un, hok, rv', hv, hw⟩ := (show L2.CE X.stack X.prog X.w H1 s1 _ u' b' from c')
        subst hv
        exact ⟨H', rv', hw, os, bare, un, hok⟩
      | next | brk | cont => exact c'.elim
  · obtain ⟨β3, x3, sim3⟩ := hW3
    have hE := each_zip k1 (each_rep rv hrep)
    have hm : (w.xs.zip ks).map (fun p : D × Int => PyData.int p.2) = ks.map PyData.int := by
      have e : (w.xs.zip ks).map (·.2) = ks := List.map_snd_zip (by omega)
      have e' : (w.xs.zip ks).map (fun p : D × Int => PyData.int p.2) = ((w.xs.zip ks).map (·.2)).map PyData.int := by rw [List.map_map]; rfl
      rw [e', e]
    rw [← hm] at ko
    have hO := each_fst (PySem.W.keyedOut_each (fun p : D × Int => PyData.int p.2) ko hE)
    rw [srtD_eq] at hO
    obtain ⟨ys, v1, v2⟩ := rep_each hO
    have hol : ys.length ≤ sizeLine := by
      rw [← RepL.length v2]
      unfold srtD
      rw [List.length_map, List.length_mergeSort, List.length_zip]
      omega
    exact ⟨.ref p, upd H3 p (.lst ys), I3.take (t' := s3.toks) (fun _ _ _ z => z) f3 ⟨hol, out, c, v1, n3⟩, rfl, q p ys β3 H3 x3 sim3 f3.1 (RepL.mono sim x3 _ _ v2)⟩
theorem e_srt {k : Nat} {g : Addr} {fd : FuncData} {ps : List Str} {y : Str} {e : Expr} {a : CE} {b : Bool} {p p2 kp kp2 cp pos : Pos} {j : Nat} (F : FnG X.prog X.w X.K X.mg X.base k g fd ps (spOf X.K C y ps.length)) (hr : Room k X.A.in1.in1) (gd : X.A.guards = some []) (hy : Gl X y) (hym : X.mg y = some (.ref g)) (hb : Binds X.K fd ps [])
    (hp : ps.length = 1) (hyd : (y == ("__debug__" : Str)) = false) (hc : X.calm = true) (hu : X.A.units + 65 < cLine) (hg : Gl X "sorted") (hm : X.mg "sorted" = none) (hpl : plainE e = true) (ha : PE X e (tE X.K C a)) :
    PE X (.Call (.Name "sorted" p) [e] [⟨some (Str.ofString "key"), .Name y p2, kp⟩, ⟨some (Str.ofString "reverse"), .Constant (.bool b) j cp, kp2⟩] pos) (tE X.K C (.srt b y a)) := by
  have hs : backTo pos (starEach [e] X.env) = (false, eval e X.env) :: backTo pos (starEach [] X.env) := by rw [star_plain hpl]; rfl
  have hs2 : (backTo pos (starEach [e] X.env)).any (·.1) = false := stars_plain (by simp [hpl])
  have core : PE X (.Call (.Name "sorted" p) [e] [⟨some (Str.ofString "key"), .Name y p2, kp⟩, ⟨some (Str.ofString "reverse"), .Constant (.bool b) j cp, kp2⟩] pos) (tCKw (rSrt X.K C y b g) (tCons (tE X.K C a) tNil) (tCons (tC (.ref g)) (tCons (tC (.bl b)) tNil))) :=
    pe_callBK (cr_srt F hr gd hb hp hu) hg hm boot_sorted (pa_cons ha pa_nil (star_plain hpl)) (pk_cons (pe_glob hy hym rfl hyd) (pk_cons pe_bl pk_nil)) (by decide) (by decide) hs hs2
  refine PE.imp core fun σ H Q ⟨β, st, ρ, r, st', s, en, h, q⟩ => ?_
  simp only [ev] at h
  split at h
  · cases h
  rename_i z st1 e1
  simp only [Option.map_eq_some_iff, Prod.mk.injEq] at h
  obtain ⟨w, e3, rfl, rfl⟩ := h
  unfold tCKw tCons tNil
  refine seq1 s en e1 fun v β1 H1 x1 s1 r1 en1 => ?_
  unfold srtApp at e3
  split at e3
  · rename_i sv e4
    split at e3
    · rename_i ks e5
      split at e3
      · rename_i hsz
        simp only [Option.some.injEq] at e3
        subst e3
        refine ⟨β1, st1, z, v, sv, ks, H, rfl, rfl, s1, r1, e4, e5, szOk_le hsz, fun p ys β' H' x' s' hp ry => ?_⟩
        exact q _ β' _ ((x1.trans x' s'.nd).trans (Ext.new hp) s'.nd) (s'.new hp) ⟨p, ys, rfl, upd_same, s'.off hp, (x1.trans x' s'.nd).free hp fun hm => s'.off hp ((x1.trans x' s'.nd).mem hm), RepL.mono s' (Ext.new hp) _ _ ry⟩
      · cases e3
    · cases e3
  · cases e3
end
end Mw

set_option Elab.async false
set_option linter.all false
set_option autoImplicit false
set_option maxRecDepth 100000
/-! PyDc: dicts. -/
namespace Mw
open PySem PySem.Spec PyProof.Rows L2
variable [Tbs]
section
variable {K : PySem.W.Frag} {β β' : List Addr} {st st' : Sto} {H H' H0 : Hp}
theorem Sim.layO (s : Sim K β st H) {p : Addr} {o : O} (hp : p ∉ β) (ho : ObjR K (β ++ [p]) H p o) : Sim K (β ++ [p]) (st ++ [o]) H := by
  refine ⟨by simp [s.len], List.nodup_append.mpr ⟨s.nd, by simp, fun a ha b hb => ?_⟩, fun n a o' h1 h2 => ?_, s.tab⟩
  · simp only [List.mem_singleton] at hb
    subst hb
    exact fun z => hp (z ▸ ha)
  · by_cases hn : n < β.length
    · rw [List.getElem?_append_left hn] at h1
      rw [List.getElem?_append_left (s.len ▸ hn)] at h2
      have q := s.obj n a o' h1 h2
      cases o' with
      | lst xs => obtain ⟨ws, q1, q2⟩ := q; exact ⟨ws, q1, RepL.grow grow_app _ _ q2⟩
      | dic _ _ => obtain ⟨ws, q1, q2, q3⟩ := q; exact ⟨ws, q1, q2, RepL.grow grow_app _ _ q3⟩
      | dit _ _ => obtain ⟨ws, q1, q2, q3⟩ := q; exact ⟨ws, q1, q2, RepL.grow grow_app _ _ q3⟩
      | ins _ _ => obtain ⟨dx, ws, q1, q2, q3⟩ := q; exact ⟨dx, ws, q1, q2, RepL.grow grow_app _ _ q3⟩
    · have hl : n < (β ++ [p]).length := (List.getElem?_eq_some_iff.mp h1).1
      have en : n = β.length := by simp at hl; omega
      subst en
      rw [List.getElem?_append_right (Nat.le_refl _)] at h1
      rw [s.len, List.getElem?_append_right (Nat.le_refl _)] at h2
      simp at h1 h2
      subst h1 h2
      exact ho
theorem lay_at {p : Addr} (hl : β.length = st.length) : (β ++ [p])[st.length]? = some p := by
  rw [← hl, List.getElem?_append_right (Nat.le_refl _)]; simp
end
section
variable {X : Cx} {C : Call} {a b c : CE} {es : CEs} {l r e : Expr} {pos : Pos}
theorem e_dic0 : PE X (.Dict [] [] pos) (tE X.K C .dic0) := PE.imp pe_dnewK fun σ H Q ⟨β, st, ρ, r, st', s, en, e, q⟩ p hp => by
  simp only [ev, Option.some.injEq, Prod.mk.injEq] at e
  obtain ⟨rfl, rfl⟩ := e
  have s1 := s.new (o := .dK []) hp
  exact q (.ref p) (β ++ [p]) _ ((Ext.new hp).lay hp) (s1.layO (s.off hp) ⟨[], upd_same, rfl, rfl⟩) ⟨p, lay_at s.len, rfl⟩
theorem e_dit0 : PE X (.Dict [] [] pos) (tE X.K C .dit0) := PE.imp pe_dnewT fun σ H Q ⟨β, st, ρ, r, st', s, en, e, q⟩ p hp => by
  simp only [ev, Option.some.injEq, Prod.mk.injEq] at e
  obtain ⟨rfl, rfl⟩ := e
  have s1 := s.new (o := .dT []) hp
  exact q (.ref p) (β ++ [p]) _ ((Ext.new hp).lay hp) (s1.layO (s.off hp) ⟨[], upd_same, rfl, rfl⟩) ⟨p, lay_at s.len, rfl⟩
theorem KeepT.updD {H : Hp} {p : Addr} {ks : List (Key × V)} {u : HO} (h : H p = some (.dK ks)) : KeepT H (L2.upd H p u) := ⟨fun b =>
  ⟨fun xs e => by rw [upd_ne fun z => by rw [z, h] at e; cases e]; exact e, fun o u e => by rw [upd_ne fun z => by rw [z, h] at e; cases e]; exact e⟩, tabs_upd (dK_nf h).tbl (dK_nf h).ext⟩
theorem e_dic1 (ha : PE X l (tE X.K C a)) (hb : PE X r (tE X.K C b)) : PE X (.Dict [some l] [r] pos) (tE X.K C (.dic1 a b)) :=
  PE.imp (pe_disp (pps_cons ha hb pps_nil) rfl rfl (by simp) (by simp)) fun σ H Q ⟨β, st, ρ, r, st', s, en, e, q⟩ p hp => by
    simp only [ev] at e
    split at e
    · cases e
    rename_i x st1 e1
    split at e
    · cases e
    rename_i y st2 e2
    split at e
    case h_2 => cases e
    rename_i d
    split at e
    case isFalse => cases e
    rename_i hk
    simp only [Option.some.injEq, Prod.mk.injEq] at e
    obtain ⟨rfl, rfl⟩ := e
    obtain ⟨k, rfl⟩ := keyOk_iff hk
    have hpβ := s.off hp
    have x0 : Ext β H β (upd H p (.dK [])) := Ext.new hp
    refine seq1 (s.new hp) (en.mono s x0) e1 fun v β1 H1 x1 s1 r1 en1 => seq1 s1 en1 e2 fun w β2 H2 x2 s2 r2 en2 => ?_
    have hv : v = kV k := rep_keyD r1
    subst hv
    obtain ⟨β3, x3, s3, r3, _⟩ := mat_ok x2 s2 r2
    have x13 := x1.trans x3 s3.nd
    have h2p : H2 p = some (.dK []) := x13.keep.get upd_same hpβ
    refine ⟨h2p, [(k, w)], rfl, by simp, ?_⟩
    have hp3 : p ∉ β3 := by
      obtain ⟨new, en, f⟩ := x13.pre
      rw [en]
      intro hm
      rcases List.mem_append.mp hm with z | z
      · exact hpβ z
      · have := f p z; rw [upd_same] at this; cases this
    obtain ⟨u, hu⟩ : ∃ u, u = HO.dK (mergeK [] [(k, w)]) := ⟨_, rfl⟩
    rw [← hu]
    have kt : KeepT H2 (upd H2 p u) := KeepT.updD h2p
    have s4 : Sim X.K β3 (mat y st2).2 (upd H2 p u) := s3.keepT kt fun b hb => upd_ne fun z => hp3 (z ▸ hb)
    have x4 : Ext β H (β3 ++ [p]) (upd H2 p u) := (((Ext.new hp).trans x13 s3.nd).updFree hp (dK_nf h2p)).lay hp
    refine q (.ref p) (β3 ++ [p]) _ x4 (s4.layO hp3 ⟨[(k, w)], ?_, rfl, ?_⟩) ⟨p, lay_at s3.len, rfl⟩
    · show upd H2 p u p = _
      rw [upd_same, hu]; rfl
    · exact RepL.one (Rep.grow grow_app _ _ (Rep.keepT kt _ _ r3))
/-! ### d.get(k), d.get(k, x) -/
theorem kd_dic {K : PySem.W.Frag} {β : List Addr} {st : Sto} {H H0 : Hp} {x : RV} {v : V} (s : Sim K β st H) (r : RRep K β H H0 x v) (h : kdOf st x = .dic) : ∃ a, v = .ref a ∧ IsD H a := by
  cases x with
  | tmp _ => cases h
  | val d =>
    cases d with
    | ref n =>
      simp only [kdOf] at h
      obtain ⟨a, h1, rfl⟩ := r
      split at h
      · cases h
      · rename_i lk kvs hz
        obtain ⟨ks, h2, _⟩ := s.dic h1 hz
        exact ⟨a, rfl, .inl ⟨ks, h2⟩⟩
      · rename_i lk kvs hz
        obtain ⟨ks, h2, _⟩ := s.dit h1 hz
        exact ⟨a, rfl, .inr ⟨ks, h2⟩⟩
      · cases h
    | _ => simp [kdOf] at h
theorem plain_m1 {m : Str} {apos : Pos} (hr : recvOk l = true) (hp : plainE e = true) (hline : (apos.endLine == pos.line) = true) : M1 X l m apos e pos :=
  ⟨base_of hr, few_plain (by rw [List.all_cons, hp]; rfl) (by simp), hline, by rw [star_plain hp]; rfl⟩
theorem plain_m2 {m : Str} {apos : Pos} {f : Expr} (hr : recvOk l = true) (hp : plainE e = true) (hf : plainE f = true) (hline : (apos.endLine == pos.line) = true) : M2 X l m apos e f pos :=
  ⟨base_of hr, few_plain (by rw [List.all_cons, List.all_cons, hp, hf]; rfl) (by simp), hline, by rw [star_plain hp, star_plain hf]; rfl⟩
theorem get_val {K : PySem.W.Frag} {β : List Addr} {st st' : Sto} {H H0 : Hp} {x k : RV} {u v : V} {rs : List RV} {r : RV} (s : Sim K β st H) (hx : RRep K β H H0 x u) (hk : RRep K β H H0 k v) (e : mtApp st .get x (k :: rs) = some (r, st')) :
    st' = st ∧ ∃ a o, u = .ref a ∧ DGet H a v o ∧ ((rs = [] ∧ ∃ d, r = .val d ∧ Rep K β H d (o.getD .non)) ∨ ∃ z, rs = [z] ∧ ((o = none ∧ r = z) ∨ ∃ d w, o = some w ∧ r = .val d ∧ Rep K β H d w)) := by
  have one : ∀ {n : Nat} {a : Addr} {k' : D} {g : Option D} {o : Option V}, DGet H a v o → ORep K β H g o → Rep K β H (g.getD .non) (o.getD .non) := by
    intro n a k' g o _ g2
    cases g <;> cases o <;> first | exact g2.elim | exact g2 | rfl
  simp only [mtApp] at e
  unfold mtGet at e
  split at e
  · rename_i n k' heq
    simp only [List.cons.injEq] at heq
    obtain ⟨rfl, rfl⟩ := heq
    obtain ⟨a, h1, rfl⟩ := hx
    split at e
    · rename_i lk kvs hz
      split at e
      case isFalse => cases e
      rename_i hkk
      simp only [Option.some.injEq, Prod.mk.injEq] at e
      obtain ⟨rfl, rfl⟩ := e
      obtain ⟨o, g1, g2⟩ := dic_get s h1 hz hkk hk
      exact ⟨rfl, a, o, rfl, g1, .inl ⟨rfl, _, rfl, one (n := n) (k' := k') g1 g2⟩⟩
    · rename_i lk kvs hz
      split at e
      case isFalse => cases e
      rename_i hkk
      simp only [Option.some.injEq, Prod.mk.injEq] at e
      obtain ⟨rfl, rfl⟩ := e
      obtain ⟨o, g1, g2⟩ := dit_get s h1 hz hkk hk
      exact ⟨rfl, a, o, rfl, g1, .inl ⟨rfl, _, rfl, one (n := n) (k' := k') g1 g2⟩⟩
    · cases e
  · rename_i n k' z heq
    simp only [List.cons.injEq] at heq
    obtain ⟨rfl, rfl⟩ := heq
    obtain ⟨a, h1, rfl⟩ := hx
    have two : ∀ {g : Option D} {o : Option V}, DGet H a v o → ORep K β H g o → (match g with
        | some w => some (RV.val w, st)
        | none => some (z, st)) = some (r, st') → st' = st ∧ ∃ a' o, V.ref a = .ref a' ∧ DGet H a' v o ∧ (([z] = [] ∧ ∃ d, r = .val d ∧ Rep K β H d (o.getD .non)) ∨ ∃ z', [z] = [z'] ∧ ((o = none ∧ r = z') ∨ ∃ d w, o = some w ∧ r = .val d ∧ Rep K β H d w)) := by
      intro g o g1 g2 e
      cases g with
      | some w =>
        simp only [Option.some.injEq, Prod.mk.injEq] at e
        obtain ⟨rfl, rfl⟩ := e
        cases o with
        | none => exact g2.elim
        | some w' => exact ⟨rfl, a, _, rfl, g1, .inr ⟨z, rfl, .inr ⟨w, w', rfl, rfl, g2⟩⟩⟩
      | none =>
        simp only [Option.some.injEq, Prod.mk.injEq] at e
        obtain ⟨rfl, rfl⟩ := e
        cases o with
        | some _ => exact g2.elim
        | none => exact ⟨rfl, a, _, rfl, g1, .inr ⟨_, rfl, .inl ⟨rfl, rfl⟩⟩⟩
    split at e
    · rename_i lk kvs hz
      split at e
      case isFalse => cases e
      rename_i hkk
      obtain ⟨o, g1, g2⟩ := dic_get s h1 hz hkk hk
      exact two g1 g2 e
    · rename_i lk kvs hz
      split at e
      case isFalse => cases e
      rename_i hkk
      obtain ⟨o, g1, g2⟩ := dit_get s h1 hz hkk hk
      exact two g1 g2 e
    · cases e
  · cases e
theorem get_kd {st : Sto} {x k : RV} {rs : List RV} {z : RV × Sto} (h : mtApp st .get x (k :: rs) = some z) : kdOf st x = .dic := by
  simp only [mtApp] at h
  unfold mtGet at h
  split at h
  · split at h
    · rename_i hz; simp [kdOf, hz]
    · rename_i hz; simp [kdOf, hz]
    · cases h
  · split at h
    · rename_i hz; simp [kdOf, hz]
    · rename_i hz; simp [kdOf, hz]
    · cases h
  · cases h
theorem e_get1 {apos : Pos} (hu : X.A.units + 65 < cLine) (ho : PE X l (tE X.K C a)) (he : PE X e (tE X.K C b)) (hr : recvOk l = true) (hp : plainE e = true) (hline : (apos.endLine == pos.line) = true) :
    PE X (.Call (.Attribute l "get" apos) [e] [] pos) (tE X.K C (.mt .get a (.cons b .nil))) :=
  PE.imp (pe_dget1 (by omega) ho he (plain_m1 hr hp hline)) fun σ H Q ⟨β, st, ρ, r, st', s, en, h, q⟩ => by
    simp only [ev] at h
    split at h
    · cases h
    rename_i x st1 e1
    simp only [evR] at h
    split at h
    · cases h
    rename_i rs st2 h2
    split at h2
    · cases h2
    rename_i k st3 e2
    simp only [Option.some.injEq, Prod.mk.injEq] at h2
    obtain ⟨rfl, rfl⟩ := h2
    split at h
    case isFalse => cases h
    rename_i hkd
    refine seq1 s en e1 fun v β1 H1 x1 s1 r1 en1 => ?_
    have hd : kdOf st1 x = .dic := by
      rw [hkd]
      exact get_kd h
    obtain ⟨aa, rfl, hisd⟩ := kd_dic s1 r1 hd
    refine ⟨aa, rfl, hisd, seq1 s1 en1 e2 fun w β2 H2 x2 s2 r2 en2 => ?_⟩
    obtain ⟨rfl, a', o, e3, g, hr⟩ := get_val s2 (r1.mono s1 x2 s2.nd) (r2.back x1 x2) h
    cases e3
    rcases hr with ⟨_, d, rfl, hr⟩ | ⟨z, hz, _⟩
    · exact ⟨o, g, q _ β2 H2 (x1.trans x2 s2.nd) s2 hr⟩
    · cases hz
theorem e_get2 {apos : Pos} {f : Expr} (hu : X.A.units + 65 < cLine) (ho : PE X l (tE X.K C a)) (he : PE X e (tE X.K C b)) (hf : PE X f (tE X.K C c)) (hr : recvOk l = true) (hp : plainE e = true) (hpf : plainE f = true) (hline : (apos.endLine == pos.line) = true) :
    PE X (.Call (.Attribute l "get" apos) [e, f] [] pos) (tE X.K C (.mt .get a (.cons b (.cons c .nil)))) :=
  PE.imp (pe_dget2 (by omega) ho he hf (plain_m2 hr hp hpf hline)) fun σ H Q ⟨β, st, ρ, r, st', s, en, h, q⟩ => by
    simp only [ev] at h
    split at h
    · cases h
    rename_i x st1 e1
    simp only [evR] at h
    split at h
    · cases h
    rename_i rs st2 h2
    split at h2
    · cases h2
    rename_i k st3 e2
    split at h2
    · cases h2
    rename_i rs4 st4 h4
    split at h4
    · cases h4
    rename_i y st5 e5
    simp only [Option.some.injEq, Prod.mk.injEq] at h2 h4
    obtain ⟨rfl, rfl⟩ := h4
    obtain ⟨rfl, rfl⟩ := h2
    split at h
    case isFalse => cases h
    rename_i hkd
    refine seq1 s en e1 fun v β1 H1 x1 s1 r1 en1 => ?_
    have hd : kdOf st1 x = .dic := by
      rw [hkd]
      exact get_kd h
    obtain ⟨aa, rfl, hisd⟩ := kd_dic s1 r1 hd
    refine ⟨aa, rfl, hisd, seq1 s1 en1 e2 fun w β2 H2 x2 s2 r2 en2 => seq1 s2 en2 e5 fun z β3 H3 x3 s3 r3 en3 => ?_⟩
    have x23 := x2.trans x3 s3.nd
    have x12 := x1.trans x2 s2.nd
    obtain ⟨rfl, a', o, e3, g, hr⟩ := get_val s3 (r1.mono s1 x23 s3.nd) ((r2.back x1 x2).mono s2 x3 s3.nd) h
    cases e3
    rcases hr with ⟨hz, _⟩ | ⟨z', hz, hr⟩
    · cases hz
    · simp only [List.cons.injEq, and_true] at hz
      subst hz
      rcases hr with ⟨rfl, rfl⟩ | ⟨d, w', rfl, rfl, hr⟩
      · exact ⟨none, g, q _ β3 H3 (x1.trans x23 s3.nd) s3 (r3.back x12 x3)⟩
      · exact ⟨some w', g, q _ β3 H3 (x1.trans x23 s3.nd) s3 hr⟩
/-! ### for k in d -/
/-- the dict is locked from now on -/
theorem pi_keysL {tg e : Expr} {td : TE} (he : PE X e td) : PI X tg e (fun σ H R => td σ H fun x H1 => ∃ d kvs, x = .ref d ∧ ((∃ o, H1 d = some (.frz o (.dK kvs)) ∧ R (L2.Itk d o kvs) H1) ∨ (H1 d = some (.dK kvs) ∧ ∀ o, R (L2.Itk d o kvs) (upd H1 d (.frz o (.dK kvs)))))) := by
  refine ⟨fun pins s σ H R I h => ?_⟩
  refine thn (he.run pins s σ H _ I h) fun u s1 ⟨x, H1, I1, rx, d, kvs, ex, q⟩ => ?_
  subst ex
  obtain rfl : u = Value.ref d := rx
  have go : ∀ (o : Obj) (H2 : Hp), Inv X pins σ H2 s1 → H2 d = some (.frz o (.dK kvs)) → R (L2.Itk d o kvs) H2 → wpAny (model X.prog X.w) X.A (pyIter (.ref d)) (PIE X pins σ tg R) X.xe s1 := fun o H2 I2 hd q => by
    obtain ⟨hs, hgd, hx, es, ep, vs, hdt, hsz, kv, hm⟩ := I2.frzK hd
    refine iter_keys hs hgd hx hdt (pi_one (tk := s1.toks) I2 _ (turn_keys _ hdt) ⟨_, Heap.get?_push_size _ rfl, rfl, ?_⟩ q)
    rw [hsz] <;> rfl
  rcases q with ⟨o, hd, q⟩ | ⟨hd, q⟩
  · exact go o H1 I1 hd q
  · obtain ⟨od, I2⟩ := I1.lock hd trivial
    exact go od _ I2 upd_same (q od)
/-- the same, keys that are rows -/
theorem pi_keysT {tg e : Expr} {td : TE} (he : PE X e td) : PI X tg e (fun σ H R => td σ H fun x H1 => ∃ d kvs, x = .ref d ∧ ((∃ o, H1 d = some (.frz o (.dT kvs)) ∧ R (L2.Itkt d o kvs) H1) ∨ (H1 d = some (.dT kvs) ∧ ∀ o, R (L2.Itkt d o kvs) (upd H1 d (.frz o (.dT kvs)))))) := by
  refine ⟨fun pins s σ H R I h => ?_⟩
  refine thn (he.run pins s σ H _ I h) fun u s1 ⟨x, H1, I1, rx, d, kvs, ex, q⟩ => ?_
  subst ex
  obtain rfl : u = Value.ref d := rx
  have go : ∀ (o : Obj) (H2 : Hp), Inv X pins σ H2 s1 → H2 d = some (.frz o (.dT kvs)) → R (L2.Itkt d o kvs) H2 → wpAny (model X.prog X.w) X.A (pyIter (.ref d)) (PIE X pins σ tg R) X.xe s1 := fun o H2 I2 hd q => by
    obtain ⟨hs, hgd, hx, es, ep, hdt, hsz, ent⟩ := I2.frzT hd
    refine iter_keys hs hgd hx hdt (pi_one (tk := s1.toks) I2 _ (turn_keysT _ hdt) ⟨_, Heap.get?_push_size _ rfl, rfl, ?_⟩ q)
    rw [hsz] <;> rfl
  rcases q with ⟨o, hd, q⟩ | ⟨hd, q⟩
  · exact go o H1 I1 hd q
  · obtain ⟨od, I2⟩ := I1.lock hd trivial
    exact go od _ I2 upd_same (q od)
def LensT (H : Hp) : Prop := ∀ (d : Addr) (o : Obj) (ks : List (List Key × V)), H d = some (.frz o (.dT ks)) → ks.length ≤ sizeLine
theorem PI.lenT {tg e : Expr} {t : TI} (h : PI X tg e t) : PI X tg e (fun σ H R => t σ H fun J H' => LensT H' → R J H') := ⟨fun pins s σ H R I hw => by
  refine thn (h.run pins s σ H _ I hw) fun v s1 h1 => thn h1 fun itv s2 h2 => ?_
  obtain ⟨it, fp, tn, J, H', e, I2, T, st2, f2, r⟩ := h2
  exact ⟨it, fp, tn, J, H', e, I2, T, st2, f2, r fun d o ks hq => (dt_rd I2.hok (.inr ⟨o, hq⟩)).1⟩⟩
theorem DicT.len {kvs : List (D × D)} {ks : List (List Key × V)} (h : DicT kvs ks) : kvs.length = ks.length := h.length
theorem repL_keys {K : PySem.W.Frag} {β : List Addr} {H : Hp} : ∀ k : List Key, RepL K β H (k.map keyD) (k.map kV)
  | [] => rfl
  | x :: xs => ⟨_, _, rfl, rep_key x, repL_keys xs⟩
theorem itok_dt {K : PySem.W.Frag} {β : List Addr} {H : Hp} {d : Addr} {o : Obj} {kvs : List (D × D)} {ks : List (List Key × V)} (h : H d = some (.frz o (.dT ks))) (hk : DicT kvs ks) (hl : ks.length ≤ sizeLine) : ItOk K β H ⟨kvs.map (·.1), [], false⟩ (L2.Itkt d o ks) := by
  have hlen := hk.len
  refine ⟨fun β2 st2 H2 x2 s2 _ i k hd => ?_, fun β2 st2 H2 x2 s2 _ => ?_, fun _ => ?_⟩
  · have hf := x2.frz d _ _ h
    have hk' : kvs.map (·.1) = ks.map fun p => tkD p.1 := hk
    simp only at hd
    rw [hk', List.getElem?_map, Option.map_eq_some_iff] at hd
    obtain ⟨p, hp, rfl⟩ := hd
    refine ⟨⟨hf, (List.getElem?_eq_some_iff.mp hp).1⟩, fun x H3 hy => ?_⟩
    obtain ⟨rfl, k', v', q, hk2, rfl, hq⟩ := hy
    rw [hp] at hk2
    cases hk2
    exact ⟨.refl, s2, q, _, rfl, .inl hq, repL_keys _⟩
  · exact ⟨x2.frz d _ _ h, by simp [hlen]⟩
  · simp only [List.length_map]; omega
def LensD (H : Hp) : Prop := ∀ (d : Addr) (o : Obj) (ks : List (Key × V)), H d = some (.frz o (.dK ks)) → ks.length ≤ sizeLine
theorem PI.lenD {tg e : Expr} {t : TI} (h : PI X tg e t) : PI X tg e (fun σ H R => t σ H fun J H' => LensD H' → R J H') := ⟨fun pins s σ H R I hw => by
  refine thn (h.run pins s σ H _ I hw) fun v s1 h1 => thn h1 fun itv s2 h2 => ?_
  obtain ⟨it, fp, tn, J, H', e, I2, T, st2, f2, r⟩ := h2
  exact ⟨it, fp, tn, J, H', e, I2, T, st2, f2, r fun d o ks hq => (dk_rd I2.hok (.inr ⟨o, hq⟩)).1⟩⟩
theorem itok_dk {K : PySem.W.Frag} {β : List Addr} {H : Hp} {d : Addr} {o : Obj} {kvs : List (D × D)} {ks : List (Key × V)} (h : H d = some (.frz o (.dK ks))) (hk : DicR kvs ks) (hl : ks.length ≤ sizeLine) : ItOk K β H ⟨kvs.map (·.1), [], false⟩ (L2.Itk d o ks) := by
  have hlen := hk.length
  refine ⟨fun β2 st2 H2 x2 s2 _ i k hd => ?_, fun β2 st2 H2 x2 s2 _ => ?_, fun _ => ?_⟩
  · have hf := x2.frz d _ _ h
    have hk' : kvs.map (·.1) = ks.map fun p => keyD p.1 := hk
    simp only at hd
    rw [hk', List.getElem?_map, Option.map_eq_some_iff] at hd
    obtain ⟨p, hp, rfl⟩ := hd
    refine ⟨⟨hf, (List.getElem?_eq_some_iff.mp hp).1⟩, fun x H3 hy => ?_⟩
    obtain ⟨rfl, k', v', hk2, rfl⟩ := hy
    rw [hp] at hk2
    cases hk2
    exact ⟨.refl, s2, rep_key _⟩
  · exact ⟨x2.frz d _ _ h, by simp [hlen]⟩
  · simp only [List.length_map]; omega
theorem s_dk {tg e : Expr} (ha : PE X e (tE X.K C a)) : PI X tg e (tS X.K C (.dk a)) :=
  PI.imp (PI.or (PI.lenD (pi_keysL ha)) (PI.lenT (pi_keysT ha))) fun σ H R ⟨β, st, ρ, v, st', s, en, h, q⟩ => by
    simp only [evS] at h
    split at h
    · cases h
    rename_i r st1 e1
    unfold dkOf at h
    split at h
    case h_2 => cases h
    rename_i n
    split at h
    · rename_i lk kvs hz
      left
      simp only [Option.some.injEq, Prod.mk.injEq] at h
      obtain ⟨rfl, rfl⟩ := h
      refine seq1 s en e1 fun x β1 H1 x1 s1 r1 en1 => ?_
      obtain ⟨d, h1, rfl⟩ := r1
      obtain ⟨ks, h2, h3, h4⟩ := s1.obj n d _ h1 hz
      refine ⟨d, ks, rfl, ?_⟩
      cases lk with
      | true =>
        obtain ⟨o, h2⟩ := h2
        refine .inl ⟨o, h2, fun hl => q β1 H1 _ x1 ?_ (itok_dk h2 h3 (hl d o ks h2))⟩
        have es : st1.set n (.dic true kvs) = st1 := by
          obtain ⟨hn, e⟩ := List.getElem?_eq_some_iff.mp hz
          rw [← e, List.set_getElem_self]
        rw [es]; exact s1
      | false =>
        refine .inr ⟨h2, fun o hl => ?_⟩
        have h2' : H1 d = some (.dK ks) := h2
        have el : Ext β1 H1 β1 (upd H1 d (.frz o (.dK ks))) := Ext.refl.write (List.mem_of_getElem? h1) (dK_nf h2')
        exact q β1 _ _ (x1.trans el s1.nd) (s1.writeD h1 el ⟨o, rfl⟩ h3 h4) (itok_dk upd_same h3 (hl d o ks upd_same))
    · rename_i lk kvs hz
      right
      simp only [Option.some.injEq, Prod.mk.injEq] at h
      obtain ⟨rfl, rfl⟩ := h
      refine seq1 s en e1 fun x β1 H1 x1 s1 r1 en1 => ?_
      obtain ⟨d, h1, rfl⟩ := r1
      obtain ⟨ks, h2, h3, h4⟩ := s1.obj n d _ h1 hz
      refine ⟨d, ks, rfl, ?_⟩
      cases lk with
      | true =>
        obtain ⟨o, h2⟩ := h2
        refine .inl ⟨o, h2, fun hl => q β1 H1 _ x1 ?_ (itok_dt h2 h3 (hl d o ks h2))⟩
        have es : st1.set n (.dit true kvs) = st1 := by
          obtain ⟨hn, e⟩ := List.getElem?_eq_some_iff.mp hz
          rw [← e, List.set_getElem_self]
        rw [es]; exact s1
      | false =>
        refine .inr ⟨h2, fun o hl => ?_⟩
        have h2' : H1 d = some (.dT ks) := h2
        have el : Ext β1 H1 β1 (upd H1 d (.frz o (.dT ks))) := Ext.refl.write (List.mem_of_getElem? h1) (dT_nf h2')
        exact q β1 _ _ (x1.trans el s1.nd) (s1.writeT h1 el ⟨o, rfl⟩ h3 h4) (itok_dt upd_same h3 (hl d o ks upd_same))
    · cases h
end
end Mw

set_option Elab.async false
set_option linter.all false
set_option autoImplicit false
set_option maxRecDepth 100000
/-! PyC13: instances, their attributes and methods; what is raised and caught. -/
namespace Mw
open PySem PySem.Spec PyProof.Rows L2
variable [Tbs]
section
variable {K : PySem.W.Frag} {β : List Addr} {st : Sto} {H H0 : Hp}
theorem insAt_ok (s : Sim K β st H) {x : RV} {v : V} (r : RRep K β H H0 x v) {c : Str} {n : Nat} {fs : List (Str × D)} (h : insAt st c x = some (n, fs)) :
    x = .val (.ref n) ∧ ∃ a dx vs, v = .ref a ∧ β[n]? = some a ∧ st[n]? = some (.ins c fs) ∧ H a = some (.ins (He.ga K c) dx vs) ∧ fs.map (·.1) = vs.map (·.1) ∧ RepL K β H (fs.map (·.2)) (vs.map (·.2)) := by
  unfold insAt at h
  split at h
  · split at h
    · rename_i n0 c' fs' hq
      split at h
      · rename_i hc
        subst hc
        simp only [Option.some.injEq, Prod.mk.injEq] at h
        obtain ⟨rfl, rfl⟩ := h
        obtain ⟨a, h1, rfl⟩ := r
        obtain ⟨dx, vs, q1, q2, q3⟩ := s.obj _ _ _ h1 hq
        exact ⟨rfl, a, dx, vs, rfl, h1, hq, q1, q2, q3⟩
      · cases h
    · cases h
  · cases h
theorem fld_look {f : Str} : ∀ {fs : List (Str × D)} {vs : List (Str × V)}, fs.map (·.1) = vs.map (·.1) → RepL K β H (fs.map (·.2)) (vs.map (·.2)) → ORep K β H (fs.lookup f) (vs.lookup f)
  | [], vs, h, _ => by
    cases vs with
    | nil => exact trivial
    | cons a l => simp at h
  | (g, d) :: fs, vs, h, r => by
    cases vs with
    | nil => simp at h
    | cons p vs =>
      obtain ⟨g', v⟩ := p
      simp only [List.map_cons, List.cons.injEq] at h
      obtain ⟨rfl, h2⟩ := h
      obtain ⟨v', r', e, r1, r2⟩ := r
      simp only [List.map_cons, List.cons.injEq] at e
      obtain ⟨rfl, rfl⟩ := e
      rw [List.lookup_cons, List.lookup_cons]
      split
      · exact r1
      · exact fld_look h2 r2
theorem fld_put {f : Str} {d : D} {v : V} (rd : Rep K β H d v) : ∀ {fs : List (Str × D)} {vs : List (Str × V)}, fs.map (·.1) = vs.map (·.1) → RepL K β H (fs.map (·.2)) (vs.map (·.2)) →
    (putFD f d fs).map (·.1) = (putF f v vs).map (·.1) ∧ RepL K β H ((putFD f d fs).map (·.2)) ((putF f v vs).map (·.2))
  | [], vs, h, _ => by
    cases vs with
    | nil => exact ⟨rfl, RepL.one rd⟩
    | cons a l => simp at h
  | (g, e) :: fs, vs, h, r => by
    cases vs with
    | nil => simp at h
    | cons p vs =>
      obtain ⟨g', w⟩ := p
      simp only [List.map_cons, List.cons.injEq] at h
      obtain ⟨rfl, h2⟩ := h
      obtain ⟨v', r', eq, r1, r2⟩ := r
      simp only [List.map_cons, List.cons.injEq] at eq
      obtain ⟨rfl, rfl⟩ := eq
      simp only [putFD, putF]
      split
      · exact ⟨by simp [h2], _, _, rfl, rd, r2⟩
      · obtain ⟨i1, i2⟩ := fld_put rd h2 r2
        exact ⟨by simp [i1], _, _, rfl, r1, i2⟩
theorem ORep.some' {d : D} {u : Option V} (h : ORep K β H (some d) u) : ∃ v, u = some v ∧ Rep K β H d v := by
  cases u with
  | none => exact h.elim
  | some v => exact ⟨v, rfl, h⟩
theorem ORep.none' {u : Option V} (h : ORep K β H none u) : u = none := by
  cases u with
  | none => rfl
  | some v => exact h.elim
end
theorem ins_nf {H : Hp} {a C dx : Addr} {vs : List (Str × V)} (h : H a = some (.ins C dx vs)) : NF H a := ⟨fun o u z => (by rw [h] at z; cases z), fun o z => (by rw [h] at z; cases z), fun o z => (by rw [h] at z; cases z)⟩
theorem Ext.ins {β : List Addr} {H : Hp} {a C dx : Addr} {vs : List (Str × V)} {u : HO} (ha : a ∈ β) (h : H a = some (.ins C dx vs)) : Ext β H β (upd H a u) :=
  Ext.refl.write ha (ins_nf h)
theorem KeepT.ins {H : Hp} {a C dx : Addr} {vs : List (Str × V)} {u : HO} (h : H a = some (.ins C dx vs)) : KeepT H (L2.upd H a u) := ⟨fun b =>
  ⟨fun xs e => by rw [upd_ne fun z => by rw [z, h] at e; cases e]; exact e, fun o u e => by rw [upd_ne fun z => by rw [z, h] at e; cases e]; exact e⟩, tabs_upd (ins_nf h).tbl (ins_nf h).ext⟩
/-- an attribute is put -/
theorem Sim.sat {K : PySem.W.Frag} {β : List Addr} {st : Sto} {H : Hp} (s : Sim K β st H) {n : Nat} {a dx : Addr} {c f : Str} {fs : List (Str × D)} {vs : List (Str × V)} {d : D} {v : V} (h1 : β[n]? = some a) (h2 : st[n]? = some (.ins c fs)) (h3 : H a = some (.ins (He.ga K c) dx vs))
    (h4 : fs.map (·.1) = vs.map (·.1)) (h5 : RepL K β H (fs.map (·.2)) (vs.map (·.2))) (rd : Rep K β H d v) :
    Sim K β (st.set n (.ins c (putFD f d fs))) (upd H a (.ins (He.ga K c) dx (putF f v vs))) := by
  have kt : KeepT H (upd H a (.ins (He.ga K c) dx (putF f v vs))) := KeepT.ins h3
  obtain ⟨i1, i2⟩ := fld_put (f := f) rd h4 h5
  refine ⟨by simp [s.len], s.nd, fun m b o hb ho => ?_, kt.2 s.tab⟩
  by_cases hm : n = m
  · subst hm
    rw [h1] at hb; cases hb
    rw [List.getElem?_set_self (List.getElem?_eq_some_iff.mp h2).1] at ho
    cases ho
    exact ⟨dx, _, upd_same, i1, RepL.keepT kt _ _ i2⟩
  · rw [List.getElem?_set_ne hm] at ho
    have hne : b ≠ a := fun z => by
      subst z
      have hl1 := (List.getElem?_eq_some_iff.mp h1)
      have hl2 := (List.getElem?_eq_some_iff.mp hb)
      obtain ⟨l1, e1⟩ := hl1
      obtain ⟨l2, e2⟩ := hl2
      exact hm ((List.getElem_inj s.nd).mp (e1.trans e2.symm))
    have q := s.obj m b o hb ho
    cases o with
    | lst xs => obtain ⟨ws, q1, q2⟩ := q; exact ⟨ws, (upd_ne hne).trans q1, RepL.keepT kt _ _ q2⟩
    | dic lk kvs => obtain ⟨ks, q1, q2, q3⟩ := q; exact ⟨ks, by rw [upd_ne hne]; exact q1, q2, RepL.keepT kt _ _ q3⟩
    | dit lk kvs => obtain ⟨ks, q1, q2, q3⟩ := q; exact ⟨ks, by rw [upd_ne hne]; exact q1, q2, RepL.keepT kt _ _ q3⟩
    | ins _ _ => obtain ⟨dy, ws, q1, q2, q3⟩ := q; exact ⟨dy, ws, (upd_ne hne).trans q1, q2, RepL.keepT kt _ _ q3⟩
section
variable {X : Cx} {C : Call} {a b : CE} {es : CEs} {l e : Expr} {ls : List Expr} {pos pos' : Pos} {c f m q : Str} {n : Nat} {W : WX}
/-- o.f -/
theorem e_att (hc : Cls X.K (He.ga X.K c)) (hn : NoAttr X.K (He.ga X.K c) f) (ha : PE X l (tE X.K C a)) (hr : recvOk l = true) : PE X (.Attribute l f pos) (tE X.K C (.att c a f)) :=
  PE.imp (pe_fld ha (base_of hr)) fun σ H Q ⟨β, st, ρ, r, st', s, en, e, q⟩ => by
    simp only [ev] at e
    split at e
    · cases e
    rename_i x st1 e1
    simp only [Option.map_eq_some_iff, Prod.mk.injEq] at e
    obtain ⟨d, e2, rfl, rfl⟩ := e
    unfold attApp at e2
    split at e2
    · rename_i n fs hi
      refine seq1 s en e1 fun v β1 H1 x1 s1 r1 en1 => ?_
      obtain ⟨_, a, dx, vs, rfl, h1, h2, h3, h4, h5⟩ := insAt_ok s1 r1 hi
      have hl := fld_look (f := f) h4 h5
      rw [e2] at hl
      obtain ⟨w, hw, rw_⟩ := hl.some'
      exact ⟨a, _, dx, vs, w, rfl, h3, hc, hn, hw, q w β1 H1 x1 s1 rw_⟩
    · cases e2
/-- o.f = e -/
theorem s_sat (hc : Cls X.K (He.ga X.K c)) (hn : NoAttr X.K (He.ga X.K c) f) (ha : PE X l (tE X.K C a)) (hb : PE X e (tE X.K C b)) (hs : swapsWith e (some (.Attribute l f pos')) pos.line X.env = pure false) : PS X (.Assign [.Attribute l f pos'] e pos) (tSt X.K W C n (.sat c a f b)) :=
  PS.imp (ps_fld ha hb hs) fun D σ H ⟨β, st, ρ, fl, ρ', st', s, en, e, l⟩ => by
    simp only [exS] at e
    split at e
    · cases e
    rename_i r st1 e1
    split at e
    · cases e
    rename_i x st2 e2
    simp only [Option.map_eq_some_iff, Prod.mk.injEq] at e
    obtain ⟨st3, e3, rfl, rfl, rfl⟩ := e
    refine seq1 s en e1 fun v β1 H1 x1 s1 r1 en1 => ?_
    obtain ⟨β2, x2, s2, r2, x12⟩ := mat_ok x1 s1 r1
    refine seq1 s2 (en.mono s x2) e2 fun w β3 H3 x3 s3 r3 en3 => ?_
    unfold satApp at e3
    split at e3
    case h_2 => cases e3
    rename_i n fs hi
    split at e3
    case isFalse => cases e3
    rename_i hlt
    simp only [Option.some.injEq] at e3
    subst e3
    obtain ⟨_, a, dx, vs, rfl, h1, h2, h3, h4, h5⟩ := insAt_ok s3 r3 hi
    have hl : vs.length = fs.length := by have := congrArg List.length h4; simpa using this.symm
    refine ⟨a, _, dx, vs, rfl, h3, hc, hn, by omega, ?_⟩
    have r4 := Rep.mono s2 x3 _ _ r2
    have x4 : Ext β3 H3 β3 (upd H3 a (.ins (He.ga X.K c) dx (putF f v vs))) := Ext.ins (List.mem_of_getElem? h1) h3
    have s4 := s3.sat (f := f) h1 h2 h3 h4 h5 r4
    exact l β3 _ ((x2.trans x3 s3.nd).trans x4 s4.nd) s4 σ (en3.mono s3 x4)
theorem s_ataug (hc : Cls X.K (He.ga X.K c)) (hn : NoAttr X.K (He.ga X.K c) f) (ha : PE X l (tE X.K C a)) (hb : PE X e (tE X.K C b)) : PS X (.AugAssign (.Attribute l f pos') .Add e pos) (tSt X.K W C n (.ataug c a f b)) :=
  PS.imp (ps_fldaug ha hb in_add) fun D σ H ⟨β, st, ρ, fl, ρ', st', s, en, e, l⟩ => by
    simp only [exS] at e
    split at e
    · cases e
    rename_i x st1 e1
    split at e
    case h_2 => cases e
    rename_i i e2
    split at e
    case h_2 => cases e
    rename_i j st2 e3
    simp only [Option.map_eq_some_iff, Prod.mk.injEq] at e
    obtain ⟨st3, e4, rfl, rfl, rfl⟩ := e
    refine seq1 s en e1 fun v β1 H1 x1 s1 r1 en1 => ?_
    unfold attApp at e2
    split at e2
    case h_2 => cases e2
    rename_i n fs hi
    obtain ⟨hx, a, dx, vs, rfl, h1, h2, h3, h4, h5⟩ := insAt_ok s1 r1 hi
    have hl := fld_look (f := f) h4 h5
    rw [e2] at hl
    obtain ⟨w, hw, rw_⟩ := hl.some'
    cases (show w = .int i from rw_)
    refine ⟨a, _, dx, vs, _, rfl, h3, hc, hn, hw, seq1 s1 en1 e3 fun w2 β2 H2 x2 s2 r2 en2 => ?_⟩
    cases (show w2 = .int j from r2)
    unfold satApp at e4
    split at e4
    case h_2 => cases e4
    rename_i n' fs' hi'
    split at e4
    case isFalse => cases e4
    rename_i hlt
    simp only [Option.some.injEq] at e4
    subst e4
    have r1' := r1.mono s1 x2 s2.nd
    obtain ⟨hx', a', dx', vs', ea, h1', h2', h3', h4', h5'⟩ := insAt_ok s2 r1' hi'
    cases ea
    have hl' : vs'.length = fs'.length := by have := congrArg List.length h4'; simpa using this.symm
    refine ⟨i, j, rfl, rfl, dx', vs', h3', by omega, ?_⟩
    have x4 : Ext β2 H2 β2 (upd H2 a (.ins (He.ga X.K c) dx' (putF f (.int (i + j)) vs'))) := Ext.ins (List.mem_of_getElem? h1') h3'
    have s4 := s2.sat (f := f) (d := .int (i + j)) (v := .int (i + j)) h1' h2' h3' h4' h5' rfl
    exact l β2 _ ((x1.trans x2 s2.nd).trans x4 s4.nd) s4 σ (en2.mono s2 x4)
end
/-! ### methods -/
section
variable {X : Cx} {C : Call} {a b : CE} {es : CEs} {l e o : Expr} {ls : List Expr} {pos pos' apos : Pos} {c f m q : Str} {n k : Nat} {W : WX} {g D : Addr} {fd : FuncData} {ps : List Str} {sp : Sp} {ta : TE} {t : TA} {E : L2.St → XK}
def tMethG (D : Addr) (m : Str) (sp : Sp) (E : L2.St → XK) (ta : TE) (t : TA) : TE := fun σ H Q => ta σ H fun x H1 => ∃ a dx fs, x = .ref a ∧ H1 a = some (.ins D dx fs) ∧ fs.lookup m = none ∧ t σ H1 fun vs H2 => sp (x :: vs) H2 Q (E σ)
theorem pe_methG (he : PE X o ta) (c : Cls X.K D) (hm : Meth X.K D m g) (F : FnG X.prog X.w X.K X.mg X.base k g fd ps sp) (hr : Room k X.A) (gd : X.A.guards = some []) (hb : Binds X.K fd ps []) (hx : ∀ σ, PassesAt (L2.CX X.prog X.w) X σ (E σ)) (ha : PA X (e :: ls) t)
    (hro : recvOk o = true) (hp : (e :: ls).all plainE = true) (hlen : (e :: ls).length < 29) (hline : (apos.endLine == pos.line) = true) :
    PE X (.Call (.Attribute o m apos) (e :: ls) [] pos) (tMethG D m sp E ta t) := by
  have hp' := hp
  rw [List.all_cons, Bool.and_eq_true] at hp'
  refine ⟨fun pins s σ H Q I h => ?_⟩
  rw [arm_eval_Call, base_of hro]
  refine wpAny_bind (thn (he.run pins s σ H _ I h) fun u s1 ⟨x, H1, I1, rx, a, dx, fs, ex, ea, lk, q⟩ => wpAny_bind (wpAny_standAt ?_))
  subst ex
  obtain rfl : u = Value.ref a := rx
  have hform : methodCallForm ((e :: ls).length + ([] : List Keyword).length) (backTo pos (starEach (e :: ls) X.env)) (backToKw pos (keywordEach [] X.env)) = true := few_plain hp hlen
  have hpos : methodCallPos true o X.env apos pos = pure pos := by unfold methodCallPos; simp [hline]
  unfold methodCall
  rw [hform]
  refine wpAny_bind (wpAny_holding (getmeth_ok I1 ea c hm lk ?_))
  refine wpAny_bind (wpAny_of_eq hpos ?_)
  refine PySem.W.callWith_K (first := [.ref a]) (h₀ := X.base) I.ok.mod.kin hm.kp (thn (ha.run pos pins s1 σ H1 _ I1 q) fun us s2 ⟨vs, H2, I2, r, q2⟩ => ⟨I2.kIn, ?_⟩) (star_plain hp'.1) (stars_plain hp'.2)
  exact run_fnG (us := .ref a :: us) (vs := .ref a :: vs) F hr gd hb (hx σ) I2 (.cons rfl r) q2
theorem pe_methG0 (he : PE X o ta) (c : Cls X.K D) (hm : Meth X.K D m g) (F : FnG X.prog X.w X.K X.mg X.base k g fd ps sp) (hr : Room k X.A) (gd : X.A.guards = some []) (hb : Binds X.K fd ps []) (hx : ∀ σ, PassesAt (L2.CX X.prog X.w) X σ (E σ))
    (hro : recvOk o = true) (hline : (apos.endLine == pos.line) = true) :
    PE X (.Call (.Attribute o m apos) [] [] pos) (tMethG D m sp E ta tNil) := by
  refine ⟨fun pins s σ H Q I h => ?_⟩
  rw [arm_eval_Call, base_of hro]
  refine wpAny_bind (thn (he.run pins s σ H _ I h) fun u s1 ⟨x, H1, I1, rx, a, dx, fs, ex, ea, lk, q⟩ => wpAny_bind (wpAny_standAt ?_))
  subst ex
  obtain rfl : u = Value.ref a := rx
  have hform : methodCallForm (([] : List Expr).length + ([] : List Keyword).length) (backTo pos (starEach [] X.env)) (backToKw pos (keywordEach [] X.env)) = true := by rfl
  have hpos : methodCallPos true o X.env apos pos = pure pos := by unfold methodCallPos; simp [hline]
  unfold methodCall
  rw [hform]
  refine wpAny_bind (wpAny_holding (getmeth_ok I1 ea c hm lk ?_))
  refine wpAny_bind (wpAny_of_eq hpos ?_)
  exact PySem.W.callWith_K0 (first := [.ref a]) I1.kIn hm.kp (run_fnG (us := [.ref a]) (vs := [.ref a]) F hr gd hb (hx σ) I1 (.cons rfl .nil) q)
theorem evA_nil {ρ : Env} {st : Sto} {ds : List Mw.D} {st' : Sto} (e : evA C .nil ρ st = some (ds, st')) : ds = [] ∧ st' = st := by
  simp only [evA, Option.some.injEq, Prod.mk.injEq] at e
  exact ⟨e.1.symm, e.2.symm⟩
theorem meth_read {np : Nat} (hl : lenC es + 1 = np) (ht : ∀ σ H Q, tA X.K C es σ H Q → t σ H Q) {σ : L2.St} {H : Hp} {Q : VK} (h : tE X.K C (.mcall c m q a es) σ H Q) : tMethG (He.ga X.K c) m (spOf X.K C q np) E (tE X.K C a) t σ H Q := by
  obtain ⟨β, st, ρ, r, st', s, en, e, hq⟩ := h
  simp only [ev] at e
  split at e
  · cases e
  rename_i x st1 e1
  split at e
  · cases e
  rename_i j e2
  split at e
  · cases e
  rename_i ds st2 e3
  simp only [Option.map_eq_some_iff, Prod.mk.injEq] at e
  obtain ⟨⟨d, st3⟩, e4, rfl, rfl⟩ := e
  refine seq1 s en e1 fun v β1 H1 x1 s1 r1 en1 => ?_
  unfold insOf at e2
  split at e2
  case h_2 => cases e2
  rename_i n0 fs hi
  split at e2
  case isFalse => cases e2
  rename_i hlk
  simp only [Option.some.injEq] at e2
  subst e2
  obtain ⟨hx, a, dx, vs, rfl, h1, h2, h3, h4, h5⟩ := insAt_ok s1 r1 hi
  have hlo := fld_look (f := m) h4 h5
  rw [hlk] at hlo
  refine ⟨a, dx, vs, rfl, h3, hlo.none', ht _ _ _ (seqA s1 en1 e3 fun ws β2 H2 x2 s2 r2 en2 => ?_)⟩
  exact ⟨β2, st2, .ref n0 :: ds, d, st3, s2, ⟨_, _, rfl, ⟨a, x2.get h1, rfl⟩, r2⟩, by rw [List.length_cons, evA_len e3, hl], e4, fun v β' H' x' s' r' => hq v β' H' ((x1.trans x2 s2.nd).trans x' s'.nd) s' r'⟩
/-- a method's raising -/
theorem methX_read {np : Nat} (hl : lenC es + 1 = np) (ht : ∀ σ H Q, tA X.K C es σ H Q → t σ H Q) {σ : L2.St} {H : Hp} {Q : VK} (h : tX X.K W C (.mcall c m q a es) σ H Q) : tMethG (He.ga X.K c) m (spR X.K C q np) (WE W) (tE X.K C a) t σ H Q := by
  obtain ⟨β, st, ρ, c', st', s, en, e, hq⟩ := h
  simp only [xE] at e
  split at e
  · cases e
  rename_i x st1 e1
  split at e
  · cases e
  rename_i j e2
  split at e
  · cases e
  rename_i ds st2 e3
  have e4 := xcall_ok e
  refine seq1 s en e1 fun v β1 H1 x1 s1 r1 en1 => ?_
  unfold insOf at e2
  split at e2
  case h_2 => cases e2
  rename_i n0 fs hi
  split at e2
  case isFalse => cases e2
  rename_i hlk
  simp only [Option.some.injEq] at e2
  subst e2
  obtain ⟨hx, a, dx, vs, rfl, h1, h2, h3, h4, h5⟩ := insAt_ok s1 r1 hi
  have hlo := fld_look (f := m) h4 h5
  rw [hlk] at hlo
  refine ⟨a, dx, vs, rfl, h3, hlo.none', ht _ _ _ (seqA s1 en1 e3 fun ws β2 H2 x2 s2 r2 en2 => ?_)⟩
  exact ⟨β2, st2, .ref n0 :: ds, c', st', s2, ⟨_, _, rfl, ⟨a, x2.get h1, rfl⟩, r2⟩, by rw [List.length_cons, evA_len e3, hl], e4, fun β' H' x' s' => hq β' H' ((x1.trans x2 s2.nd).trans x' s'.nd) s'⟩
/-- a def's raising -/
theorem callX_read {np : Nat} (hl : lenC es = np) (ht : ∀ σ H Q, tA X.K C es σ H Q → t σ H Q) {σ : L2.St} {H : Hp} {Q : VK} (h : tX X.K W C (.call f es) σ H Q) : t σ H fun vs H1 => spR X.K C f np vs H1 Q (WE W σ) := by
  obtain ⟨β, st, ρ, c', st', s, en, e, hq⟩ := h
  simp only [xE] at e
  split at e
  · cases e
  rename_i ds st2 e3
  have e4 := xcall_ok e
  refine ht _ _ _ (seqA s en e3 fun ws β2 H2 x2 s2 r2 en2 => ?_)
  exact ⟨β2, st2, ds, c', st', s2, r2, (evA_len e3).trans hl, e4, fun β' H' x' s' => hq β' H' (x2.trans x' s'.nd) s'⟩
theorem tNil_of {σ : L2.St} {H : Hp} {Q : List V → Hp → Prop} (h : tA X.K C .nil σ H Q) : tNil σ H Q := by
  obtain ⟨β, st, ρ, ds, st', s, en, e, q⟩ := h
  obtain ⟨rfl, rfl⟩ := evA_nil e
  exact q [] β H .refl s rfl
/-! ### C(..) -/
theorem run_makeG {pins : List (Addr × Obj)} {σ : L2.St} {H : Hp} {s : Shared} {Q : VK} {us : List Value} {vs : List V} (M : Mk X.K D g) (F : FnG X.prog X.w X.K X.mg X.base k g fd ps sp) (hr : RoomG k X.A) (gd : X.A.guards = some []) (hb : Binds X.K fd ps [])
    (I : Inv X pins σ H s) (r : Vals vs us)
    (h : ∀ x dx, H x = none → H dx = none → dx ≠ x → sp (.ref x :: vs) (upd (upd H dx (.own x)) x (.ins D dx [])) (fun v H2 => v = .non ∧ Q (.ref x) H2) E0) :
    wpAny (model X.prog X.w) X.A (call (.ref D) us) (EP X pins σ Q) X.xe s := by
  have hq := h (s.heap.objs.size + 1) s.heap.objs.size (I.hok.fresh (Nat.le_succ _)) (I.hok.fresh (Nat.le_refl _)) (Nat.ne_of_lt (Nat.lt_succ_self _))
  have I2 := Inv.made (C := D) I
  have r2 : Vals (V.ref (s.heap.objs.size + 1) :: vs) (Value.ref (s.heap.objs.size + 1) :: us) := .cons rfl r
  have hl : (Value.ref (s.heap.objs.size + 1) :: us).length = ps.length := by
    have e := r2.length
    rw [F.len _ _ _ _ hq] at e
    exact e.symm
  have hb' := hb { s with heap := (s.heap.push PySem.W.emptyDict).push (PySem.W.instObj D s.heap.objs.size) } (Value.ref (s.heap.objs.size + 1) :: us) I2.kIn (by simpa using hl)
  simp only [List.append_nil] at hb'
  refine wpAny_call (make_map (f := g) I.kIn M.makes M.init (beq_iff_eq.mp M.fn) (codeAny_mono (F.run _ X.stack _ _ ⟨Value.ref (s.heap.objs.size + 1) :: us, []⟩ (Value.ref (s.heap.objs.size + 1) :: us) _ _ E0 (hr.mk_ D us)
    (by first | exact gd | (show (X.A.under _).guards = some []; simp [Around.under, Code.isGuard, Code.isCreation, gd])) (I2.env0.make D us []) hb' r2 hq) fun r s' hq' => ?_))
  cases r with
  | error e => exact pass00 _ _ _ _ e s' I2 hq'
  | ok fl =>
    cases fl with
    | ret u =>
      obtain ⟨v, H', I3, rv, ev, q3⟩ := I2.after hq'
      subst ev
      exact ⟨rv, ⟨V.ref (s.heap.objs.size + 1), H', I3, rfl, q3⟩⟩
    | next => exact False.elim hq'
    | brk => exact False.elim hq'
    | cont => exact False.elim hq'
end
end Mw

set_option Elab.async false
set_option linter.all false
set_option autoImplicit false
set_option maxRecDepth 100000
/-! PyC14: instances made, methods called, displays with texts as keys, raise, try. -/
namespace Mw
open PySem PySem.Spec PyProof.Rows L2
variable [Tbs]
section
variable {X : Cx} {C : Call} {a b : CE} {es : CEs} {l e o : Expr} {ls : List Expr} {pos pos' apos p : Pos} {c f m q x : Str} {n k : Nat} {W : WX} {g : Addr} {fd : FuncData} {ps : List Str} {t : TA}
theorem pe_makeG (M : Mk X.K (He.ga X.K c) g) (F : FnG X.prog X.w X.K X.mg X.base k g fd ps (spOf X.K C q ps.length)) (hr : RoomG k X.A) (gd : X.A.guards = some []) (hg : Gl X c) (hm : X.mg c = some (.ref (He.ga X.K c))) (hb : Binds X.K fd ps [])
    (ha : PA X (e :: ls) t) (hdb : (c == ("__debug__" : Str)) = false) (he : starEach (e :: ls) X.env = (false, eval e X.env) :: starEach ls X.env) (hpl : (backTo pos (starEach ls X.env)).any (·.1) = false) :
    PE X (.Call (.Name c p) (e :: ls) [] pos) (tMake (He.ga X.K c) (spOf X.K C q ps.length) [] E0 t) := by
  refine ⟨fun pins s σ H Q I h => ?_⟩
  refine wpAny_Call_Name_kw (ld_glob I hg hm ?_ hdb)
  refine PySem.W.callWith_K (h₀ := X.base) I.ok.mod.kin M.kp (thn (ha.run pos pins s σ H _ I h) fun us s1 ⟨vs, H1, I1, r, q⟩ => ⟨I1.kIn, ?_⟩) he hpl
  exact run_makeG M F hr gd hb I1 r fun x dx h1 h2 h3 => by have := q x dx h1 h2 h3; simpa using this
theorem e_make (M : Mk X.K (He.ga X.K c) g) (F : FnG X.prog X.w X.K X.mg X.base k g fd ps (spOf X.K C q ps.length)) (hr : RoomG k X.A) (gd : X.A.guards = some []) (hg : Gl X c) (hm : X.mg c = some (.ref (He.ga X.K c))) (hb : Binds X.K fd ps [])
    (hl : lenC es + 1 = ps.length) (ha : PA X (e :: ls) (tA X.K C es)) (hp : (e :: ls).all plainE = true) (hdb : (c == ("__debug__" : Str)) = false) : PE X (.Call (.Name c p) (e :: ls) [] pos) (tE X.K C (.make c q es)) := by
  rw [List.all_cons, Bool.and_eq_true] at hp
  refine PE.imp (pe_makeG M F hr gd hg hm hb ha hdb (star_plain hp.1) (stars_plain hp.2)) fun σ H Q ⟨β, st, ρ, r, st', s, en, e, hq⟩ => ?_
  simp only [ev] at e
  split at e
  · cases e
  rename_i ds st1 e1
  split at e
  case h_2 => cases e
  rename_i st2 e2
  simp only [Option.some.injEq, Prod.mk.injEq] at e
  obtain ⟨rfl, rfl⟩ := e
  refine seqA s en e1 fun vs β1 H1 x1 s1 r1 en1 => ?_
  intro x dx hx hdx hne
  have s2 := s1.new (o := .own x) hdx
  have hx2 : upd H1 dx (.own x) x = none := by rw [upd_ne (Ne.symm hne)]; exact hx
  have s3 := s2.new (o := .ins (He.ga X.K c) dx []) hx2
  have xx : Ext β1 H1 β1 (upd (upd H1 dx (.own x)) x (.ins (He.ga X.K c) dx [])) := (Ext.new hdx).trans (Ext.new hx2) s1.nd
  have hxβ : x ∉ β1 := s1.off hx
  have s4 := s3.layO (o := .ins c []) hxβ ⟨dx, [], upd_same, rfl, rfl⟩
  have xl : Ext β1 H1 (β1 ++ [x]) (upd (upd H1 dx (.own x)) x (.ins (He.ga X.K c) dx [])) := xx.lay hx
  have r4 := RepL.grow (grow_app (p := x)) _ _ (RepL.mono s1 xx _ _ r1)
  refine ⟨β1 ++ [x], _, .ref st1.length :: ds, .non, st2, s4, ⟨_, _, rfl, ⟨x, lay_at s1.len, rfl⟩, by simpa using r4⟩, by rw [List.length_cons, evA_len e1, hl], e2, fun v β' H' x' s' r' => ⟨r', ?_⟩⟩
  exact hq (.ref x) β' H' ((x1.trans xl s4.nd).trans x' s'.nd) s' ⟨x, x'.get (lay_at s1.len), rfl⟩
theorem e_mcall (hc : Cls X.K (He.ga X.K c)) (hm : Meth X.K (He.ga X.K c) m g) (F : FnG X.prog X.w X.K X.mg X.base k g fd ps (spOf X.K C q ps.length)) (hr : Room k X.A) (gd : X.A.guards = some []) (hb : Binds X.K fd ps [])
    (hl : lenC es + 1 = ps.length) (ho : PE X o (tE X.K C a)) (ha : PA X (e :: ls) (tA X.K C es)) (hro : recvOk o = true) (hp : (e :: ls).all plainE = true) (hlen : (e :: ls).length < 29) (hline : (apos.endLine == pos.line) = true) :
    PE X (.Call (.Attribute o m apos) (e :: ls) [] pos) (tE X.K C (.mcall c m q a es)) :=
  PE.imp (pe_methG (E := fun _ => E0) ho hc hm F hr gd hb pass00 ha hro hp hlen hline) fun σ H Q => meth_read hl fun _ _ _ => id
theorem e_mcall0 (hc : Cls X.K (He.ga X.K c)) (hm : Meth X.K (He.ga X.K c) m g) (F : FnG X.prog X.w X.K X.mg X.base k g fd ps (spOf X.K C q ps.length)) (hr : Room k X.A) (gd : X.A.guards = some []) (hb : Binds X.K fd ps [])
    (hl : 1 = ps.length) (ho : PE X o (tE X.K C a)) (hro : recvOk o = true) (hline : (apos.endLine == pos.line) = true) :
    PE X (.Call (.Attribute o m apos) [] [] pos) (tE X.K C (.mcall c m q a .nil)) :=
  PE.imp (pe_methG0 (E := fun _ => E0) ho hc hm F hr gd hb pass00 hro hline) fun σ H Q => meth_read (es := .nil) hl fun _ _ _ => tNil_of
/-! ### what calls raise -/
theorem x_mcall (tk : Takes X W) (hc : Cls X.K (He.ga X.K c)) (hm : Meth X.K (He.ga X.K c) m g) (F : FnG X.prog X.w X.K X.mg X.base k g fd ps (spR X.K C q ps.length)) (hr : Room k X.A) (gd : X.A.guards = some []) (hb : Binds X.K fd ps [])
    (hl : lenC es + 1 = ps.length) (ho : PE X o (tE X.K C a)) (ha : PA X (e :: ls) (tA X.K C es)) (hro : recvOk o = true) (hp : (e :: ls).all plainE = true) (hlen : (e :: ls).length < 29) (hline : (apos.endLine == pos.line) = true) :
    PE X (.Call (.Attribute o m apos) (e :: ls) [] pos) (tX X.K W C (.mcall c m q a es)) :=
  PE.imp (pe_methG (E := WE W) ho hc hm F hr gd hb (passAt tk) ha hro hp hlen hline) fun σ H Q => methX_read hl fun _ _ _ => id
theorem x_mcall0 (tk : Takes X W) (hc : Cls X.K (He.ga X.K c)) (hm : Meth X.K (He.ga X.K c) m g) (F : FnG X.prog X.w X.K X.mg X.base k g fd ps (spR X.K C q ps.length)) (hr : Room k X.A) (gd : X.A.guards = some []) (hb : Binds X.K fd ps [])
    (hl : 1 = ps.length) (ho : PE X o (tE X.K C a)) (hro : recvOk o = true) (hline : (apos.endLine == pos.line) = true) :
    PE X (.Call (.Attribute o m apos) [] [] pos) (tX X.K W C (.mcall c m q a .nil)) :=
  PE.imp (pe_methG0 (E := WE W) ho hc hm F hr gd hb (passAt tk) hro hline) fun σ H Q => methX_read (es := .nil) hl fun _ _ _ => tNil_of
theorem x_call (tk : Takes X W) (F : FnG X.prog X.w X.K X.mg X.base k g fd ps (spR X.K C f ps.length)) (hr : Room k X.A) (gd : X.A.guards = some []) (hg : Gl X x) (hm : X.mg x = some (.ref g)) (hk : PySem.W.keepIn X.K (.ref g) = true) (hb : Binds X.K fd ps [])
    (hl : lenC es = ps.length) (ha : PA X (e :: ls) (tA X.K C es)) (hp : (e :: ls).all plainE = true) (hdb : (x == ("__debug__" : Str)) = false) : PE X (.Call (.Name x p) (e :: ls) [] pos) (tX X.K W C (.call f es)) := by
  rw [List.all_cons, Bool.and_eq_true] at hp
  exact PE.imp (pe_callG (E := WE W) F hr gd hg hm hk hb (passAt tk) ha hdb (star_plain hp.1) (stars_plain hp.2)) fun σ H Q => callX_read hl fun _ _ _ => id
theorem x_call0 (tk : Takes X W) (F : FnG X.prog X.w X.K X.mg X.base k g fd ps (spR X.K C f ps.length)) (hr : Room k X.A) (gd : X.A.guards = some []) (hg : Gl X x) (hm : X.mg x = some (.ref g)) (hk : PySem.W.keepIn X.K (.ref g) = true) (hb : Binds X.K fd ps [])
    (hl : 0 = ps.length) (hdb : (x == ("__debug__" : Str)) = false) : PE X (.Call (.Name x p) [] [] pos) (tX X.K W C (.call f .nil)) :=
  PE.imp (pe_callG0 (E := WE W) F hr gd hg hm hk hb (passAt tk) hdb) fun σ H Q h => callX_read (es := .nil) (t := tNil) hl (fun _ _ _ => tNil_of) h
theorem x_none (h : ∀ ρ st, xE C a ρ st = none) : PE X e (tX X.K W C a) :=
  ⟨fun pins s σ H Q I ⟨β, st, ρ, c', st', _, _, e, _⟩ => by rw [h] at e; cases e⟩
/-! ### {"a": .., ..} -/
def keysB : List Str → List (Option Expr) → Bool
  | [], l => l.isEmpty
  | k :: ks, l => match l with
    | some (.Constant (.str s) _ _) :: r => decide (s = k) && keysB ks r
    | _ => false
def trsOf (K : PySem.W.Frag) (C : Call) : List Str → CEs → List (TE × TE)
  | [], _ => []
  | k :: ks, es => match es with
    | .nil => []
    | .cons e es => (tC (.str k), tE K C e) :: trsOf K C ks es
theorem keysB_some : ∀ {ks : List Str} {keys : List (Option Expr)}, keysB ks keys = true → keys.all (·.isSome) = true ∧ keys.length = ks.length
  | [], keys, h => by
    unfold keysB at h
    rw [List.isEmpty_iff.mp h]
    exact ⟨rfl, rfl⟩
  | k :: ks, keys, h => by
    unfold keysB at h
    split at h
    · simp only [Bool.and_eq_true] at h
      obtain ⟨h1, h2⟩ := keysB_some h.2
      exact ⟨by simp [h1], by simp [h2]⟩
    · cases h
def AllPE (X : Cx) (C : Call) : CEs → List Expr → Prop
  | .nil, [] => True
  | .cons a es, l :: ls => PE X l (tE X.K C a) ∧ AllPE X C es ls
  | _, _ => False
theorem pps_of : ∀ {ks : List Str} {keys : List (Option Expr)} {es : CEs} {vals : List Expr}, keysB ks keys = true → AllPE X C es vals → ks.length = lenC es → PPs X pos keys vals (trsOf X.K C ks es)
  | [], keys, es, vals, h, hj, hl => by
    unfold keysB at h
    rw [List.isEmpty_iff.mp h]
    cases es with
    | nil =>
      cases vals with
      | nil => exact pps_nil
      | cons _ _ => exact hj.elim
    | cons _ _ => simp [lenC] at hl
  | k :: ks, keys, es, vals, h, hj, hl => by
    unfold keysB at h
    split at h
    · simp only [Bool.and_eq_true, decide_eq_true_eq] at h
      obtain ⟨rfl, h⟩ := h
      cases es with
      | nil => simp [lenC] at hl
      | cons a es =>
        cases vals with
        | nil => exact hj.elim
        | cons v vals => exact pps_cons pe_str hj.1 (pps_of h hj.2 (by simpa [lenC] using hl))
    · cases h
theorem pairs_read {ρ : L2.St} : ∀ {ks : List Str} {es : CEs} {β : List Addr} {st st' : Sto} {H : Hp} {r : Env} {ds : List D} {P : List (V × V) → Hp → Prop}, evA C es r st = some (ds, st') → ks.length = lenC es → Sim X.K β st H → EnvR X.K β H r ρ →
    (∀ vs β' H', Ext β H β' H' → Sim X.K β' st' H' → RepL X.K β' H' ds vs → P ((ks.zip vs).map fun p => (V.str p.1, p.2)) H') → tPairs (trsOf X.K C ks es) ρ H P
  | [], es, β, st, st', H, r, ds, P, e, hl, s, en, h => by
    cases es with
    | nil =>
      obtain ⟨rfl, rfl⟩ := evA_nil e
      exact h [] β H .refl s rfl
    | cons _ _ => simp [lenC] at hl
  | k :: ks, es, β, st, st', H, r, ds, P, e, hl, s, en, h => by
    cases es with
    | nil => simp [lenC] at hl
    | cons a es =>
      simp only [evA] at e
      split at e
      · cases e
      rename_i rv st1 e1
      split at e
      · cases e
      rename_i ds' st2 e2
      simp only [Option.some.injEq, Prod.mk.injEq] at e
      obtain ⟨rfl, rfl⟩ := e
      show tE X.K C a ρ H _
      refine seq1 s en e1 fun v β1 H1 x1 s1 r1 en1 => ?_
      obtain ⟨β2, x2, s2, r2, _⟩ := mat_ok x1 s1 r1
      refine pairs_read e2 (by simpa [lenC] using hl) s2 (en.mono s x2) fun vs β' H' x' s' r' => ?_
      exact h (v :: vs) β' H' (x2.trans x' s'.nd) s' ⟨v, vs, rfl, Rep.mono s2 x' _ _ r2, r'⟩
theorem merge_nub : ∀ {ks : List Str} {vs : List V} {acc : List (Key × V)}, ks.Nodup → (∀ k ∈ ks, ∀ p ∈ acc, p.1 ≠ .inr k) → mergeK acc ((ks.map Sum.inr).zip vs) = acc ++ (ks.map Sum.inr).zip vs
  | [], vs, acc, _, _ => by simp [mergeK]
  | k :: ks, [], acc, _, _ => by simp [mergeK]
  | k :: ks, v :: vs, acc, nd, h => by
    have h1 : putK acc (Sum.inr k : Key) v = acc ++ [(.inr k, v)] := by
      unfold putK
      rw [if_neg]
      simp only [List.any_eq_true, decide_eq_true_eq, not_exists, not_and]
      exact fun p hp => h k (by simp) p hp
    show mergeK (putK acc (Sum.inr k : Key) v) ((ks.map Sum.inr).zip vs) = _
    rw [h1, merge_nub (List.nodup_cons.mp nd).2 fun k' hk' p hp => ?_]
    · simp
    · rcases List.mem_append.mp hp with hp | hp
      · exact h k' (by simp [hk']) p hp
      · simp only [List.mem_singleton] at hp
        subst hp
        simp only [ne_eq, Sum.inr.injEq]
        exact fun z => (List.nodup_cons.mp nd).1 (z ▸ hk')
theorem zip_fst {α γ : Type} : ∀ {ks : List α} {vs : List γ}, ks.length = vs.length → (ks.zip vs).map (·.1) = ks ∧ (ks.zip vs).map (·.2) = vs
  | [], [], _ => ⟨rfl, rfl⟩
  | k :: ks, v :: vs, h => by
    obtain ⟨h1, h2⟩ := zip_fst (ks := ks) (vs := vs) (by simpa using h)
    simp [h1, h2]
theorem e_dicS {ks : List Str} {keys : List (Option Expr)} {vals : List Expr} (hk : keysB ks keys = true) (hj : AllPE X C es vals) (hl : ks.length = lenC es) (hv : vals.length = ks.length) (h0 : ks ≠ []) (h15 : ks.length ≤ 15) : PE X (.Dict keys vals pos) (tE X.K C (.dicS ks es)) := by
  obtain ⟨k1, k2⟩ := keysB_some hk
  refine PE.imp (pe_disp (pps_of hk hj hl) k1 (by omega) (by intro z; rw [z] at k2; exact h0 (List.length_eq_zero_iff.mp (by simpa using k2.symm))) (by omega)) fun σ H Q ⟨β, st, ρ, r, st', s, en, e, q⟩ p hp => ?_
  simp only [ev] at e
  split at e
  · cases e
  rename_i ds st1 e1
  split at e
  case isFalse => cases e
  rename_i hnd
  obtain ⟨hkd, hnd⟩ := hnd
  simp only [Option.some.injEq, Prod.mk.injEq] at e
  obtain ⟨rfl, rfl⟩ := e
  have hpβ := s.off hp
  have x0 : Ext β H β (upd H p (.dK [])) := Ext.new hp
  refine pairs_read e1 hl (s.new hp) (en.mono s x0) fun vs β3 H2 x13 s3 r3 => ?_
  have hvl : ds.length = vs.length := r3.length
  have h2p : H2 p = some (.dK []) := x13.keep.get upd_same hpβ
  refine ⟨h2p, (ks.map Sum.inr).zip vs, ?_, by simp; omega, ?_⟩
  · rw [List.zip_map_left, List.map_map]; rfl
  have hp3 : p ∉ β3 := by
    obtain ⟨new, en, f⟩ := x13.pre
    rw [en]
    intro hm
    rcases List.mem_append.mp hm with z | z
    · exact hpβ z
    · have := f p z; rw [upd_same] at this; cases this
  rw [merge_nub hnd (fun _ _ _ h => by simp at h), List.nil_append]
  obtain ⟨u, hu⟩ : ∃ u, u = HO.dK ((ks.map Sum.inr).zip vs) := ⟨_, rfl⟩
  rw [← hu]
  have kt : KeepT H2 (upd H2 p u) := KeepT.updD h2p
  have s4 : Sim X.K β3 st1 (upd H2 p u) := s3.keepT kt fun b hb => upd_ne fun z => hp3 (z ▸ hb)
  have x4 : Ext β H (β3 ++ [p]) (upd H2 p u) := (((Ext.new hp).trans x13 s3.nd).updFree hp (dK_nf h2p)).lay hp
  refine q (.ref p) (β3 ++ [p]) _ x4 (s4.layO hp3 ⟨(ks.map Sum.inr).zip vs, ?_, ?_, ?_⟩) ⟨p, lay_at s3.len, rfl⟩
  · show upd H2 p u p = _
    rw [upd_same, hu]
  · show ((ks.map D.str).zip ds).map (·.1) = _
    rw [(zip_fst (by simp; omega)).1, show (((ks.map Sum.inr).zip vs).map fun p : Key × V => keyD p.1) = (((ks.map Sum.inr).zip vs).map (·.1)).map keyD from by rw [List.map_map]; rfl, (zip_fst (by simp; omega)).1, List.map_map]
    rfl
  · rw [(zip_fst (by simp; omega)).2, (zip_fst (by simp; omega)).2]
    exact RepL.grow grow_app _ _ (RepL.keepT kt _ _ r3)
/-! ### raise, try -/
theorem s_raise {j : Nat} {y : Str} {p2 p3 : Pos} (hc : X.calm = true) (tk : Takes X W) (hx : PySem.W.excIn X.K (He.ga X.K c) He.veBase "ValueError.__new__" = true) (gC : X.mg c = some (.ref (He.ga X.K c))) (kC : PySem.W.keepIn X.K (.ref (He.ga X.K c)) = true)
    (r1 : PySem.W.subIn X.K (.ref (He.ga X.K c)) (.type "BaseException") = some true) (r2 : PySem.W.typeIn X.K (.ref (He.ga X.K c)) = some (.type "type")) (hg : Gl X c) (hdb : (c == ("__debug__" : Str)) = false) :
    PS X (.Raise (some (.Call (.Name c p) [.Constant (.str y) j p2] [] p3)) none pos) (tSt X.K W C n (.raise c)) :=
  PS.imp (ps_raise hc tk (pmk_own PySem.F.excBase_ValueError hx gC kC (raises_own r1 r2) hg hdb)) fun D σ H ⟨β, st, ρ, fl, ρ', st', s, en, e, l⟩ => by
    simp only [exS, Option.some.injEq, Prod.mk.injEq] at e
    obtain ⟨rfl, rfl, rfl⟩ := e
    exact l β H .refl s σ en
theorem s_try {body suite : List Stmt} {b₀ : Stmt} {np : Pos} {bd h : CSs} {cs : List Str} (hs : X.stack = X.env :: X.outer) (hf : X.env.frame = some X.env.locals) (tk : Takes X W) (hg : Gl X c) (hdb : (c == ("__debug__" : Str)) = false) (hm : X.mg c = some (.ref (He.ga X.K c)))
    (hcs : ∀ y ∈ cs, PySem.W.exmOne X.K (.ref (He.ga X.K y)) (.ref (He.ga X.K c)) = some true)
    (hb : ∀ (W' : WX) (pn : List (Addr × Obj)) (xe : Value → Shared → Prop), Takes (X.tr pn xe) W' → PassesOwn (model X.prog X.w) X.A X.env xe → PSs (X.tr pn xe) body (tSs X.K W' C n bd))
    (hsu : ∀ (a : Addr) (pn : List (Addr × Obj)), PSs (X.suite a pn) (b₀ :: suite) (tSs X.K W C n h)) :
    PS X (.Try body [.ExceptHandler (some (.Name c np)) none (b₀ :: suite) pos'] [] [] pos) (tSt X.K W C n (.tryx bd c cs h)) :=
  PS.imp (ps_try_only (tb := fun W' => tSs X.K W' C n bd) (ts := fun _ _ _ => tSs X.K W C n h) hs hf ⟨hg, hdb, .inl hm⟩ tk hb fun a oe cls d pn _ _ => hsu a _) fun D σ H ⟨β, st, ρ, fl, ρ', st', s, en, e, l⟩ => by
    simp only [exS] at e
    split at e
    · rename_i c1 σ1 st1 e1
      split at e
      case isFalse => cases e
      rename_i hmem
      refine ⟨β, st, ρ, .ex c1, σ1, st1, s, en, e1, fun β1 H1 x1 s1 σ2 en2 => ⟨true, hcs _ hmem, fun _ a _ => ?_, fun z => by cases z⟩⟩
      exact ⟨β1, st1, σ1, fl, ρ', st', s1, en2, e, l.ext x1⟩
    · rename_i hn
      refine ⟨β, st, ρ, fl, ρ', st', s, en, e, fun β1 H1 x1 s1 => ?_⟩
      cases fl with
      | ex c => exact (hn _ _ _ e).elim
      | nx => exact l β1 H1 x1 s1
      | rt d => exact l β1 H1 x1 s1
      | bk => exact l β1 H1 x1 s1
      | ct => exact l β1 H1 x1 s1
end
end Mw

set_option Elab.async false
set_option linter.all false
set_option autoImplicit false
set_option maxRecDepth 100000
/-! PyC15: except x as e. -/
namespace Mw
open PySem PySem.Spec PyProof.Rows L2
variable [Tbs]
/-- isinstance(e, ..): slot i holds the error at a -/
def tIs (i : Nat) (a : Addr) (b : Bool) : TE := fun σ H Q => σ[i]? = some (some (.ref a)) ∧ Q (.bl b) H
def tIsM (i : Nat) (a : Addr) (vs : List V) (b : Bool) : TE := fun σ H Q => σ[i]? = some (some (.ref a)) ∧ ∀ T, H T = none → Q (.bl b) (upd H T (.tup vs))
def tIx (i : Nat) (a : Addr) (t : TE) : TE := fun σ H Q => σ[i]? = some (some (.ref a)) ∧ t σ H Q
def tIa (i : Nat) (a : Addr) (t : TA) : TA := fun σ H Q => σ[i]? = some (some (.ref a)) ∧ t σ H Q
/-- the class that a name names -/
def cvO (K : PySem.W.Frag) (y : Str) : Value := if y = "ValueError" then .type "ValueError" else .ref (He.ga K y)
def cvV (K : PySem.W.Frag) (y : Str) : V := if y = "ValueError" then .ty "ValueError" else .ref (He.ga K y)
theorem cv_only {K : PySem.W.Frag} {y : Str} {u : Value} (r : RelV (cvV K y) u) : u = cvO K y := by
  unfold cvV at r; unfold cvO
  split at r <;> rename_i h
  · rw [if_pos h]; exact r
  · rw [if_neg h]; exact r
section
variable {X : Cx} {a D : Addr} {oe : Obj} {pn : List (Addr × Obj)} {i : Nat} {nm y : Str} {b : Bool} {p p2 p3 pos tpos : Pos}
/-- the name of a class -/
def ClN (X : Cx) (y : Str) : Prop := Gl X y ∧ (y == ("__debug__" : Str)) = false ∧ y ≠ "__name__" ∧ (if y = "ValueError" then X.mg y = none else X.mg y = some (.ref (He.ga X.K y)))
theorem pe_clN (h : ClN X y) : PE X (.Name y p) (tC (cvV X.K y)) := by
  obtain ⟨h1, h2, h3, h4⟩ := h
  by_cases hy : y = "ValueError"
  · rw [if_pos hy] at h4
    subst hy
    exact pe_bltn (u := .type "ValueError") h1 h4 (by decide +kernel) (by unfold cvV; rw [if_pos rfl]; rfl) h3 h2
  · rw [if_neg hy] at h4
    exact pe_glob h1 h4 (by unfold cvV; rw [if_neg hy]; rfl) h2
theorem pe_is1 (E : ExcC X.K D) (hz : Zc (.ref D) none oe) (hf : ∃ vs, oe.data = .fields vs) (hg : Gl X "isinstance") (hm : X.mg "isinstance" = none) (hN : X.N[i]? = some nm) (hv : Vis X.env.scope nm) (hd : (nm == ("__debug__" : Str)) = false) (hc : (nm == ("__classdict__" : Str)) = false)
    (hy : ClN X y) (hk : PySem.W.kitOne X.K (.ref D) (cvO X.K y) = some b) : PE (X.suite a ((a, oe) :: pn)) (.Call (.Name "isinstance" p) [.Name nm p2, .Name y p3] [] pos) (tIs i a b) :=
  PE.imp (pe_callB (X := X.suite a ((a, oe) :: pn)) (call_isE E hz hf) hg hm PyProof.Rows.boot_isinstance (pa_cons (pe_var (X := X.suite a ((a, oe) :: pn)) hN hv hd hc) (pa_cons (pe_clN (X := X.suite a ((a, oe) :: pn)) hy) pa_nil (star_plain rfl)) (star_plain rfl)) (by decide) (by decide) (star_plain rfl) (stars_plain rfl)) fun σ H Q ⟨h1, h2⟩ =>
    ⟨.ref a, h1, cvV X.K y, cvO X.K y, b, rfl, fun u r => cv_only r, hk, h2⟩
/-- names of classes in a row -/
def clNs (X : Cx) : List Expr → List Str → Prop
  | [], ys => ys = []
  | .Name y _ :: es, z :: ys => y = z ∧ ClN X y ∧ clNs X es ys
  | _, _ => False
def tCls (K : PySem.W.Frag) : List Str → TA
  | [] => tNil
  | y :: ys => tCons (tC (cvV K y)) (tCls K ys)
theorem pa_cls : ∀ {es : List Expr} {ys : List Str}, clNs X es ys → PA X es (tCls X.K ys)
  | [], ys, h => by
    obtain rfl : ys = [] := h
    exact pa_nil
  | e :: es, [], h => by cases e <;> exact False.elim h
  | e :: es, z :: ys, h => by
    cases e with
    | Name y q =>
      obtain ⟨rfl, h2, h3⟩ := h
      exact pa_cons (pe_clN h2) (pa_cls h3) (star_plain rfl)
    | _ => exact False.elim h
theorem tCls_run {K : PySem.W.Frag} {σ : L2.St} {H : Hp} {Q : List V → Hp → Prop} : ∀ {ys : List Str}, Q (ys.map (cvV K)) H → tCls K ys σ H Q
  | [], q => q
  | y :: ys, q => (tCls_run (ys := ys) q : tCls K ys σ H fun vs H' => Q (cvV K y :: vs) H')
theorem vals_cls {K : PySem.W.Frag} : ∀ {ys : List Str} {us : List Value}, Vals (ys.map (cvV K)) us → us = ys.map (cvO K)
  | [], us, r => by cases r; rfl
  | y :: ys, us, r => by
    cases r with
    | cons r1 r2 => rw [cv_only r1, vals_cls r2]; rfl
theorem pe_isM {es : List Expr} {k : Nat} {ys : List Str} (E : ExcC X.K D) (hz : Zc (.ref D) none oe) (hf : ∃ vs, oe.data = .fields vs) (hg : Gl X "isinstance") (hm : X.mg "isinstance" = none) (hN : X.N[i]? = some nm) (hv : Vis X.env.scope nm) (hd : (nm == ("__debug__" : Str)) = false) (hc : (nm == ("__classdict__" : Str)) = false)
    (hy : clNs X es ys) (hl : ys.length ≤ 1000) (hk : PySem.W.kitAny X.K (.ref D) (ys.map (cvO X.K)) = some b) : PE (X.suite a ((a, oe) :: pn)) (.Call (.Name "isinstance" p) [.Name nm p2, .Tuple es k tpos] [] pos) (tIsM i a (ys.map (cvV X.K)) b) := by
  refine ⟨fun pins s σ H Q I h => ?_⟩
  refine wpAny_Call_Name_kw (ld_blt I hg hm PyProof.Rows.boot_isinstance ?_ (by decide) (by decide))
  refine PyProof.Rows.callWith_builtin1 ?_ (star_plain rfl) (stars_plain rfl)
  rw [star_plain rfl]
  show wpAny _ _ (spliced ((false, eval (.Name nm p2) X.env) :: backTo pos (starEach [.Tuple es k tpos] X.env))) _ _ s
  refine Calls.spliced_cons (thn ((pe_var (X := X.suite a ((a, oe) :: pn)) hN hv hd hc).run pins s σ H (fun v H' => v = .ref a ∧ H' = H) I ⟨.ref a, h.1, rfl, rfl⟩) fun u s1 ⟨x, H1, I1, r1, ex, eH⟩ => ?_)
  subst ex eH
  obtain rfl : u = Value.ref a := r1
  rw [star_plain rfl]
  show wpAny _ _ (spliced ((false, eval (.Tuple es k tpos) X.env) :: backTo pos (starEach [] X.env))) _ _ s1
  have hcl : clNs (X.suite a ((a, oe) :: pn)) es ys := by
    have : ∀ {es : List Expr} {ys : List Str}, clNs X es ys → clNs (X.suite a ((a, oe) :: pn)) es ys := fun {es} => by
      induction es with
      | nil => exact fun h => h
      | cons e es ih =>
        intro ys h
        cases ys with
        | nil => cases e <;> exact False.elim h
        | cons z ys =>
          cases e with
          | Name y q => exact ⟨h.1, h.2.1, ih h.2.2⟩
          | _ => exact False.elim h
    exact this hy
  refine Calls.spliced_cons (wpAny_Tuple_spliced (thn ((pa_cls hcl).run tpos pins s1 σ _ (fun vs H' => vs = ys.map (cvV X.K) ∧ H' = H1) I1 (tCls_run ⟨rfl, rfl⟩)) fun us s2 ⟨vs, H2, I2, r2, ey, eH⟩ => ?_))
  subst ey eH
  have eu := vals_cls r2
  subst eu
  have hsz : (ys.map (cvO X.K)).length ≤ sizeLine := by rw [List.length_map, sizeLine_eq]; omega
  refine ⟨hsz, ?_⟩
  have hf' := I2.hok.fresh (Nat.le_refl s2.heap.objs.size)
  have I3 := I2.laid (a := s2.heap.objs.size) (o := .tup (ys.map (cvV X.K))) (h' := s2.heap.push { cls := .type "tuple", data := .seq (ys.map (cvO X.K)).toArray }) (t' := s2.toks) (fun b u e => Heap.get?_push_of_some _ e) (Nat.le_refl _)
    ⟨by rw [List.length_map, sizeLine_eq]; omega, ys.map (cvO X.K), r2, ⟨_, Heap.get?_push_size _ rfl, rfl, _, rfl⟩⟩
  refine Calls.spliced_nil ?_
  obtain ⟨hget, _⟩ := I3.pin (a, oe) (List.mem_append.mpr (.inl List.mem_cons_self))
  obtain ⟨vs, hv2⟩ := hf
  have J : PySem.W.InstAt (s2.heap.push { cls := .type "tuple", data := .seq (ys.map (cvO X.K)).toArray }) a oe D none := by
    obtain ⟨oc, od, oda, osl⟩ := oe
    obtain ⟨h1, h2⟩ := hz
    dsimp only at h1 h2 hv2
    subst h1 h2 hv2
    exact ⟨hget, rfl, rfl, trivial⟩
  exact PySem.W.kia_tup (PySem.W.handS_kitx_exc E.hg E.hk E.hs E.hd E.ha E.hn E.ht E.hm) I3.kIn J (Heap.get?_push_size _ rfl) hk (fun z => nomatch z) fun tk => ⟨.bl b, _, I3.tok tk, rfl, h.2 _ hf'⟩
end
/-! ### as the core says it -/
/-- how a statement of the suite lands: behind it slot i still holds the error -/
def LandI (K : PySem.W.Frag) (i : Nat) (a : Addr) (β : List Addr) (H : Hp) (D : Ends) (ρ' : Env) (st' : Sto) : Prop :=
  ∀ β' H' σ', Ext β H β' H' → Sim K β' st' H' → EnvR K β' H' ρ' σ' → σ'[i]? = some (some (.ref a)) → D.nx σ' H'
def tStI (K : PySem.W.Frag) (i : Nat) (a : Addr) (C : Call) (n : Nat) (c : CS) : TS := fun D σ H =>
  ∃ β st ρ ρ' st', Sim K β st H ∧ EnvR K β H ρ σ ∧ σ[i]? = some (some (.ref a)) ∧ exS C n c ρ st = some (.nx, ρ', st') ∧ LandI K i a β H D ρ' st'
def tSsI (K : PySem.W.Frag) (i : Nat) (a : Addr) (C : Call) (n : Nat) (c : CSs) : TS := fun D σ H =>
  ∃ β st ρ ρ' st', Sim K β st H ∧ EnvR K β H ρ σ ∧ σ[i]? = some (some (.ref a)) ∧ exs C n c ρ st = some (.nx, ρ', st') ∧ LandI K i a β H D ρ' st'
theorem EnvR.non {K : PySem.W.Frag} {β : List Addr} {H : Hp} {ρ : Env} {σ : L2.St} (h : EnvR K β H ρ σ) {i : Nat} {v : Option V} : EnvR K β H (ρ.set i none) (σ.set i v) := by
  refine ⟨by simp [h.1], fun j e hj => ?_⟩
  by_cases hij : i = j
  · subst hij
    rw [List.getElem?_set] at hj
    simp at hj
  · rw [List.getElem?_set_ne hij] at hj ⊢
    exact h.2 j e hj
section
variable {X : Cx} {C : Call} {a : Addr} {i n : Nat} {ca : CE} {es : CEs} {e : Expr} {ls : List Expr} {pos : Pos}
theorem i_of (h : PE X e (tE X.K C ca)) : PE X e (tIx i a (tE X.K C ca)) := PE.imp h fun _ _ _ w => w.2
theorem i_one {c : Str} {cs : List Str} (h : PE X e (tIs i a (decide (c ∈ cs)))) : PE X e (tIx i a (tE X.K (exC C c) (.isx cs))) :=
  PE.imp h fun σ H Q ⟨h1, β, st, ρ, r, st', s, en, e, q⟩ => by
    simp only [ev, exC, if_true, Option.some.injEq, Prod.mk.injEq] at e
    obtain ⟨rfl, rfl⟩ := e
    exact ⟨h1, q _ β H Ext.refl s rfl⟩
theorem i_mny {c : Str} {cs : List Str} {vs : List V} (h : PE X e (tIsM i a vs (decide (c ∈ cs)))) : PE X e (tIx i a (tE X.K (exC C c) (.isx cs))) :=
  PE.imp h fun σ H Q ⟨h1, β, st, ρ, r, st', s, en, e, q⟩ => by
    simp only [ev, exC, if_true, Option.some.injEq, Prod.mk.injEq] at e
    obtain ⟨rfl, rfl⟩ := e
    exact ⟨h1, fun T hT => q _ β _ (Ext.new hT) (s.new hT) rfl⟩
theorem ia_nil : PA X [] (tIa i a (tA X.K C .nil)) := PA.imp a_nil fun _ _ _ w => w.2
theorem ir_nil : PA X [] (tIa i a (tR X.K C .nil)) := PA.imp r_nil fun _ _ _ w => w.2
theorem ia_cons (hp : plainE e = true) (ha : PE X e (tIx i a (tE X.K C ca))) (hr : PA X ls (tIa i a (tA X.K C es))) : PA X (e :: ls) (tIa i a (tA X.K C (.cons ca es))) :=
  PA.imp (pa_cons ha hr (star_plain hp)) fun σ H Q ⟨hi, β, st, ρ, r, st', s, en, e, q⟩ => by
    simp only [evA] at e
    split at e
    · cases e
    · rename_i x st1 e1
      split at e
      · cases e
      · rename_i ds st2 e2
        simp only [Option.some.injEq, Prod.mk.injEq] at e
        obtain ⟨rfl, rfl⟩ := e
        refine ⟨hi, seq1 s en e1 fun v β1 H1 x1 s1 r1 en1 => ⟨hi, ?_⟩⟩
        obtain ⟨β1', xm, sm, rm, g⟩ := mat_ok x1 s1 r1
        refine ⟨β1', (mat x st1).2, ρ, ds, st2, sm, en1.grow g, e2, fun vs β2 H2 x2 s2 r2 => ?_⟩
        exact q (v :: vs) β2 H2 (xm.trans x2 s2.nd) s2 ⟨v, vs, rfl, Rep.mono sm x2 _ _ rm, r2⟩
theorem ir_cons (hp : plainE e = true) (ha : PE X e (tIx i a (tE X.K C ca))) (hr : PA X ls (tIa i a (tR X.K C es))) : PA X (e :: ls) (tIa i a (tR X.K C (.cons ca es))) :=
  PA.imp (pa_cons ha hr (star_plain hp)) fun σ H Q ⟨hi, β, st, ρ, r, st', s, en, e, q⟩ => by
    simp only [evR] at e
    split at e
    · cases e
    · rename_i x st1 e1
      split at e
      · cases e
      · rename_i ds st2 e2
        simp only [Option.some.injEq, Prod.mk.injEq] at e
        obtain ⟨rfl, rfl⟩ := e
        refine ⟨hi, seq1 s en e1 fun v β1 H1 x1 s1 r1 en1 => ⟨hi, ?_⟩⟩
        refine ⟨β1, st1, ρ, ds, st2, s1, en1, e2, fun vs β2 H2 x2 s2 r2 => ?_⟩
        exact q (v :: vs) β2 H2 (x1.trans x2 s2.nd) s2 ⟨v, vs, rfl, r1.mono s1 x2 s2.nd, r2.back x1 x2⟩
theorem i_lst (h : PA X ls (tIa i a (tA X.K C es))) (hz : ls.length ≤ 1000) (hl : ∀ ρ st ds st', evA C es ρ st = some (ds, st') → ds.length = ls.length) : PE X (.List ls pos) (tIx i a (tE X.K C (.lst es))) :=
  PE.imp (pe_lst h) fun σ H Q ⟨hi, β, st, ρ, r, st', s, en, e, q⟩ => by
    simp only [ev, Option.map_eq_some_iff, Prod.mk.injEq] at e
    obtain ⟨⟨ds, st1⟩, e1, rfl, rfl⟩ := e
    refine ⟨hi, β, st, ρ, ds, st1, s, en, e1, fun vs β1 H1 x1 s1 r1 => ⟨?_, fun p hp => ?_⟩⟩
    · have := hl _ _ _ _ e1
      rw [← r1.length, this]
      exact Nat.le_trans hz (by rw [sizeLine_eq]; decide)
    · exact q _ β1 _ (x1.trans (Ext.new hp) s1.nd) (s1.new hp) ⟨p, vs, rfl, upd_same, s1.off hp, x1.free hp fun hm => s1.off hp (x1.mem hm), RepL.mono s1 (Ext.new hp) _ _ r1⟩
theorem tE_mono {K : PySem.W.Frag} {σ : L2.St} {H : Hp} {Q Q' : VK} (h : tE K C ca σ H Q) (i : ∀ v H, Q v H → Q' v H) : tE K C ca σ H Q' := by
  obtain ⟨β, st, ρ, r, st', s, en, e, q⟩ := h
  exact ⟨β, st, ρ, r, st', s, en, e, fun v β' H' x y z => i _ _ (q v β' H' x y z)⟩
theorem i_mt {l : Expr} {apos : Pos} {mt : MT} {T id : String} {kd : Kd} {name : Str} (pa : PlainAttrs T) (slot : Slot T name id) (hty : typeOf (.builtin id) = pure (.type "method_descriptor")) (hm : MtR X id (rMt X.K mt))
    (ty : ∀ {β : List Addr} {st : Sto} {H H0 : Hp} {x : RV} {v : V}, Sim X.K β st H → RRep X.K β H H0 x v → kdOf st x = kd → tyV X.K T v H) (hk : ∀ st x rs z, mtApp st mt x rs = some z → kdOf st x = kd)
    (ho : PE X l (tE X.K C ca)) (ha : PA X (e :: ls) (tIa i a (tR X.K C es))) (hr : recvOk l = true) (hp : (e :: ls).all plainE = true) (hlen : (e :: ls).length < 29) (hline : (apos.endLine == pos.line) = true) :
    PE X (.Call (.Attribute l name apos) (e :: ls) [] pos) (tIx i a (tE X.K C (.mt mt ca es))) :=
  PE.imp (pe_bm pa slot hty hm ho ha (base_of hr) (few_plain hp hlen) hline (star_plain (by rw [List.all_cons, Bool.and_eq_true] at hp; exact hp.1)) (stars_plain (by rw [List.all_cons, Bool.and_eq_true] at hp; exact hp.2))) fun σ H Q ⟨hi, w⟩ =>
    tE_mono (mt_in ty hk w) fun v H1 ⟨h1, h2⟩ => ⟨h1, hi, h2⟩
theorem is_asg {tg e : Expr} {t : Tgt} {a' : CE} {pos : Pos} (he : PE X e (tIx i a (tE X.K C a'))) (hg : PG X tg (tTg X.K t)) (hs : swapsWithSole [tg] e pos.line X.env = pure false) (hw : swappedStores [tg] e X.env = pure none)
    (h1 : (assignEach [tg] X.env).map (·.2) = [assign tg X.env]) (hi : i ∉ slotsT t) : PS X (.Assign [tg] e pos) (tStI X.K i a C n (.asg t a')) := PS.imp (ps_asg he hg hs hw h1) fun D σ H ⟨β, st, ρ, ρ', st', s, en, hia, e, l⟩ => by
  simp only [exS] at e
  split at e
  · cases e
  rename_i r st1 e1
  simp only [Option.map_eq_some_iff, Prod.mk.injEq] at e
  obtain ⟨ρ1, e2, _, rfl, rfl⟩ := e
  refine ⟨hia, seq1 s en e1 fun v β1 H1 x1 s1 r1 en1 => ?_⟩
  obtain ⟨β2, x2, s2, r2, _⟩ := mat_ok x1 s1 r1
  exact ⟨β2, _, ρ, ρ1, r2, en.mono s x2, e2, fun σ2 en2 oa => l β2 H1 σ2 x2 s2 en2 (by rw [oa.2 i hi]; exact hia)⟩
theorem is_expr {e : Expr} {a' : CE} {pos : Pos} (he : PE X e (tIx i a (tE X.K C a'))) (hs : swapsWith e none pos.line X.env = pure false) : PS X (.Expr e pos) (tStI X.K i a C n (.expr a')) := PS.imp (ps_expr he hs) fun D σ H ⟨β, st, ρ, ρ', st', s, en, hia, e, l⟩ => by
  simp only [exS] at e
  split at e
  · cases e
  rename_i r st1 e1
  simp only [Option.some.injEq, Prod.mk.injEq] at e
  obtain ⟨_, rfl, rfl⟩ := e
  exact ⟨hia, seq1 s en e1 fun v β1 H1 x1 s1 r1 en1 => l β1 H1 σ x1 s1 en1 hia⟩
theorem iss_nil : PSs X [] (tSsI X.K i a C n .nil) := PSs.imp pss_nil fun D σ H ⟨β, st, ρ, ρ', st', s, en, hia, e, l⟩ => by
  simp only [exs, Option.some.injEq, Prod.mk.injEq] at e
  obtain ⟨_, rfl, rfl⟩ := e
  exact l β H σ Ext.refl s en hia
theorem iss_cons {s : Stmt} {ss : List Stmt} {c : CS} {cs : CSs} (h : PS X s (tStI X.K i a C n c)) (hs : PSs X ss (tSsI X.K i a C n cs)) : PSs X (s :: ss) (tSsI X.K i a C n (.cons c cs)) := PSs.imp (pss_cons h hs) fun D σ H ⟨β, st, ρ, ρ', st', s, en, hia, e, l⟩ => by
  simp only [exs] at e
  split at e
  · rename_i ρ1 st1 e1
    exact ⟨β, st, ρ, ρ1, st1, s, en, hia, e1, fun β1 H1 σ1 x1 s1 en1 hi1 => ⟨β1, st1, ρ1, ρ', st', s1, en1, hi1, e, fun β2 H2 σ2 x2 s2 en2 hi2 => l β2 H2 σ2 (x1.trans x2 s2.nd) s2 en2 hi2⟩⟩
  · rename_i hn
    exact (hn _ _ e).elim
end
section
variable {X : Cx} {C : Call} {W : WX} {n i : Nat} {c nm : Str} {pos pos' : Pos}
theorem s_tryas {body suite : List Stmt} {b₀ : Stmt} {np : Pos} {bd h : CSs} {cs : List Str} (hs : X.stack = X.env :: X.outer) (hf : X.env.frame = some X.env.locals) (hN : X.N.Nodup) (hi : X.N[i]? = some nm) (hln : X.env.kindOf nm = some .local) (tk : Takes X W) (hg : Gl X c) (hdb : (c == ("__debug__" : Str)) = false) (hm : X.mg c = some (.ref (He.ga X.K c)))
    (hcs : ∀ y ∈ cs, PySem.W.exmOne X.K (.ref (He.ga X.K y)) (.ref (He.ga X.K c)) = some true)
    (hb : ∀ (W' : WX) (pn : List (Addr × Obj)) (xe : Value → Shared → Prop), Takes (X.tr pn xe) W' → PassesOwn (model X.prog X.w) X.A X.env xe → PSs (X.tr pn xe) body (tSs X.K W' C n bd))
    (hsu : ∀ (a : Addr) (oe : Obj) (pn : List (Addr × Obj)) (y : Str), y ∈ cs → Zc (.ref (He.ga X.K y)) none oe → (∃ vs, oe.data = .fields vs) → PSs (X.suite a ((a, oe) :: pn)) (b₀ :: suite) (tSsI X.K i a (exC C y) n h)) :
    PS X (.Try body [.ExceptHandler (some (.Name c np)) (some nm) (b₀ :: suite) pos'] [] [] pos) (tSt X.K W C n (.tryas bd c cs i h)) :=
  PS.imp (ps_try_as (tb := fun W' => tSs X.K W' C n bd) (ts := fun a cls d => fun D σ H => ∃ y, y ∈ cs ∧ cls = .ref (He.ga X.K y) ∧ d = none ∧ tSsI X.K i a (exC C y) n h D σ H) hs hf hN hi hln ⟨hg, hdb, .inl hm⟩ tk hb fun a oe cls d pn hz hv => ⟨fun pins s σ H D I ⟨y, h1, h2, h3, h4⟩ => by
      subst h2 h3
      exact (hsu a oe pn y h1 hz hv).run pins s σ H D I h4⟩) fun D σ H ⟨β, st, ρ, fl, ρ', st', s, en, e, l⟩ => by
    simp only [exS] at e
    split at e
    · rename_i c1 σ1 st1 e1
      split at e
      case isFalse => cases e
      rename_i hmem
      obtain ⟨hmem, hlt⟩ := hmem
      split at e
      case h_2 => cases e
      rename_i σ2 st2 e2
      simp only [Option.some.injEq, Prod.mk.injEq] at e
      obtain ⟨rfl, rfl, rfl⟩ := e
      refine ⟨β, st, ρ, .ex c1, σ1, st1, s, en, e1, fun β1 H1 x1 s1 σ3 en3 => ⟨true, hcs _ hmem, fun _ a _ => ?_, fun z => by cases z⟩⟩
      refine ⟨c1, hmem, rfl, rfl, β1, st1, σ1.set i none, σ2, st2, s1, en3.non, ?_, e2, fun β2 H2 σ4 x2 s2 en4 _ => ?_⟩
      · rw [List.getElem?_set_self (by rw [← en3.1]; exact hlt)]
      · exact l β2 H2 (x1.trans x2 s2.nd) s2 (σ4.set i none) en4.non
    · rename_i hn
      refine ⟨β, st, ρ, fl, ρ', st', s, en, e, fun β1 H1 x1 s1 => ?_⟩
      cases fl with
      | ex c => exact (hn _ _ _ e).elim
      | nx => exact l β1 H1 x1 s1
      | rt d => exact l β1 H1 x1 s1
      | bk => exact l β1 H1 x1 s1
      | ct => exact l β1 H1 x1 s1
end
/-! ### what is asked of an error -/
structure Ix where
  /-- classes of errors that a suite may hold -/
  ie : List Str := []
  /-- classes named -/
  iy : List Str := []
  i1 : List (Str × Str × Bool) := []
  im : List (Str × List Str × Bool) := []
structure IxOk (K : PySem.W.Frag) (mg : Str → Option Value) (x : Ix) : Prop where
  ie : ∀ c, c ∈ x.ie → ExcC K (He.ga K c)
  iy : ∀ y, y ∈ x.iy → if y = "ValueError" then mg y = none else mg y = some (.ref (He.ga K y))
  i1 : ∀ p, p ∈ x.i1 → PySem.W.kitOne K (.ref (He.ga K p.1)) (cvO K p.2.1) = some p.2.2
  im : ∀ p, p ∈ x.im → PySem.W.kitAny K (.ref (He.ga K p.1)) (p.2.1.map (cvO K)) = some p.2.2
def eieB (K : PySem.W.Frag) (D : Addr) : Bool :=
  He.eqO (PySem.W.findIn K (.ref D) "__getattribute__") (some (some (.builtin "BaseException.__getattribute__"))) && (He.eqO (PySem.W.findIn K (.ref D) "__getattr__") (some none) &&
  (decide (PySem.W.subIn K (.ref D) (.type "BaseException") = some true) && (PySem.W.hasDictIn K D && (He.eqO (PySem.W.findIn K (.ref D) "__class__") (some (some (.builtin "object.__class__"))) &&
  (He.eqO (PySem.W.specialIn K (.builtin "object.__class__") "__get__") (some (some (.builtin "getset_descriptor.__get__"))) && (decide (PySem.W.takesIn K (.builtin "object.__class__") = some true) && decide (PySem.W.mroIn K D (.type "object") = some true)))))))
def ixB (x : Ix) (K : PySem.W.Frag) : Bool :=
  x.ie.all (fun c => eieB K (He.ga K c)) && (x.iy.all (fun y => if y = "ValueError" then He.eqO (PySem.W.nsIn K mainGlobals y) (some none) else He.eqO (PySem.W.nsIn K mainGlobals y) (some (some (.ref (He.ga K y))))) &&
  (x.i1.all (fun p => decide (PySem.W.kitOne K (.ref (He.ga K p.1)) (cvO K p.2.1) = some p.2.2)) && x.im.all (fun p => decide (PySem.W.kitAny K (.ref (He.ga K p.1)) (p.2.1.map (cvO K)) = some p.2.2))))
theorem ixB_ok {K : PySem.W.Frag} {h : Heap} {mg : Str → Option Value} {x : Ix} (X : K.In h) (G : h.Ns mainGlobals mg) (c : ixB x K = true) : IxOk K mg x := by
  simp only [ixB, Bool.and_eq_true, List.all_eq_true, decide_eq_true_eq] at c
  obtain ⟨c1, c2, c3, c4⟩ := c
  refine ⟨fun y hy => ?_, fun y hy => ?_, c3, c4⟩
  · have := c1 y hy
    simp only [eieB, Bool.and_eq_true, decide_eq_true_eq] at this
    obtain ⟨h1, h2, h3, h4, h5, h6, h7, h8⟩ := this
    exact ⟨He.eqO_ok h1, He.eqO_ok h2, h3, h4, He.eqO_ok h5, He.eqO_ok h6, h7, h8⟩
  · have := c2 y hy
    split at this
    · rename_i hv
      rw [if_pos hv]
      exact PySem.W.mg_none_of X G (He.eqO_ok this)
    · rename_i hv
      rw [if_neg hv]
      exact PySem.W.mg_of X G (He.eqO_ok this)
end Mw

set_option Elab.async false
set_option linter.all false
set_option autoImplicit false
set_option maxRecDepth 100000
/-! PyC16: sorted(xs, key=lambda y: y[k]). -/
namespace Mw
open PySem PySem.Spec PyProof.Rows L2
variable [Tbs]
def scB (N ps : List Str) (sc : Scope) : Bool :=
  (decide (sc.kind = .function) && (!sc.isCoroutine && !sc.isGenerator)) && (decide N.Nodup && (decide (N.take ps.length = ps) && ((ps.all fun x => decide (sc.names.lookup x = some .local) || decide (sc.names.lookup x = some .cell)) && sc.names.all fun y => decide (y.2 ≠ .free))))
theorem scB_ok {N ps : List Str} {sc : Scope} (h : scB N ps sc = true) : FnScope N ps sc := by
  simp only [scB, Bool.and_eq_true, decide_eq_true_eq, Bool.not_eq_true', List.all_eq_true, Bool.or_eq_true] at h
  obtain ⟨⟨h1, h2, h3⟩, h4, h5, h6, h7⟩ := h
  exact ⟨h1, h2, h3, h4, h5, h6, h7⟩
/-- how a lambda of one parameter binds -/
theorem bind_lam {qual : Str} {ar : Arg} {body : Expr} {scope : Scope} {pm cdv ct : Value} {u : Value} :
    bindArgs (PySem.W.kla_fn "<lambda>" qual ⟨[], [ar], none, [], [], none, []⟩ body scope [] pm cdv ct) ⟨[u], []⟩ = pure [(ar.arg, u)] := by
  unfold bindArgs
  have hd : seqItems? (PySem.W.kla_fn "<lambda>" qual ⟨[], [ar], none, [], [], none, []⟩ body scope [] pm cdv ct).defaults = pure none := by rfl
  have hp : (PySem.W.kla_fn "<lambda>" qual ⟨[], [ar], none, [], [], none, []⟩ body scope [] pm cdv ct).params = ⟨[], [ar], none, [], [], none, []⟩ := rfl
  simp only [hd, hp, List.map_nil, List.nil_append, pure_bind, List.append_nil, List.forIn_nil]
  simp
/-- the lambda's object -/
abbrev lamO (q : Str) (ar : Arg) (body : Expr) (scope : Scope) (pm : Value) (c' : Addr) (ctv : Value) : Obj := PySem.W.kla_obj "<lambda>" q ⟨[], [ar], none, [], [], none, []⟩ body scope [] pm c' ctv
/-- a lambda's call -/
theorem lam_call {P : Program} {w : World} {K : PySem.W.Frag} {mg : Str → Option Value} {base : Heap} {A : Around} {out : List PySem.Env} {s : Shared} {H : Hp} {f c' : Addr} {q : Str} {ar : Arg} {body : Expr} {scope : Scope} {pm ctv u : Value} {z : V} {Q : VK} {E : XK}
    (hdp : A.depth < recursionLimit) (hdn : A.handled = none) (e0 : Env0 P w K mg base A out s H) (ho : s.heap.get? f = some (lamO q ar body scope pm c' ctv)) (hc : H c' = some (LamX.CodeO c' q)) (S : FnScope [ar.arg] [ar.arg] scope) (r : RelV z u)
    (hbody : ∃ t, PE (cxOf (L2.CX P w) P w K mg base [ar.arg] q scope f (.ref c') A out s H E) body t ∧ t (start [ar.arg] [z]) H Q) :
    codeAny (model P w) A (.call (.ref f) ⟨[u], []⟩) (CR (L2.CX P w) out P w H s Q E) s := by
  obtain ⟨⟨oc, vs, t, hoc, hdc, hvc⟩, _, _⟩ := e0.hok c' _ hc
  have lim : s.heap.NoLimit := e0.mod.nolimit.keeps fun b o z => (e0.bs b o z).1
  refine PySem.W.kla_callFunE hdp ho rfl S.co S.gen rfl ⟨c', oc, vs, t, rfl, hoc, hdc, hvc⟩ ?_
  rw [bind_lam]
  have hkd : ∀ y ∈ [(ar.arg, u)], scope.names.lookup y.1 = some .local ∨ (scope.names.lookup y.1 = some .cell ∧ ((cellsFrom (s.heap.objs.size + 1) scope.names []).lookup y.1).isSome = true) := by
    rintro ⟨n, v⟩ hz
    obtain ⟨rfl, rfl⟩ : n = ar.arg ∧ v = u := by simpa using hz
    exact (S.par ar.arg (by simp)).imp id fun q => ⟨q, PySem.W.cellsFrom_some _ _ _ (.inl q)⟩
  refine wpAny_pure (wpAny_newFunctionEnv_cells S.kind hkd fun env he s1 x => ?_)
  subst he
  refine ⟨lim.keeps x.toInCall.keep, ?_⟩
  obtain ⟨t, ht, hq⟩ := hbody
  have I : Inv (cxOf (L2.CX P w) P w K mg base [ar.arg] q scope f (.ref c') A out s H E) [] (start [ar.arg] [z]) H s1 := inv_start S hdn e0 (us := [u]) rfl (.cons r .nil) x
  refine PySem.W.kla_codeExpr (wpAny_mono (ht.run [] s1 (start [ar.arg] [z]) H _ I hq) (fun v s' hs => ?_) fun _ _ z => z)
  obtain ⟨v', H', J, rv, q⟩ := hs
  exact ⟨v', H', J.os, J.bare, J.base, J.hok, rv, q⟩
section
variable {X : Cx} {pins : List (Addr × Obj)} {σ : L2.St} {H : Hp} {s : Shared}
/-- a lambda is made: its object is new, and nothing but the table is others -/
theorem lam_new {c P : Addr} {ar : Arg} {body : Expr} {scope : Scope} {pos : Pos} {E : Value → Shared → Prop} {Q : Value → Shared → Prop} (I : Inv X pins σ H s) (B : LamX.TabB X.base X.mg c P) (hcode : X.env.code = .ref c) (nofree : ∀ y ∈ scope.names, y.2 ≠ .free)
    (mem : (P, X.env.qual ++ "<lambda>") ∈ Tbs.T) (only : ∀ p ∈ Tbs.T, p.1 = P → p.2 = X.env.qual ++ "<lambda>") (hT : LamX.Tabs Tbs.T H)
    (q : ∀ (f c' : Addr) (pm ctv : Value) (H1 : Hp) (s' : Shared), Inv X ((f, lamO (X.env.qual ++ "<lambda>") ar body scope pm c' ctv) :: pins) σ H1 s' → LamX.ExtN H H1 → LamX.Tabs Tbs.T H1 → (∀ b, H1 b = none → H b = none) → H1 c' = some (LamX.CodeO c' (X.env.qual ++ "<lambda>")) → Q (.ref f) s') :
    wpAny (model X.prog X.w) X.A (eval (.Lambda ⟨[], [ar], none, [], [], none, []⟩ body scope pos) X.env) Q E s := by
  have hcl : closureFor scope X.env = pure [] := by
    have e := closure_ok (scope := scope) (env := X.env) fun y hy hf => absurd hf (nofree y hy)
    have e2 : cloFrom X.env.cells scope.names [] = [] := by
      cases e3 : cloFrom X.env.cells scope.names [] with
      | nil => rfl
      | cons a l =>
        rcases cloFrom_mem (show (a.1, a.2) ∈ cloFrom X.env.cells scope.names [] by rw [e3]; simp) with z | ⟨z, _⟩
        · cases z
        · exact absurd rfl (nofree _ z)
    rw [e, e2]
  obtain ⟨ps, hP, trip, known⟩ := hT _ mem
  refine PySem.W.kla_eval rfl ?_
  have tabNow := I.hok P _ hP
  have bNow := B.bm.keeps I.bk
  have cNow := B.code.keeps I.bk
  have gNow := I.mod.glob.keeps I.bk
  -- what is new may be pinned
  have pinOk : ∀ (H1 : Hp) (s' : Shared) (f c' : Addr) (pm ctv : Value), Inv X pins σ H1 s' → s.heap.objs.size ≤ f → s'.heap.get? f = some (lamO (X.env.qual ++ "<lambda>") ar body scope pm c' ctv) → H1 f = none → Inv X ((f, lamO (X.env.qual ++ "<lambda>") ar body scope pm c' ctv) :: pins) σ H1 s' := by
    intro H1 s' f c' pm ctv J hf hget hno
    refine J.pins_of fun p hp => ?_
    rcases List.mem_cons.mp hp with z | z
    · subst z
      exact ⟨hget, hno, Nat.ne_of_gt (Nat.lt_of_lt_of_le I.lt hf), I.nofs hf, fun v z => nomatch z⟩
    · exact J.pin p (List.mem_append_right _ z)
  cases hit : codeAmong pos ps.toList with
  | some cv =>
    obtain ⟨c1, rfl, hco⟩ := known pos cv hit
    refine PySem.W.kla_makeFunctionHit (mg := X.mg) hcl I.ok.glob gNow hcode cNow tabNow trip hit bNow fun ctv h' tk grow hsz => ?_
    have J : Inv X pins σ H { s with heap := h'.push (lamO (X.env.qual ++ "<lambda>") ar body scope ((X.mg "__name__").getD .none) c1 ctv), toks := tk } := I.kept fun b o e => Heap.get?_push_of_some _ (grow b o e)
    exact q h'.objs.size c1 _ ctv H _ (pinOk H _ _ c1 _ ctv J hsz (Heap.get?_push_size _ rfl) (I.hok.fresh hsz)) (LamX.ExtN.refl H) hT (fun _ z => z) hco
  | none =>
    refine PySem.W.kla_makeFunction (mg := X.mg) hcl I.ok.glob gNow hcode cNow tabNow trip hit B.gP bNow fun c1 ctv h' tk grow hge hlt hrec htb => ?_
    obtain ⟨c2, oc, vs, t, z, hoc, hd, hv⟩ := hrec
    cases z
    have hsz : s.heap.objs.size ≤ h'.objs.size := Nat.le_of_lt (Nat.lt_of_le_of_lt hge hlt)
    have free1 : H c1 = none := I.hok.fresh hge
    have neP : P ≠ c1 := ne_of_none hP free1
    obtain ⟨H1, eH1⟩ : ∃ H1, H1 = upd (upd H P (.tbl (ps ++ #[rawInt pos.line, rawInt pos.col, .ref c1]))) c1 (LamX.CodeO c1 (X.env.qual ++ "<lambda>")) := ⟨_, rfl⟩
    have J := LamX.inv_table (t' := tk) (more := #[rawInt pos.line, rawInt pos.col, .ref c1]) (q := X.env.qual ++ "<lambda>") (c := c1) (h' := h'.push (lamO (X.env.qual ++ "<lambda>") ar body scope ((X.mg "__name__").getD .none) c1 ctv)) I hP (fun b o hb e => Heap.get?_push_of_some _ (grow b o hb e))
      (Heap.get?_push_of_some _ htb) hge ⟨oc, vs, t, Heap.get?_push_of_some _ hoc, hd, hv⟩
    rw [← eH1] at J
    have other : ∀ b, b ≠ P → b ≠ c1 → H1 b = H b := fun b n1 n2 => by rw [eH1, upd_ne n2, upd_ne n1]
    have atP : H1 P = some (.tbl (ps ++ #[rawInt pos.line, rawInt pos.col, .ref c1])) := by rw [eH1, upd_ne neP, upd_same]
    have atC : H1 c1 = some (LamX.CodeO c1 (X.env.qual ++ "<lambda>")) := by rw [eH1, upd_same]
    have stay : LamX.ExtN H H1 := fun b o e n => by
      rw [other b (fun z => n ps (Option.some.inj (e.symm.trans (by rw [z]; exact hP)))) (ne_of_none e free1)]
      exact e
    have lst : (ps ++ #[rawInt pos.line, rawInt pos.col, .ref c1]).toList = ps.toList ++ [rawInt pos.line, rawInt pos.col, .ref c1] := by simp
    have tabs : LamX.Tabs Tbs.T H1 := by
      intro p hp
      by_cases hb : p.1 = P
      · rw [only p hp hb, hb]
        refine ⟨_, atP, by rw [lst]; exact PySem.TriplesOk_snoc _ _ _ _ trip, fun p' cv hcv => ?_⟩
        rw [lst] at hcv
        rcases LamX.among_app _ trip hcv with z | z
        · obtain ⟨c0, y1, y2⟩ := known p' cv z
          exact ⟨c0, y1, stay _ _ y2 LamX.codeO_ne⟩
        · exact ⟨c1, z, atC⟩
      · obtain ⟨ps', y1, y2, y3⟩ := hT p hp
        refine ⟨ps', by rw [other _ hb (ne_of_none y1 free1)]; exact y1, y2, fun p' cv hcv => ?_⟩
        obtain ⟨c0, w1, w2⟩ := y3 p' cv hcv
        exact ⟨c0, w1, stay _ _ w2 LamX.codeO_ne⟩
    have noneF : H1 h'.objs.size = none := by
      rw [other _ (Nat.ne_of_gt (Nat.lt_of_lt_of_le (Heap.lt_size tabNow) hsz)) (Nat.ne_of_gt hlt)]
      exact I.hok.fresh hsz
    refine q h'.objs.size c1 _ ctv H1 _ (pinOk H1 _ _ c1 _ ctv J hsz (Heap.get?_push_size _ rfl) noneF) stay tabs (fun b z => ?_) atC
    by_cases h1 : b = P
    · rw [h1, atP] at z; cases z
    · by_cases h2 : b = c1
      · rw [h2]; exact free1
      · rw [other b h1 h2] at z; exact z
end
section
variable {X : Cx} {C : Call}
theorem keysI_at {k : Nat} {xs : List D} : ∀ {ks : List Int}, keysI k xs = some ks → ks.length = xs.length ∧ ∀ (i : Nat) (d : D) (j : Int), xs[i]? = some d → ks[i]? = some j → ∃ ys, d = .tup ys ∧ ys[k]? = some (.int j) := by
  induction xs with
  | nil =>
    intro ks h
    simp only [keysI, Option.some.injEq] at h
    subst h
    exact ⟨rfl, fun i d k h => by simp at h⟩
  | cons x xs ih =>
    intro ks h
    simp only [keysI] at h
    split at h
    · rename_i ys
      split at h
      · rename_i j0 hj
        obtain ⟨ks', h', rfl⟩ := Option.map_eq_some_iff.mp h
        obtain ⟨h1, h2⟩ := ih h'
        refine ⟨by simp [h1], fun i d k hd hk => ?_⟩
        cases i with
        | zero =>
          simp only [List.getElem?_cons_zero, Option.some.injEq] at hd hk
          subst hd; subst hk
          exact ⟨ys, rfl, hj⟩
        | succ i =>
          simp only [List.getElem?_cons_succ] at hd hk
          exact h2 i d k hd hk
      · cases h
    · cases h
/-- a text within which lambdas are made: the code object's table is told of -/
def LamOk (X : Cx) : Prop := X.A.units + 100 < cLine ∧ X.A.depth < recursionLimit ∧ ∃ c P, X.env.code = .ref c ∧ LamX.TabB X.base X.mg c P ∧ (P, X.env.qual ++ "<lambda>") ∈ Tbs.T ∧ ∀ p ∈ Tbs.T, p.1 = P → p.2 = X.env.qual ++ "<lambda>"
theorem atI_some {α : Type} {xs : List α} {k : Nat} {x : α} (h : xs[k]? = some x) : L2.atI xs (k : Int) = some x := L2.atI_nat h
theorem e_sri {k : Nat} {e : Expr} {a : CE} {ar : Arg} {scope : Scope} {p p1 p2 p3 p4 kp pos : Pos} {j : Nat} {ky : Str} (hky : ky = "key") (hc : X.calm = true) (L : LamOk X) (hS : FnScope [ar.arg] [ar.arg] scope) (n1 : (ar.arg == ("__debug__" : Str)) = false) (n2 : (ar.arg == ("__classdict__" : Str)) = false)
    (hg : Gl X "sorted") (hm : X.mg "sorted" = none) (hpl : plainE e = true) (ha : PE X e (tE X.K C a)) :
    PE X (.Call (.Name "sorted" p) [e] [⟨some ky, .Lambda ⟨[], [ar], none, [], [], none, []⟩ (.Subscript (.Name ar.arg p1) (.Constant (.int k) j p2) p3) scope p4, kp⟩] pos) (tE X.K C (.sri k a)) := by
  subst hky
  obtain ⟨hu, hd, L⟩ := L
  have hs : backTo pos (starEach [e] X.env) = (false, eval e X.env) :: backTo pos (starEach [] X.env) := by rw [star_plain hpl]; rfl
  have hs2 : (backTo pos (starEach [e] X.env)).any (·.1) = false := stars_plain (by simp [hpl])
  refine ⟨fun pins s σ H Q I ⟨β, st, ρ, r, st', sm, en, h, q⟩ => ?_⟩
  simp only [ev] at h
  split at h
  · cases h
  rename_i z st1 e1
  simp only [Option.map_eq_some_iff, Prod.mk.injEq] at h
  obtain ⟨w, e3, rfl, rfl⟩ := h
  unfold sriApp at e3
  split at e3
  rotate_left
  · cases e3
  rename_i sv e4
  split at e3
  rotate_left
  · cases e3
  rename_i ks e5
  split at e3
  rotate_left
  · cases e3
  rename_i hsz
  simp only [Option.some.injEq] at e3
  subst e3
  have hsz := szOk_le hsz
  refine wpAny_Call_Name_kw (ld_blt I hg hm boot_sorted ?_ (by decide) (by decide))
  have ha2 : PA X [e] (tCons (tE X.K C a) tNil) := pa_cons ha pa_nil (star_plain hpl)
  refine PyProof.Rows.callWith_kw (thn (ha2.run pos pins s σ H (fun vs H1 => ∃ v, vs = [v] ∧ ∃ β1, Ext β H β1 H1 ∧ Sim X.K β1 st1 H1 ∧ RRep X.K β1 H1 H z v) I ?_) fun us s1 ⟨vs, H1, I1, r1, v, e2, β1, x1, s1m, rv⟩ => ?_) hs hs2 (by rfl) (by rfl)
  · exact seq1 sm en e1 fun v β1 H1 x1 s1 r1 en1 => ⟨v, rfl, β1, x1, s1, r1⟩
  subst e2
  obtain ⟨c, P, hcode, B, mem, only⟩ := L
  show wpAny _ _ (evalAll ((do let v ← eval (.Lambda ⟨[], [ar], none, [], [], none, []⟩ (.Subscript (.Name ar.arg p1) (.Constant (.int k) j p2) p3) scope p4) X.env; standAt pos; pure v) :: [])) _ _ s1
  refine wpAny_evalAll_cons (wpAny_bind (lam_new I1 B hcode hS.nofree mem only s1m.tab fun f c' pm ctv H2 s2 I2 stay tabs nn hco => wpAny_bind (wpAny_standAt (wpAny_pure (wpAny_evalAll_nil ?_)))))
  -- what the store says of the heap with the table's new row
  have x2 : Ext β1 H1 β1 H2 := ⟨⟨[], by simp⟩, ⟨fun b o hb _ nt => stay b o hb nt⟩, fun b o u hb => stay b _ hb (fun _ z => nomatch z), fun b hb _ => nn b hb, fun _ => tabs⟩
  have s2m : Sim X.K β1 st1 H2 := s1m.out x2 fun b hb => by
    rcases s1m.held hb with ⟨vs, e⟩ | ⟨ks, e⟩ | ⟨o, ks, e⟩ | ⟨ks, e⟩ | ⟨o, ks, e⟩ | ⟨_, _, _, e⟩ <;> rw [e] <;> exact stay b _ e (fun _ z => nomatch z)
  have rv2 := RRep.mono s1m x2 s2m.nd rv
  obtain ⟨_, av, xs, rfl, hsq, hrep, _⟩ := seqSrc s2m rv2 e4
  obtain ⟨its, rvs, co, hlen⟩ := sq_inv I2 hsq
  obtain rfl := Vals.ref1 r1
  obtain ⟨k1, k2⟩ := keysI_at e5
  have hxl : sv.xs.length = xs.length := RepL.length hrep
  have hil : xs.length = its.length := rvs.length
  show wpAny _ _ (call (.builtin "sorted") [.ref av] [(Str.ofString "key", .ref f)]) _ _ s2
  refine sorted_keyI (W := fun H3 => ∃ β3, Ext β H β3 H3 ∧ Ext β1 H2 β3 H3 ∧ Sim X.K β3 st1 H3) ⟨β1, x1.trans x2 s2m.nd, .refl, s2m⟩ I2 (ws := its) (ks := ks) (b := false) (f := .ref f) (coK_seq co) (by omega) (by omega) (by omega) (ksk_s1 _ _) (fun _ => ksk_l1 _ _) (fun x => ksk_t1 f x) (fun i u k0 hi hk H3 s3 hW3 I3 => ?_) fun pp H3 s3 out cc hW3 I3 f3 n3 ko => ?_
  · obtain ⟨β3, x3, x23, sim3⟩ := hW3
    have hil2 := (List.getElem?_eq_some_iff.mp hi).1
    obtain ⟨d, hd⟩ : ∃ d, sv.xs[i]? = some d := ⟨_, List.getElem?_eq_getElem (by omega)⟩
    obtain ⟨zz, hz1, hz2⟩ := RepL.at hrep hd
    obtain ⟨u', hu1, hu2⟩ := rvs.get hz1
    rw [hi] at hu1
    cases hu1
    obtain ⟨ys, rfl, hys⟩ := k2 i d k0 hd hk
    have rz : Rep X.K β3 H3 (.tup ys) zz := Rep.mono s2m x23 _ _ hz2
    have hco3 : H3 c' = some (LamX.CodeO c' (X.env.qual ++ "<lambda>")) := x23.keep.get hco (fun hm => by
      rcases s2m.held hm with ⟨vs, e⟩ | ⟨ks, e⟩ | ⟨o, ks, e⟩ | ⟨ks, e⟩ | ⟨o, ks, e⟩ | ⟨_, _, _, e⟩ <;> (rw [hco] at e; exact nomatch e)) LamX.codeO_ne
    have hobj := (I3.pin _ (List.mem_append_right _ (List.mem_cons_self ..))).1
    refine wpAny_call (codeAny_mono (lam_call (Q := fun v H' => v = .int k0 ∧ ∃ β4, Ext β H β4 H' ∧ Ext β1 H2 β4 H' ∧ Sim X.K β4 st1 H') (E := E0) (by show X.A.depth < _; omega) (I.ok.hd hc) I3.env0.in1.in1 hobj hco3 hS hu2 ⟨tE X.K C (.idx (.var 0) (.cst (.int k))), e_idx (by show X.A.units + 1 + 1 + 3 + 65 < _; omega) rfl (e_var (x := ar.arg) rfl ((hS.par ar.arg (by simp)).imp id .inl) n1 n2) (e_cst pe_int fun _ _ => rfl), ?_⟩) fun a' b' c'' => ?_)
    · refine ⟨β3, st1, [some (.tup ys)], .val (.int k0), st1, sim3, ⟨by simp [L2.start], fun i d hi => ?_⟩, ?_, fun v β4 H4 x4 s4 r4 => ⟨r4, β4, x3.trans x4 s4.nd, x23.trans x4 s4.nd, s4⟩⟩
      · cases i with
        | zero =>
          simp only [List.getElem?_cons_zero, Option.some.injEq] at hi
          subst hi
          exact ⟨zz, by simp [L2.start], rz⟩
        | succ i => simp at hi
      · simp [ev, idxApp, atI_some hys]
    · rcases a' with e | a'
      · obtain ⟨_, _, _, _, _, _, _, _, _, _, _, _, z⟩ := (show L2.CX X.prog X.w X.stack H3 s3 E0 e b' from c''); exact z.elim
      · cases a' with
        | ret u' =>
          obtain ⟨v, H', os, bare, un, hok, rv', hv, hw⟩ := (show L2.CE X.stack X.prog X.w H3 s3 _ u' b' from c'')
          subst hv
          exact ⟨H', rv', hw, os, bare, un, hok⟩
        | next | brk | cont => exact c''.elim
  · obtain ⟨β3, x3, x23, sim3⟩ := hW3
    have hE := each_zip k1 (each_rep rvs hrep)
    have hmm : (sv.xs.zip ks).map (fun p : D × Int => PyData.int p.2) = ks.map PyData.int := by
      have e : (sv.xs.zip ks).map (·.2) = ks := List.map_snd_zip (by omega)
      have e' : (sv.xs.zip ks).map (fun p : D × Int => PyData.int p.2) = ((sv.xs.zip ks).map (·.2)).map PyData.int := by rw [List.map_map]; rfl
      rw [e', e]
    rw [← hmm] at ko
    have hO := each_fst (PySem.W.keyedOut_each (fun p : D × Int => PyData.int p.2) ko hE)
    rw [srtD_eq] at hO
    obtain ⟨ys, v1, v2⟩ := rep_each hO
    have hol : ys.length ≤ sizeLine := by
      rw [← RepL.length v2]
      unfold srtD
      rw [List.length_map, List.length_mergeSort, List.length_zip]
      omega
    have I4 : Inv X pins σ H3 s3 := I3.pins_of fun p hp => I3.pin p (by
      rcases List.mem_append.mp (show p ∈ X.pn ++ pins from List.mem_append_right _ hp) with y | y
      · exact List.mem_append_left _ y
      · exact List.mem_append_right _ (List.mem_cons_of_mem _ y))
    have f4 : FpOk X pins H3 pp := ⟨f3.1, f3.2.1, f3.2.2.1, f3.2.2.2.1, f3.2.2.2.2.1, fun p hp => f3.2.2.2.2.2 p (by
      rcases List.mem_append.mp hp with y | y
      · exact List.mem_append_left _ y
      · exact List.mem_append_right _ (List.mem_cons_of_mem _ y))⟩
    refine ⟨.ref pp, upd H3 pp (.lst ys), I4.take (t' := s3.toks) (fun _ _ _ z => z) f4 ⟨hol, out, cc, v1, n3⟩, rfl, ?_⟩
    have ry := RepL.mono s2m x23 _ _ v2
    exact q _ β3 _ (x3.trans (Ext.new f3.1) sim3.nd) (sim3.new f3.1) ⟨pp, ys, rfl, upd_same, sim3.off f3.1, x3.free f3.1 fun hm => sim3.off f3.1 (x3.mem hm), RepL.mono sim3 (Ext.new f3.1) _ _ ry⟩
end
end Mw

set_option Elab.async false
set_option linter.all false
set_option autoImplicit false
set_option maxRecDepth 100000
/-! PyDd: a display {k: v} with a row of whole numbers as key. -/
namespace Mw
open PySem PySem.Spec PyProof.Rows L2
variable [Tbs]
section
variable {X : Cx} {pos : Pos}
def tDisT (tk tv : TE) : TE := fun σ H Q => ∀ p, H p = none → tk σ (upd H p (.dT [])) fun x H1 => tv σ H1 fun y H2 => H2 p = some (.dT []) ∧
  ∃ (k : List Key) (b : Addr), x = .ref b ∧ H2 b = some (.tup (k.map kV)) ∧ Q (.ref p) (upd H2 p (.dT [(k, y)]))
theorem pe_disT {l r : Expr} {tk tv : TE} (hu : X.A.units + 1 < cLine) (ha : PE X l tk) (hb : PE X r tv) : PE X (.Dict [some l] [r] pos) (tDisT tk tv) := by
  refine ⟨fun pins s σ H Q I q => ?_⟩
  have hn := I.hok.fresh (Nat.le_refl s.heap.objs.size)
  have I1 := I.laid (a := s.heap.objs.size) (o := .dT []) (h' := s.heap.push { cls := .type "dict", data := .dict #[] }) (t' := s.toks) (fun _ _ q => Heap.get?_push_of_some _ q) (Nat.le_refl _) (dt_empty s.heap I.big)
  have hp := pairTrees_length [some l] [r] X.env pos rfl rfl
  have h0 : pairTrees [some l] [r] X.env pos ≠ [] := fun e => by rw [e] at hp; cases hp
  rw [arm_eval_Dict, zip_pairTrees [some l] [r] X.env pos rfl rfl, dictDisplay_pairs (pairTrees [some l] [r] X.env pos) h0 (by rw [hp]; show 1 + 1 ≤ 17; decide)]
  refine wpAny_bind (wpAny_standAt (wpAny_bind (wpAny_subDictH (knd := tupleKind (mixKind X.prog X.w)) (Q := fun d s' => wpAny (model X.prog X.w) X.A (pure (Value.ref d)) _ X.xe s') (show X.A.units < cLine by omega) (by rw [hp]; show 1 ≤ 15; decide)
    (pairTrees_cons_walk (thn (ha.run pins _ σ _ _ I1 (q _ hn)) fun u s1 ⟨x, H1, I2, rx, q1⟩ => thn (hb.run pins s1 σ H1 _ I2 q1) fun w2 s2 ⟨y, H2, I3, ry, e, k, b, ex, eb, q2⟩ => pairTrees_nil_walk ?_)))))
  subst ex
  cases (show u = Value.ref b from rx)
  obtain ⟨z, hd, xs, rel, dd⟩ := dt_of I3.hok e
  cases rel
  refine ⟨[(k, b, w2)], ⟨rfl, rfl, key_of I3.hok eb, trivial⟩, dd, fun h' tk' dd' hs => wpAny_pure ⟨.ref s.heap.objs.size, _, ?_, rfl, q2⟩⟩
  obtain ⟨q, es, ep, hq, h2, h3, h4, h6, h5⟩ := dd'
  have kt : KT H2 (putK [] k y) (storedH [] k b w2) := KT.put (H := H2) (.nil) k eb ry
  have ok : ObjOk X.prog X.w (upd H2 s.heap.objs.size (HO.dT [(k, y)])) h' s.heap.objs.size (HO.dT [(k, y)]) := by
    refine ⟨by rw [sizeLine_eq]; show 1 ≤ 16777216; decide, hd, _, KT.keeps (kvs := [(k, y)]) (xs := [(k, b, w2)]) kt fun c ys ec => ?_, q, es, ep, hq, h2, h3, h4, h5⟩
    rw [upd_ne (ne_of ec e (fun z => nomatch z))]
    exact ec
  exact d_write I3 (by rw [e]; exact True.intro) hs ⟨q, hq⟩ ok
theorem KeepT.updDT {H : Hp} {p : Addr} {ks : List (List Key × V)} {u : HO} (h : H p = some (.dT ks)) : KeepT H (L2.upd H p u) := ⟨fun b =>
  ⟨fun xs e => by rw [upd_ne fun z => by rw [z, h] at e; cases e]; exact e, fun o u e => by rw [upd_ne fun z => by rw [z, h] at e; cases e]; exact e⟩, tabs_upd (dT_nf h).tbl (dT_nf h).ext⟩
theorem e_dit1 {C : Call} {a b : CE} {l r : Expr} (hu : X.A.units + 65 < cLine) (ha : PE X l (tE X.K C a)) (hb : PE X r (tE X.K C b)) : PE X (.Dict [some l] [r] pos) (tE X.K C (.dit1 a b)) :=
  PE.imp (pe_disT (by omega) ha hb) fun σ H Q ⟨β, st, ρ, r, st', s, en, e, q⟩ p hp => by
    simp only [ev] at e
    split at e
    · cases e
    rename_i x st1 e1
    split at e
    · cases e
    rename_i y st2 e2
    split at e
    case h_2 => cases e
    rename_i d
    split at e
    case isFalse => cases e
    rename_i hk
    simp only [Option.some.injEq, Prod.mk.injEq] at e
    obtain ⟨rfl, rfl⟩ := e
    obtain ⟨ns, rfl⟩ := tkOk_iff hk
    have hpβ := s.off hp
    have x0 : Ext β H β (upd H p (.dT [])) := Ext.new hp
    refine seq1 (s.new hp) (en.mono s x0) e1 fun v β1 H1 x1 s1 r1 en1 => seq1 s1 en1 e2 fun w β2 H2 x2 s2 r2 en2 => ?_
    obtain ⟨b, rfl, hb⟩ := rep_tk (Rep.mono s1 x2 _ _ r1)
    obtain ⟨β3, x3, s3, r3, _⟩ := mat_ok x2 s2 r2
    have x13 := x1.trans x3 s3.nd
    have h2p : H2 p = some (.dT []) := x13.keep.get upd_same hpβ
    refine ⟨h2p, _, b, rfl, hb, ?_⟩
    have hp3 : p ∉ β3 := by
      obtain ⟨new, en, f⟩ := x13.pre
      rw [en]
      intro hm
      rcases List.mem_append.mp hm with z | z
      · exact hpβ z
      · have := f p z; rw [upd_same] at this; cases this
    obtain ⟨u, hu⟩ : ∃ u, u = HO.dT [(ns.map Sum.inl, w)] := ⟨_, rfl⟩
    rw [← hu]
    have kt : KeepT H2 (upd H2 p u) := KeepT.updDT h2p
    have s4 : Sim X.K β3 (mat y st2).2 (upd H2 p u) := s3.keepT kt fun b hb => upd_ne fun z => hp3 (z ▸ hb)
    have x4 : Ext β H (β3 ++ [p]) (upd H2 p u) := (((Ext.new hp).trans x13 s3.nd).updFree hp (dT_nf h2p)).lay hp
    refine q (.ref p) (β3 ++ [p]) _ x4 (s4.layO hp3 ⟨[(ns.map Sum.inl, w)], ?_, ?_, ?_⟩) ⟨p, lay_at s3.len, rfl⟩
    · show upd H2 p u p = _
      rw [upd_same, hu]
    · show [D.tup (ns.map .int)] = [tkD (ns.map Sum.inl)]
      rw [tkD_ints]
    · exact RepL.one (Rep.grow grow_app _ _ (Rep.keepT kt _ _ r3))
end
end Mw

set_option Elab.async false
set_option linter.all false
set_option autoImplicit false
set_option maxRecDepth 100000
/-! PyC17: list(d.values()), d a dict by rows. -/
namespace Mw
open PySem PySem.Spec PyProof.Rows L2
variable [Tbs]
theorem vals_at {vs : List V} : ∀ {us : List Value}, vs.length = us.length → (∀ (j : Nat) (v : V) (u : Value), vs[j]? = some v → us[j]? = some u → RelV v u) → Vals vs us := by
  induction vs with
  | nil =>
    intro us hl _
    cases us with
    | nil => exact .nil
    | cons _ _ => simp at hl
  | cons v vs ih =>
    intro us hl h
    cases us with
    | nil => simp at hl
    | cons u us => exact .cons (h 0 v u rfl rfl) (ih (by simpa using hl) fun j v u h1 h2 => h (j + 1) v u (by simpa using h1) (by simpa using h2))
/-- a view of a dict's values -/
def valsO (p d : Addr) : HO := .ext fun h => h.IsValuesView p d
theorem valsO_ok {P : Program} {w : World} {H : Hp} {h : Heap} {p d : Addr} (e : h.get? p = some { cls := .type "dict_values", data := .fields #[.ref d] }) : ObjOk P w H h p (valsO p d) :=
  ⟨⟨_, e, rfl, rfl⟩, ⟨_, e⟩, fun h1 h2 ⟨o, ho, r⟩ k => ⟨o, k o ho, r⟩⟩
section
variable {X : Cx} {C : Call}
def tVals (to : TE) : TE := fun σ H Q => to σ H fun x H1 => ∃ (a : Addr) (kvs : List (List Key × V)), x = .ref a ∧ H1 a = some (.dT kvs) ∧ ∀ p, H1 p = none → Q (.ref p) (upd H1 p (valsO p a))
theorem pe_values {o : Expr} {apos cpos : Pos} {to : TE} (ho : PE X o to) (hr : recvOk o = true) (hline : (apos.endLine == cpos.line) = true) : PE X (.Call (.Attribute o "values" apos) [] [] cpos) (tVals to) := by
  refine ⟨fun pins s σ H Q I h => ?_⟩
  refine wpAny_Call_method0_late (base_of hr) hline (thn (ho.run pins s σ H _ I h) fun v s1 ⟨x, H1, I1, r1, a, kvs, ex, ea, q⟩ => ?_)
  subst ex
  obtain rfl : v = Value.ref a := r1
  obtain ⟨t1, t2, hd⟩ := isD_at I1 (.inr ⟨kvs, .inl ea⟩)
  obtain ⟨_, _, xs', rel, o', es, ep, ho', hx, hdat, _⟩ := dt_of I1.hok ea
  refine ⟨"dict", "dict.values", PySem.F.plainAttrs_dict, PySem.F.slot_dict_values, PySem.F.type_dict_values, t1, t2, Calls.callWith_builtin rfl (PySem.evalArgs_none ?_)⟩
  refine call_meetsIn PySem.F.slot_dict_values t1 PySem.F.entry_dict_values (PySem.F.args_dict_values_1 _) (meets_dict_values_raw a hd) ⟨⟨es, ep, o', ho', hx, hdat⟩, ?_⟩
  have hf : H1 s1.heap.objs.size = none := I1.hok.fresh (Nat.le_refl _)
  exact ⟨.ref s1.heap.objs.size, _, I1.laid (t' := s1.toks) (fun b u e => Heap.get?_push_of_some _ e) (Nat.le_refl _) (valsO_ok (Heap.get?_push_size _ rfl)), rfl, q _ hf⟩
def rLVals : List V → Hp → VK → Prop := fun xs H Q => ∃ (p a : Addr) (kvs : List (List Key × V)), xs = [.ref p] ∧ H p = some (valsO p a) ∧ H a = some (.dT kvs) ∧ ∀ l, H l = none → Q (.ref l) (upd H l (.lst (kvs.map (·.2))))
theorem cr_listVals (hc : X.calm = true) : CallR X (.type "list") rLVals := by
  intro pins s σ H xs us Q I r h
  obtain ⟨p, a, kvs, rfl, hp, ha, q⟩ := h
  obtain rfl := Vals.ref1 r
  have view : s.heap.IsValuesView p a := (show ObjOk X.prog X.w H s.heap p (valsO p a) from I.hok p _ hp).1
  obtain ⟨hz, hd, xs', rel, o, es, ep, ho, hx, hdat, hes, _⟩ := dt_of I.hok ha
  have l1 : kvs.length = xs'.length := Paired.length rel
  have l2 : es.size = xs'.length := by
    have := congrArg List.length hes
    simpa using this
  refine PySem.W.kdl_call (KdlSrc.rawValues (es := es) (ep := ep)) (I.ok.hd hc) ⟨view, ⟨o, ho, hx, hdat⟩⟩ (by omega) fun h' tk acc' c' hk hget hacc => ?_
  have hl : acc'.toList.length = kvs.length := by have := hacc.1; simp; omega
  have hf : H s.heap.objs.size = none := I.hok.fresh (Nat.le_refl _)
  have rv : Vals (kvs.map (·.2)) acc'.toList := by
    refine vals_at (by simp; have := hacc.1; omega) fun j v u hv hu => ?_
    rw [List.getElem?_map] at hv
    obtain ⟨kv, hkv, rfl⟩ := Option.map_eq_some_iff.mp hv
    obtain ⟨hi, e⟩ := hacc.2 j u (by rw [← Array.getElem?_toList]; exact hu)
    obtain ⟨y, hy, f⟩ := paired_get rel hkv
    have e2 : es.toList[j]? = some (entryOfKey (tupleKind (mixKind X.prog X.w)) y) := by rw [hes, List.getElem?_map, hy]; rfl
    have e3 : es[j] = entryOfKey (tupleKind (mixKind X.prog X.w)) y := by
      rw [Array.getElem?_toList, Array.getElem?_eq_getElem hi] at e2
      exact Option.some.inj e2
    rw [e, e3]
    exact f.2.2
  refine ⟨.ref s.heap.objs.size, upd H s.heap.objs.size (.lst (kvs.map (·.2))), I.laid (t' := tk) hk (Nat.le_refl _) ⟨by rw [List.length_map]; exact hz, acc'.toList, c', rv, ?_⟩, rfl, q _ hf⟩
  simpa using hget
/-- list(d.values()) -/
theorem e_vals {o : Expr} {a : CE} {apos mpos p pos : Pos} (hc : X.calm = true) (hg : Gl X "list") (hm : X.mg "list" = none) (hr : recvOk o = true) (hline : (apos.endLine == mpos.line) = true) (ho : PE X o (tE X.K C a)) :
    PE X (.Call (.Name "list" p) [.Call (.Attribute o "values" apos) [] [] mpos] [] pos) (tE X.K C (.vals a)) :=
  PE.imp (pe_callTy (cr_listVals hc) hg hm boot_list (pa_cons (pe_values ho hr hline) pa_nil (star_plain rfl)) (by decide) (by decide) (star_plain rfl) rfl) fun σ H Q ⟨β, st, ρ, r, st', s, en, e, q⟩ => by
    simp only [ev] at e
    split at e
    · cases e
    rename_i x st1 e1
    simp only [Option.map_eq_some_iff, Prod.mk.injEq] at e
    obtain ⟨w, e3, rfl, rfl⟩ := e
    unfold tCB tCons tNil tVals
    refine seq1 s en e1 fun v β1 H1 x1 s1 r1 en1 => ?_
    unfold valsApp at e3
    split at e3
    rotate_left
    · cases e3
    rename_i n
    split at e3
    rotate_left
    · cases e3
    rename_i kvs hz
    simp only [Option.some.injEq] at e3
    subst e3
    obtain ⟨ad, h1, rfl⟩ := r1
    obtain ⟨ks, q1, q2, q3⟩ := s1.obj n ad _ h1 hz
    have q1 : H1 ad = some (.dT ks) := q1
    refine ⟨ad, ks, rfl, q1, fun pv hpv => ⟨pv, ad, ks, rfl, upd_same, by rw [upd_ne (ne_of_none q1 hpv)]; exact q1, fun l hl => ?_⟩⟩
    have x2 : Ext β1 H1 β1 (upd H1 pv (valsO pv ad)) := Ext.new hpv
    have s2 := s1.new (o := valsO pv ad) hpv
    have x3 : Ext β1 (upd H1 pv (valsO pv ad)) β1 (upd (upd H1 pv (valsO pv ad)) l (.lst (ks.map (·.2)))) := Ext.new hl
    have s3 := s2.new (o := .lst (ks.map (·.2))) hl
    refine q (.ref l) β1 _ (x1.trans (x2.trans x3 s3.nd) s3.nd) s3 ⟨l, ks.map (·.2), rfl, upd_same, s2.off hl, (x1.trans x2 s2.nd).free hl fun hm => s2.off hl (x1.mem hm), ?_⟩
    exact RepL.mono s1 (x2.trans x3 s3.nd) _ _ q3
end
end Mw

set_option Elab.async false
set_option linter.all false
set_option autoImplicit false
set_option maxRecDepth 100000
/-! PyB7: sum of tuples, the least and the greatest of data. -/
namespace Mw
open PySem PySem.Spec PyProof.Rows L2
variable [Tbs]
section
variable {X : Cx}
theorem bi_sum (hc : X.calm = true) : CallR X (.builtin "sum") (rBi X.K .sum) := by
  intro pins s σ H vs us Q I r h
  obtain ⟨β, st, H0, rs, rr, c, hr, e, q⟩ := h
  simp only [biApp] at e
  unfold biSum at e
  split at e
  rotate_left
  · cases e
  obtain ⟨x, rfl, hx⟩ := one_rep hr
  simp only [Option.bind_eq_some_iff, Option.map_eq_some_iff] at e
  obtain ⟨zs, e1, ns, e2, rfl⟩ := e
  obtain ⟨a, ws, rfl, h1, h2⟩ := seqOf_sq c.sim hx e1
  have e3 := intsOf_eq e2
  subst e3
  have e4 := h2.ints
  subst e4
  rw [Vals.ref1 r]
  rcases h1 with h1 | h1
  · obtain ⟨its, rv, hl, _⟩ := I.list h1
    exact sum_raw (I.ok.hd hc) hl.isList rv.ints fun h' tk t' hk => ⟨.int _, H, I.kept hk, ⟨_, rfl⟩, q.val c.sim rfl⟩
  · obtain ⟨its, rv, hl, _⟩ := I.tuple h1
    have hi := rv.ints
    obtain ⟨xs, hx2⟩ := hi.allInts.items
    have hn : numsOf (intItems xs).toList = ns := by rw [← hx2]; exact hi.numsOf
    rw [nums_intItems] at hn
    rw [hx2] at hl
    refine PySem.W.ktm_sumG (I.ok.hd hc) hl fun h' tk t' hk => ?_
    rw [preSum_eq, List.take_of_length_le (by simp), hn]
    exact ⟨.int _, H, I.kept hk, ⟨_, rfl⟩, q.val c.sim rfl⟩
end
/-! ### the least of data -/
mutual
theorem pln_inj {st : Sto} : ∀ (k : Nat) (a b : D) (p : PyData), plnD a = true → plnD b = true → toPy st k a = some p → toPy st k b = some p → a = b
  | k, .ref _, _, _, h, _, _, _ => by simp [plnD] at h
  | k, .rol _, _, _, h, _, _, _ => by simp [plnD] at h
  | k, .non, b, p, _, hb, e, e' => by
    cases k <;> simp only [toPy, Option.some.injEq] at e <;> subst e <;> cases b <;> simp_all [toPy, plnD]
  | k, .bl x, b, p, _, hb, e, e' => by
    cases k <;> simp only [toPy, Option.some.injEq] at e <;> subst e <;> cases b <;> simp_all [toPy, plnD]
  | k, .int x, b, p, _, hb, e, e' => by
    cases k <;> simp only [toPy, Option.some.injEq] at e <;> subst e <;> cases b <;> simp_all [toPy, plnD]
  | k, .str x, b, p, _, hb, e, e' => by
    cases k <;> simp only [toPy] at e <;> split at e <;> simp only [Option.some.injEq, reduceCtorEq] at e <;> subst e <;> cases b <;> simp_all [toPy, plnD]
  | 0, .tup xs, b, p, _, hb, e, e' => by simp [toPy] at e
  | k + 1, .tup xs, b, p, ha, hb, e, e' => by
    simp only [toPy, Option.map_eq_some_iff] at e
    obtain ⟨ps, e1, rfl⟩ := e
    cases b with
    | tup ys =>
      simp only [toPy, Option.map_eq_some_iff] at e'
      obtain ⟨qs, e2, e3⟩ := e'
      cases e3
      rw [plnL_inj k xs ys ps (by simpa [plnD] using ha) (by simpa [plnD] using hb) e1 e2]
    | ref _ => simp [plnD] at hb
    | rol _ => simp [plnD] at hb
    | non => simp [toPy] at e'
    | bl _ => simp [toPy] at e'
    | int _ => simp [toPy] at e'
    | str _ => simp [toPy] at e'
theorem plnL_inj {st : Sto} : ∀ (k : Nat) (a b : List D) (p : List PyData), plnL a = true → plnL b = true → mapO (toPy st k) a = some p → mapO (toPy st k) b = some p → a = b
  | k, [], b, p, _, _, e, e' => by
    simp only [mapO, Option.some.injEq] at e; subst e
    cases b with
    | nil => rfl
    | cons y ys =>
      simp only [mapO] at e'
      split at e'
      · split at e' <;> cases e'
      · cases e'
  | k, x :: xs, b, p, ha, hb, e, e' => by
    simp only [plnL, Bool.and_eq_true] at ha
    simp only [mapO] at e
    split at e
    rotate_left
    · cases e
    rename_i px hpx
    split at e
    rotate_left
    · cases e
    rename_i pxs hpxs
    simp only [Option.some.injEq] at e; subst e
    cases b with
    | nil => simp [mapO] at e'
    | cons y ys =>
      simp only [plnL, Bool.and_eq_true] at hb
      simp only [mapO] at e'
      split at e'
      rotate_left
      · cases e'
      rename_i py hpy
      split at e'
      rotate_left
      · cases e'
      rename_i pys hpys
      simp only [Option.some.injEq, List.cons.injEq] at e'
      obtain ⟨rfl, rfl⟩ := e'
      rw [pln_inj k x y _ ha.1 hb.1 hpx hpy, plnL_inj k xs ys _ ha.2 hb.2 hpxs hpys]
end
theorem plnL_mem : ∀ {xs : List D}, plnL xs = true → ∀ x ∈ xs, plnD x = true
  | [], _, x, hx => nomatch hx
  | y :: ys, h, x, hx => by
    simp only [plnL, Bool.and_eq_true] at h
    rcases List.mem_cons.mp hx with rfl | hx
    · exact h.1
    · exact plnL_mem h.2 x hx
theorem fold_mem {α : Type} (f : α → α → Bool) : ∀ (l : List α) (x : α), l.foldl (fun a y => if f a y then y else a) x ∈ x :: l
  | [], x => List.mem_cons_self
  | y :: l, x => by
    simp only [List.foldl_cons]
    have := fold_mem f l (if f x y then y else x)
    rcases List.mem_cons.mp this with h | h
    · rw [h]; split <;> simp
    · exact List.mem_cons_of_mem _ (List.mem_cons_of_mem _ h)
theorem fold_map {α β : Type} (g : α → β) (f : β → β → Bool) : ∀ (l : List α) (x : α), (l.map g).foldl (fun a y => if f a y then y else a) (g x) = g (l.foldl (fun a y => if f (g a) (g y) then y else a) x)
  | [], x => rfl
  | y :: l, x => by
    simp only [List.map_cons, List.foldl_cons]
    have e : (if f (g x) (g y) = true then g y else g x) = g (if f (g x) (g y) = true then y else x) := by split <;> rfl
    rw [e, fold_map g f l]
theorem mmD_out {mx : Bool} {st : Sto} {xs : List D} {d : D} (h : mmD mx st xs = some d) : ∃ y ys, xs = y :: ys ∧ (∀ x ∈ xs, toPy st 58 x = some (pyD st x)) ∧ PySem.W.AlikeAll (xs.map (pyD st)) ∧ plnL xs = true ∧ d ∈ xs ∧
    pyD st d = (if mx then PySem.W.maxD (pyD st y) (ys.map (pyD st)) else PySem.W.minD (pyD st y) (ys.map (pyD st))) := by
  unfold mmD at h
  split at h
  rotate_left
  · cases h
  rename_i ds hds
  split at h
  rotate_left
  · cases h
  rename_i hc
  have e1 : ds = xs.map (pyD st) := mapO_map (fun a c q => by simp [pyD, q]) hds
  subst e1
  simp only [Bool.and_eq_true, alikeD, List.all_eq_true] at hc
  obtain ⟨c1, c2, c3⟩ := hc
  split at h
  · cases h
  rename_i y ys
  simp only [Option.some.injEq] at h
  refine ⟨y, ys, rfl, fun x hx => ?_, ⟨fun d hd e he => c1 d hd e he, fun d hd => ?_⟩, c3, ?_, ?_⟩
  · obtain ⟨z, hz⟩ := mapO_mem hds x hx
    simp [pyD, hz]
  · have := c2 d hd
    rintro rfl
    simp [notNn] at this
  · rw [← h]; exact fold_mem _ _ _
  · rw [← h]
    cases mx with
    | true => simp only [if_true]; exact (fold_map (pyD st) (fun a y => PySem.W.dataLt a y) ys y).symm
    | false => simp only [Bool.false_eq_true, if_false]; exact (fold_map (pyD st) (fun a y => PySem.W.dataLt y a) ys y).symm
theorem each_at {R : Value → D → Prop} : ∀ {us : List Value} {xs : List D}, PySem.W.EachIs R us xs → ∀ (i : Nat) (u : Value), us[i]? = some u → ∃ x, x ∈ xs ∧ R u x
  | _, _, .nil, i, u, h => by simp at h
  | _, _, .cons r t, 0, u, h => by
    have e := Option.some.inj (show some _ = some u from h)
    subst e
    exact ⟨_, List.mem_cons_self, r⟩
  | _, _, .cons r t, i + 1, u, h => by
    obtain ⟨x, h1, h2⟩ := each_at t i u (by simpa using h)
    exact ⟨x, List.mem_cons_of_mem _ h1, h2⟩
theorem depthAll_le : ∀ {ds : List PyData} {k : Nat}, (∀ d ∈ ds, d.depth ≤ k) → PyData.depthAll ds ≤ k
  | [], k, _ => by simp [PyData.depthAll]
  | x :: xs, k, h => by
    have h1 := h x List.mem_cons_self
    have h2 := depthAll_le (ds := xs) (k := k) fun y hy => h y (List.mem_cons_of_mem _ hy)
    simp only [PyData.depthAll]
    omega
section
variable {X : Cx}
theorem bi_mmD (mx : Bool) (hc : X.calm = true) (hu : X.A.units + 65 < cLine) : CallR X (.builtin (if mx then "max" else "min")) (rOf X.K (biMmD mx)) := by
  intro pins s σ H vs us Q I r h
  obtain ⟨β, st, H0, rs, rr, c, hr, e, q⟩ := h
  unfold biMmD at e
  split at e
  rotate_left
  · cases e
  obtain ⟨x, rfl, hx⟩ := one_rep hr
  simp only [Option.bind_eq_some_iff, Option.map_eq_some_iff] at e
  obtain ⟨zs, e1, d, e2, rfl⟩ := e
  obtain ⟨a, ws, rfl, h1, h2⟩ := seqOf_sq c.sim hx e1
  obtain ⟨y, ys, rfl, p1, p2, p3, p4, p5⟩ := mmD_out e2
  rw [Vals.ref1 r]
  have key : ∀ (its : List Value), Vals ws its → (∀ {P : Prop}, (∀ (as : List Addr), ReadsAll s.heap its (((y :: ys).map (pyD st))) as → P) → P) ∧
      (∀ (i : Nat) (v : Value) (h' : Heap) (tk : Nat) (bs : List Addr), its[i]? = some v → Reads h' v (if mx then PySem.W.maxD (pyD st y) (ys.map (pyD st)) else PySem.W.minD (pyD st y) (ys.map (pyD st))) bs → (∀ b o, s.heap.get? b = some o → h'.get? b = some o) →
        ∃ V H1, Inv X pins σ H1 { s with heap := h', toks := tk } ∧ RelV V v ∧ Q V H1) := by
    intro its rv
    have er := each_rep rv h2
    have er2 : PySem.W.EachIs (fun v b => ∃ as, Reads s.heap v (pyD st b) as) its (y :: ys) := (PySem.W.each_mem er).mono fun u d ⟨⟨v, q1, q2⟩, hm⟩ => by
      obtain ⟨d1, d2, d3⟩ := toPy_dp c.sim 58 d _ v (p1 d hm) q2
      exact Dp.reads I _ _ _ d1 q1
    refine ⟨fun {P} hP => ?_, fun i v h' tk bs hi hrd hk => ?_⟩
    · obtain ⟨as, ha⟩ := PySem.W.each_readsAll (pyD st) er2
      exact hP as ha
    · obtain ⟨x', hx', ⟨V, q1, q2⟩⟩ := each_at er i v hi
      refine ⟨V, H, I.kept hk, q1, ?_⟩
      obtain ⟨x2, hx2, as, hr2⟩ := each_at er2 i v hi
      have hd1 : Dp X.K H V (pyD st x') := (toPy_dp c.sim 58 x' _ V (p1 x' hx') q2).1
      obtain ⟨as', hr3⟩ := Dp.reads I _ _ _ hd1 q1
      have hr4 : Reads h' v (pyD st x') as' := PySem.W.reads_keeps hk hr3
      rw [← p5] at hrd
      have e6 : pyD st x' = pyD st d := PySem.W.alike_unique _ _ _ _ _ (p2.1 _ (List.mem_map_of_mem hx') _ (List.mem_map_of_mem p4)) hr4 hrd
      have e7 : x' = d := pln_inj 58 x' d _ (plnL_mem p3 x' hx') (plnL_mem p3 d p4) (p1 x' hx') (by rw [e6]; exact p1 d p4)
      subst e7
      exact q.val c.sim q2
  have hdep : X.A.units + 1 + PyData.depthAll ((y :: ys).map (pyD st)) < cLine := by
    have : PyData.depthAll ((y :: ys).map (pyD st)) ≤ 58 := depthAll_le fun d hd => by
      obtain ⟨x', hx', rfl⟩ := List.mem_map.mp hd
      obtain ⟨i, hi⟩ := List.getElem?_of_mem hx'
      obtain ⟨v, _, hv⟩ := h2.get hi
      exact (toPy_dp c.sim 58 x' _ v (p1 x' hx') hv).2.2
    omega
  rcases h1 with h1 | h1
  · obtain ⟨its, rv, hl, _⟩ := I.list h1
    obtain ⟨k1, k2⟩ := key its rv
    refine k1 fun as ha => ?_
    cases mx with
    | true => exact PySem.W.max_list_data (I.ok.hd hc) hl.isList (by simpa using ha) p2 hdep fun i v h' tk bs hi hrd hk => k2 i v h' tk bs (by simpa using hi) hrd hk
    | false => exact PySem.W.min_list_data (I.ok.hd hc) hl.isList (by simpa using ha) p2 hdep fun i v h' tk bs hi hrd hk => k2 i v h' tk bs (by simpa using hi) hrd hk
  · obtain ⟨its, rv, hl, _⟩ := I.tuple h1
    obtain ⟨k1, k2⟩ := key its rv
    refine k1 fun as ha => ?_
    cases mx with
    | true => exact PySem.W.max_tuple_data (I.ok.hd hc) hl (by simpa using ha) p2 hdep fun i v h' tk bs hi hrd hk => k2 i v h' tk bs (by simpa using hi) hrd hk
    | false => exact PySem.W.min_tuple_data (I.ok.hd hc) hl (by simpa using ha) p2 hdep fun i v h' tk bs hi hrd hk => k2 i v h' tk bs (by simpa using hi) hrd hk
theorem bi_max (hc : X.calm = true) (hu : X.A.units + 65 < cLine) : CallR X (.builtin "max") (rBi X.K .max) := rOf_or (bi_maxI hc) (bi_mmD true hc hu)
theorem bi_min (hc : X.calm = true) (hu : X.A.units + 65 < cLine) : CallR X (.builtin "min") (rBi X.K .min) := rOf_or (bi_minI hc) (bi_mmD false hc hu)
end
end Mw

set_option Elab.async false
set_option linter.all false
set_option maxRecDepth 100000
set_option maxHeartbeats 4000000
/-! PyB8: a list's numbers, each once, in order: sorted of a set of a list. -/
namespace Mw
open PySem PySem.Spec PyProof.Rows L2
section
variable {P : Program} {w : World} {A : Around} {E : Value → Shared → Prop} {s : Shared}
/-- the object that a set begins as -/
abbrev seO (w : World) : Obj := { cls := .type "set", dict := none, data := .set #[] 0 (.fresh 0 0 (!w.params.followText "set-order")) }
/-- what filling it ends with -/
def setEnd (w : World) (s : Shared) (ns : List Int) (s2 : Shared) : Prop :=
  ∃ (h' : Heap) (tk c : Nat), s2 = { s with heap := h', toks := tk } ∧ SetR w h' s.heap.objs.size (fun j => decide (j ∈ ns)) c ∧ ∀ b o, s.heap.get? b = some o → h'.get? b = some o
theorem set_list {l : Addr} {items : Array Value} (ns : List Int) {Q : Value → Shared → Prop} (hh : A.handled = none) (hl : s.heap.IsList l items) (hit : IntsAre items.toList ns) (hb : ns.length + 1 < scanBound)
    (h : ∀ s2, setEnd w s ns s2 → Q (.ref s.heap.objs.size) s2) : wpAny (model P w) A (call (.type "set") [.ref l]) Q E s := by
  have hn : items.size = ns.length := by have := IntsAre.length hit; rwa [Array.length_toList] at this
  obtain ⟨c0, tl, hmro⟩ := PySem.F.called_set.mro
  have hmade := PySem.F.called_set.made
  have hsub := PySem.F.called_set.sub
  have h1 := PySem.F.called_set.notType
  have h2 := PySem.F.called_set.canCreate
  have hct := PySem.F.typeCall_set_1 (.ref l)
  have hli := PySem.F.called_set.init.lookup
  have hbi := PySem.F.called_set.init.bind (.ref s.heap.objs.size)
  have hz : (s.heap.push (seO w)).objs.size = s.heap.objs.size + 1 := Heap.size_push ..
  have hS : (s.heap.push (seO w)).get? s.heap.objs.size = some (seO w) := Heap.get?_push_size _ rfl
  have hT : Shared.TypeIs { s with heap := s.heap.push (seO w) } (.ref s.heap.objs.size) "set" := ⟨_, hS, rfl⟩
  refine wpAny_call (codeAny_of_tree ?_)
  show wpAny _ _ (callAny (.type "set") _) _ _ _
  refine wpAny_pure ⟨Code.quiet_builtin _ (by decide +kernel), codeAny_builtin PySem.F.entry_type_call ?_⟩
  rw [Around.under_plain (weight_type_call_type "set" [.ref l] []) rfl]
  repeat (any_goals (first | assumption | wp_step))
  refine codeAny_mono (code_set_led1 (.ref l) (E := E) (Q₁ := fun ob s1 => ob = .ref s.heap.objs.size ∧ s1 = { s with heap := s.heap.push (seO w) }) ⟨rfl, rfl⟩) fun r s1 hr => ?_
  cases r with
  | error e => exact hr
  | ok fl =>
    cases fl with
    | ret ob =>
      obtain ⟨rfl, rfl⟩ := hr
      repeat (any_goals (first | assumption | wp_step))
      refine codeAny_mono (codeAny_call_builtin (R := wants (fun r s2 => r = .none ∧ setEnd w s ns s2) E) PySem.F.called_set.init.plain PySem.F.entry_set_init (check_set_init_1 hT ?_)) fun r2 s2 hr2 => ?_
      · have hl1 : (s.heap.push (seO w)).IsList l items := hl.push _
        obtain ⟨ol, hol, hcl, nl, hdl⟩ := hl
        obtain ⟨ocls, odict, odata, oslots⟩ := ol
        simp only at hcl hdl
        subst hcl; subst hdl
        have hol' : (s.heap.push (seO w)).get? l = some { cls := .type "list", dict := odict, data := .seq items nl, slots := oslots } := Heap.get?_push_of_some _ hol
        have hlS : l < s.heap.objs.size := Heap.lt_size hol
        have hsls := PySem.F.sub_list_set
        have hslf := PySem.F.sub_list_frozenset
        have hne : (Value.type "list" == Value.type "dict") = false := by decide
        have hh3 : A.in1.in1.in1.handled = none := by simp [hh]
        have hI1 : l ≠ (s.heap.push (seO w)).objs.size := by rw [hz]; exact Nat.ne_of_lt (Nat.lt_succ_of_lt hlS)
        have hI2 : s.heap.objs.size ∉ [(s.heap.push (seO w)).objs.size, l] := by
          simp only [hz, List.mem_cons, List.not_mem_nil, or_false, not_or]
          exact ⟨Nat.ne_of_lt (Nat.lt_succ_self _), Nat.ne_of_gt hlS⟩
        unfold Builtin.«set.__init__» noKeywords Builtin.Frozenset.updateFrom
        generalize hPI : pyIter = PI
        wp_walk
        subst hPI
        refine wpAny_pyIter_list hl1 ?_
        refine wpAny_bind (wpAny_runValue ?_)
        refine set_update_ints ((Walks.list hh3 _ l hI1 items).toS) s.heap.objs.size hI2 ns hn hb (fun i v hv => ?_) (items.size - 0) 0 _ (by omega) (Nat.zero_le _) ⟨⟨_, Heap.get?_push_size _ rfl, rfl, rfl⟩, hl1.push _⟩ ⟨0, Nat.le_refl 0, setR_new_at (Heap.get?_push_of_some _ hS)⟩ fun s3 c3 hm hc3 hS3 => ?_
        · have hi : i < ns.length := by rw [← hn]; exact (Array.getElem?_eq_some_iff.mp hv).1
          obtain ⟨t, e⟩ := IntsAre.int_at hit i v (by rw [Array.getElem?_toList]; exact hv)
          exact ⟨ns[i], t, List.getElem?_eq_getElem hi, by rw [e, List.getD_eq_getElem?_getD, List.getElem?_eq_getElem hi]; rfl⟩
        · obtain ⟨h3, g3, d3, tk3, os3⟩ := s3
          obtain rfl : g3 = s.gens := hm.gens
          obtain rfl : d3 = s.drawn := hm.drawn
          obtain rfl : os3 = s.os := hm.os
          show wpAny _ _ _ _ _ _
          refine wpAny_pure ?_
          show wpAny _ _ (ret Value.none) _ _ _
          refine wpAny_pure ⟨rfl, h3, tk3, c3, rfl, hS3, fun b o e => ?_⟩
          have hb0 : b < s.heap.objs.size := Heap.lt_size e
          refine hm.heap b o ?_ (Heap.get?_push_of_some _ (Heap.get?_push_of_some _ e))
          simp only [hz, List.mem_cons, List.mem_singleton, List.not_mem_nil, or_false, not_or]
          exact ⟨Nat.ne_of_lt hb0, Nat.ne_of_lt (Nat.lt_succ_of_lt hb0)⟩
      · cases r2 with
        | error e => exact hr2
        | ok fl2 =>
          cases fl2 with
          | ret r =>
            obtain ⟨rfl, he⟩ := hr2
            repeat (any_goals (first | assumption | wp_step))
            exact h _ he
          | _ => exact hr2.elim
    | _ => exact hr.elim
end
/-! ### each number once -/
theorem nubI_mem : ∀ {xs : List Int} {k : Int}, k ∈ nubI xs ↔ k ∈ xs
  | [], k => by simp [nubI]
  | x :: xs, k => by
    simp only [nubI, List.mem_cons, List.mem_filter, nubI_mem (xs := xs), decide_eq_true_eq]
    by_cases h : k = x <;> simp [h]
theorem nubI_nd : ∀ xs : List Int, (nubI xs).Nodup
  | [] => List.nodup_nil
  | x :: xs => by
    refine List.nodup_cons.mpr ⟨fun h => ?_, (nubI_nd xs).filter _⟩
    have := (List.mem_filter.mp h).2
    simp at this
theorem nd_len {a b : List Int} (ha : a.Nodup) (hb : b.Nodup) (h : ∀ k, k ∈ a ↔ k ∈ b) : a.length = b.length :=
  ((List.perm_ext_iff_of_nodup ha hb).mpr h).length_eq
theorem inc_ext : ∀ {a b : List Int}, a.Pairwise (· < ·) → b.Pairwise (· < ·) → (∀ k, k ∈ a ↔ k ∈ b) → a = b
  | [], [], _, _, _ => rfl
  | [], y :: b, _, _, h => by have := (h y).mpr List.mem_cons_self; cases this
  | x :: a, [], _, _, h => by have := (h x).mp List.mem_cons_self; cases this
  | x :: a, y :: b, ha, hb, h => by
    obtain ⟨a1, a2⟩ := List.pairwise_cons.mp ha
    obtain ⟨b1, b2⟩ := List.pairwise_cons.mp hb
    have hxy : x = y := by
      rcases List.mem_cons.mp ((h x).mp List.mem_cons_self) with e | e
      · exact e
      · rcases List.mem_cons.mp ((h y).mpr List.mem_cons_self) with e2 | e2
        · exact e2.symm
        · have := b1 x e; have := a1 y e2; omega
    subst hxy
    have : a = b := inc_ext a2 b2 fun k => by
      constructor
      · intro hk
        rcases List.mem_cons.mp ((h k).mp (List.mem_cons_of_mem _ hk)) with e | e
        · have := a1 k hk; omega
        · exact e
      · intro hk
        rcases List.mem_cons.mp ((h k).mpr (List.mem_cons_of_mem _ hk)) with e | e
        · have := b1 k hk; omega
        · exact e
    rw [this]
theorem sortI_mem {xs : List Int} {k : Int} : k ∈ sortI xs ↔ k ∈ xs := by
  unfold sortI
  rw [(List.mergeSort_perm _ _).mem_iff, nubI_mem]
theorem sortI_inc (xs : List Int) : (sortI xs).Pairwise (· < ·) := by
  unfold sortI
  have h1 := List.pairwise_mergeSort (le := fun a b : Int => decide (a ≤ b)) (fun a b c h1 h2 => by simp only [decide_eq_true_eq] at *; omega) (fun a b => by simp only [Bool.or_eq_true, decide_eq_true_eq]; omega) (nubI xs)
  have h2 : ((nubI xs).mergeSort fun a b => decide (a ≤ b)).Nodup := (List.mergeSort_perm _ _).nodup_iff.mpr (nubI_nd xs)
  refine lt_of_le_nodup _ ?_ h2
  exact h1.imp fun h => by simpa using h
section
variable {X : Cx}
variable [Tbs]
def rSetL (K : PySem.W.Frag) (w : World) : List V → Hp → VK → Prop := fun xs H Q => ∃ (l : Addr) (ns : List Int), xs = [V.ref l] ∧ SqL K H l (ns.map V.int) ∧ ns.length ≤ 4000 ∧
  ∀ p c, c = (nubI ns).length → H p = none → Q (.ref p) (upd H p (SetO w p (fun j => decide (j ∈ ns)) c))
theorem cr_setL (hc : X.calm = true) : CallR X (.type "set") (rSetL X.K X.w) := by
  intro pins s σ H vs us Q I r h
  obtain ⟨l, ns, rfl, hq, hl, q⟩ := h
  rw [Vals.ref1 r]
  obtain ⟨its, rv, hI, hz⟩ := I.list hq
  refine set_list ns (I.ok.hd hc) hI.isList (by simpa using rv.ints) (by unfold scanBound; omega) fun s2 he => ?_
  obtain ⟨h', tk, c, rfl, hR, hk⟩ := he
  have hc2 : c = (nubI ns).length := by
    obtain ⟨o, es, ep, t, ho, hex, hd, g, nd, hm, hb, hf, hn, hr, hl⟩ := id hR
    rw [← hn, ← Array.length_toList, ← List.length_map (f := keyOf)]
    refine nd_len nd (nubI_nd ns) fun k => ?_
    rw [nubI_mem, ← hm k, decide_eq_true_eq]
  have hfree : H s.heap.objs.size = none := I.hok.fresh (Nat.le_refl _)
  have J : Inv X pins σ (upd H s.heap.objs.size (SetO X.w s.heap.objs.size (fun j => decide (j ∈ ns)) c)) { s with heap := h', toks := tk } := I.laid hk (Nat.le_refl _) (setO_new hR)
  exact ⟨.ref s.heap.objs.size, _, J, rfl, q _ c hc2 hfree⟩
end
end Mw

set_option Elab.async false
set_option linter.all false
set_option autoImplicit false
set_option maxRecDepth 100000
/-! PyB9: sorted(set(e)). -/
namespace Mw
open PySem PySem.Spec PyProof.Rows L2
variable [Tbs]
section
variable {X : Cx} {C : Call} {es : CEs} {e : Expr}
theorem rep_ints {K : PySem.W.Frag} {β : List Addr} {H : Hp} : ∀ ns : List Int, RepL K β H (ns.map .int) (ns.map V.int)
  | [] => rfl
  | n :: ns => ⟨_, _, rfl, rfl, rep_ints ns⟩
/-- a built-in's reading, by what it does -/
def tSe (K : PySem.W.Frag) (C : Call) (f : Sto → List RV → Option RV) (es : CEs) : TE := fun σ H Q =>
  ∃ β st ρ rs st1 z, Sim K β st H ∧ EnvR K β H ρ σ ∧ evR C es ρ st = some (rs, st1) ∧ f st1 rs = some z ∧ ∀ v β' H', Ext β H β' H' → Sim K β' st1 H' → RRep K β' H' H z v → Q v H'
theorem tSe_or {K : PySem.W.Frag} {f g : Sto → List RV → Option RV} {b : BI} (hb : ∀ st rs, biApp st b rs = orE (f st rs) (g st rs)) {σ : L2.St} {H : Hp} {Q : VK} (h : tE K C (.bi b es) σ H Q) : tSe K C f es σ H Q ∨ tSe K C g es σ H Q := by
  obtain ⟨β, st, ρ, r, st', s, en, h, q⟩ := h
  simp only [ev] at h
  split at h
  · cases h
  rename_i rs st1 e1
  simp only [Option.map_eq_some_iff, Prod.mk.injEq] at h
  obtain ⟨z, e2, rfl, rfl⟩ := h
  rw [hb] at e2
  unfold orE at e2
  split at e2
  · rename_i y hy
    cases e2
    exact .inl ⟨β, st, ρ, rs, st1, _, s, en, e1, hy, q⟩
  · exact .inr ⟨β, st, ρ, rs, st1, _, s, en, e1, e2, q⟩
theorem e_setI {p p2 pos pos2 : Pos} (hp : plainE e = true) (hc : X.calm = true) (hg : Gl X "sorted") (hm : X.mg "sorted" = none) (hg2 : Gl X "set") (hm2 : X.mg "set" = none) (ha : PA X [e] (tR X.K C es)) :
    PE X (.Call (.Name "sorted" p) [.Call (.Name "set" p2) [e] [] pos2] [] pos) (tSe X.K C biSetI es) :=
  PE.imp (pe_callB (cr_sortedSet hc) hg hm (by rfl) (pa_cons (pe_callTy (cr_setL hc) hg2 hm2 (by rfl) ha (he := star_plain hp) (hpl := stars_plain rfl)) pa_nil (star_plain rfl)) (he := star_plain rfl) (hpl := stars_plain rfl)) fun σ H Q h => by
    obtain ⟨β, st, ρ, rs, st1, z, s, en, e1, e2, q⟩ := h
    unfold biSetI at e2
    split at e2
    rotate_left
    · cases e2
    simp only [Option.bind_eq_some_iff] at e2
    obtain ⟨xs, e3, ns, e4, e5⟩ := e2
    split at e5
    rotate_left
    · cases e5
    rename_i hb
    simp only [Bool.and_eq_true, decide_eq_true_eq] at hb
    cases e5
    refine ⟨β, st, ρ, _, st1, s, en, e1, fun vs β1 H1 x1 s1 r1 => ?_⟩
    obtain ⟨v, rfl, hv⟩ := one_rep r1
    obtain ⟨l, ws, rfl, h1, h2⟩ := listOf_sq s1 hv e3
    have e6 := intsOf_eq e4
    subst e6
    have e7 := h2.ints
    subst e7
    refine ⟨l, ns, rfl, h1, hb.1, fun a c hc hfree => ?_⟩
    refine ⟨a, _, c, rfl, upd_same, by omega, fun ns2 b hi hmem hlen hfb => ?_⟩
    have hn : ns2 = sortI ns := inc_ext hi (sortI_inc ns) fun k => by rw [hmem k, sortI_mem, decide_eq_true_eq]
    subst hn
    have x2 : Ext β1 H1 β1 (upd H1 a (SetO X.w a (fun j => decide (j ∈ ns)) c)) := Ext.new hfree
    have s2 := s1.new (o := SetO X.w a (fun j => decide (j ∈ ns)) c) hfree
    have x12 := x1.trans x2 s1.nd
    exact q _ β1 _ (x12.trans (Ext.new hfb) s2.nd) (s2.new hfb) ⟨b, _, rfl, upd_same, s2.off hfb, x12.free hfb fun hm => s2.off hfb (x12.mem hm), rep_ints _⟩
end
end Mw

set_option Elab.async false
set_option linter.all false
set_option autoImplicit false
set_option maxRecDepth 100000
set_option maxHeartbeats 1000000
/-! PyB10: list(reversed(t)), t a tuple. -/
namespace Mw
open PySem PySem.Spec PyProof.Rows L2 RT
variable [Tbs]
theorem nolen_rt : typeLookup (.type "reversed") "__len__" = pure none := by rw [typeLookup_type, builtinLookup_eq_fast]; kernel_rfl
theorem hint_rt : typeLookup (.type "reversed") "__length_hint__" = pure (some (.builtin "reversed.__length_hint__")) := by rw [typeLookup_type, builtinLookup_eq_fast]; kernel_rfl
theorem IsTup.at' {h h' : Heap} {a : Addr} {items : Array Value} (x : IsTup h a items) (e : ∀ o, h.get? a = some o → h'.get? a = some o) : IsTup h' a items := let ⟨o, ho, r⟩ := x; ⟨o, e _ ho, r⟩
theorem tupRev {prog : Program} {w : World} {A : Around} (hh : A.handled = none) (I l : Addr) (hne : l ≠ I) (items : Array Value) (hz : items.size ≤ sizeLine) :
    Walks prog w A I [I, l] [I] items.size (fun i v => items[items.size - 1 - i]? = some v) (fun i h => i ≤ items.size ∧ IsRt h I l ((items.size : Int) - 1 - (i : Int)) ∧ IsTup h l items) where
  sub := fun b hb => by simp at hb; simp [hb]
  frame := fun _ _ _ x hk => ⟨x.1, x.2.1.at fun o e => hk I (by simp) o e, IsTup.at' x.2.2 fun o e => hk l (by simp) o e⟩
  item := fun i s Q E hi x hQ => by
    have e : (items.size : Int) - 1 - (i : Int) = ((items.size - 1 - i : Nat) : Int) := by omega
    have hit := x.2.1
    rw [e] at hit
    have hx : items[items.size - 1 - i]? = some (items[items.size - 1 - i]'(by omega)) := Array.getElem?_eq_getElem (by omega)
    refine next_rt_item hit x.2.2 hx hz fun h' hit' hs' => ?_
    have e2 : ((items.size - 1 - i : Nat) : Int) - 1 = (items.size : Int) - 1 - ((i + 1 : Nat) : Int) := by omega
    rw [e2] at hit'
    exact hQ _ h' (s.toks + 1) hx ⟨hi, hit', IsTup.at' x.2.2 fun o eo => (hs'.2 l hne).trans eo⟩ fun b o hb eo => hs'.extBut b o (fun h => hb (by simp [h])) eo
  done := fun s Q E x hQ => by
    have e : (items.size : Int) - 1 - (items.size : Int) = -1 := by omega
    have hit := x.2.1
    rw [e] at hit
    exact next_rt_end hh hit fun h' he' => hQ h' s.toks fun b o hb eo => he' b o (fun h => hb (by simp [h])) eo
  self := fun _ _ _ _ x hQ => iter_rt x.2.1 hQ
theorem slot_rt_hint : Slot "reversed" "__length_hint__" "reversed.__length_hint__" :=
  .of (owner := "reversed") (n := "__length_hint__") (by rw [typeLookup_type, builtinLookup_eq_fast]; kernel_rfl) (by decide +kernel) (by decide +kernel) (by decide +kernel)
    (by first | exact .inl (by decide +kernel) | exact .inr (by decide +kernel)) (by rw [isSubtype_type]; kernel_rfl)
theorem entry_rt_hint : entryFor table "reversed.__length_hint__" = some Builtin.«reversed.__length_hint__» := entryFor_of_tree (by kernel_rfl)
theorem args_rt_hint (a : Value) : argsOk "reversed.__length_hint__" ⟨[a], []⟩ := by
  unfold argsOk; rw [signature?_of (id := "reversed.__length_hint__") (n := ['_', '_', 't', 'n', 'i', 'h', '_', 'h', 't', 'g', 'n', 'e', 'l', '_', '_']) (o := ['d', 'e', 's', 'r', 'e', 'v', 'e', 'r']) (by kernel_rfl) owner_rt]; kernel_rfl
theorem asInt_int (n : Int) (t : Tok) : asInt? (.int n t) = pure (some n) := rfl
theorem call_hint_rt {prog : Program} {w : World} {A : Around} {E : Value → Shared → Prop} {s : Shared} {it t : Addr} {items : Array Value} {Q : Value → Shared → Prop} (hit : IsRt s.heap it t ((items.size : Int) - 1)) (ht : IsTup s.heap t items) (hz : items.size ≤ sizeLine)
    (hQ : ∀ tk tk', Q (.int items.size tk') { s with toks := tk }) : wpAny (model prog w) A (call (.builtin "reversed.__length_hint__") [.ref it]) Q E s := by
  obtain ⟨o, ho, hc, hd⟩ := id hit
  rw [sizeLine_eq] at hz
  refine wpAny_call_entry slot_rt_hint hit.typeIs entry_rt_hint ?_ (args_rt_hint _)
  unfold Builtin.«reversed.__length_hint__»
  refine wpAny_bind (wpAny_of_eq (a := Value.ref it) rfl ?_)
  refine wpAny_bind (wpAny_field ho hd (x := .ref t) rfl ?_)
  have hnn : ¬ ((Value.ref t == Value.none) = true) := by rw [show (Value.ref t == Value.none) = false from rfl]; decide
  rw [if_neg hnn]
  refine wpAny_bind (len_tuple ht (by omega) ?_)
  refine wpAny_bind (wpAny_of_eq (a := some ((items.size : Nat) : Int)) rfl ?_)
  try dsimp only
  refine wpAny_bind (wpAny_field (s := { s with toks := s.toks + 1 + 1 }) ho hd (x := rawInt ((items.size : Int) - 1)) rfl ?_)
  show wpAny _ _ (if ((items.size : Nat) : Int) < (items.size : Int) - 1 + 1 then _ else _) _ _ _
  rw [if_neg (by omega)]
  rw [show ((items.size : Int) - 1 + 1) = (items.size : Int) by omega]
  show wpAny _ _ (mkInt _ >>= fun v => ret v) _ _ _
  refine wpAny_bind (wpAny_mkInt ?_)
  exact wpAny_pure ⟨_, rfl, hQ _ _⟩
section
variable {prog : Program} {w : World} {A : Around} {s : Shared} {R : Result → Shared → Prop} {E : Value → Shared → Prop}
theorem extend_rt {it t : Addr} {items : Array Value} (hh : A.handled = none) (hn : items.size ≤ sizeLine) (S : Addr) (res : Value) (c₀ : Nat) (hit : IsRt s.heap it t ((items.size : Int) - 1)) (ht : IsTup s.heap t items) (hne : t ≠ it) (hSi : S ≠ it) (hSt : S ≠ t)
    (hS : s.heap.get? S = some { cls := .type "list", data := .seq #[] c₀ })
    (hR : ∀ (h' : Heap) (tk : Nat) (acc' : Array Value) (c' : Nat), (∀ b o, b ≠ S → b ≠ it → s.heap.get? b = some o → h'.get? b = some o) → h'.get? S = some { cls := .type "list", dict := none, data := .seq acc' c', slots := #[] } → ItemsOf (fun i v => items[items.size - 1 - i]? = some v) acc' items.size → R (.ok (.ret res)) { s with heap := h', toks := tk }) :
    wpAny (model prog w) A.in1 (Builtin.List.listExtendWith (.ref S) (.ref it) res)
      (fun fin s' => match fin with | .done f => R (.ok f) s' | .again c' => c'.quiet = true ∧ codeAny (model prog w) A c' R s') (fun e s' => R (.error e) s') s := by
  have W := (tupRev (prog := prog) (w := w) (A := A.in1) hh it t hne items hn).toS
  have hSf : S ∉ [it, t] := by simp only [List.mem_cons, List.not_mem_nil, or_false, not_or]; exact ⟨hSi, hSt⟩
  have hT : s.TypeIs (.ref it) "reversed" := hit.typeIs
  unfold Builtin.List.listExtendWith
  refine wpAny_bind (wpAny_typeOf hT ?_)
  have h1 : Builtin.List.listSameRef (.ref S) (.ref it) = false := by simp [Builtin.List.listSameRef, hSi]
  rw [if_neg (by rw [h1]; decide)]
  refine wpAny_bind (iter_rt hit ?_)
  refine wpAny_bind (wpAny_holding ?_)
  unfold Builtin.List.listLengthHint
  refine wpAny_bind (wpAny_specialOf hT nolen_rt ?_)
  show wpAny _ A.in1 (specialOf (Value.ref it) (Str.ofString "__length_hint__") >>= _) _ _ _
  refine wpAny_bind (wpAny_specialOf hT hint_rt ?_)
  generalize hid : ("reversed.__length_hint__" : String) = id0
  wp_delta
  rw [show splitId id0 = some ("reversed", "__length_hint__") from by subst hid; decide +kernel]
  subst hid
  refine wpAny_bind (wpAny_isInstance (b := true) hT (by rw [isSubtype_type]; kernel_rfl) ?_)
  rw [if_neg (by decide)]
  show wpAny _ A.in1 (if _ then _ else _) _ _ _
  rw [if_neg (by decide +kernel)]
  refine wpAny_bind (wpAny_rule ?_)
  refine wpAny_bind (wpAny_of_eq (slot_rt_hint.bind _) ?_)
  try dsimp only
  refine wpAny_bind (wpAny_attempt (call_hint_rt hit ht hn fun tk tk' => ?_))
  try dsimp only
  have hn2 := hn
  rw [sizeLine_eq] at hn2
  rw [asInt_int]
  generalize hN : ((items.size : Nat) : Int) = N
  refine wpAny_bind ?_
  refine wpAny_pure ?_
  dsimp only
  have hfit : Builtin.List.listFitsIndex N = true := by
    rw [← hN]
    simp only [Builtin.List.listFitsIndex, Bool.and_eq_true, decide_eq_true_eq]; omega
  have hlong : Builtin.List.listTooLong N.toNat = false := by
    rw [← hN]
    simp only [Builtin.List.listTooLong, decide_eq_false_iff_not]; omega
  rw [if_neg (by rw [hfit]; decide), if_neg (by omega), if_neg (by rw [hlong]; decide)]
  refine wpAny_pure ?_
  have e0 : ((items.size : Nat) : Int) - 1 - ((0 : Nat) : Int) = (items.size : Int) - 1 := by omega
  by_cases hz0 : items.size = 0
  · have hN0 : N = 0 := by omega
    rw [if_neg (by rw [hN0]; decide +kernel)]
    refine wpAny_pure ⟨plainId_quiet F.plain_extend_loop _, codeAny_extend_loopS W hn _ hSf _ items.size 0 _ _ _ rfl (Nat.zero_le _) ⟨Nat.zero_le _, by rw [e0]; exact hit, ht⟩ hS (ItemsOf.nil _) fun s' acc' c' hm hS' hacc => ?_⟩
    rw [Moved.eq_with hm]
    refine hR s'.heap s'.toks acc' c' (fun b o hb hb2 e => hm.heap b o (fun hmem => ?_) e) hS' hacc
    rcases List.mem_cons.mp hmem with e' | hmem
    · exact hb e'
    · exact hb2 (List.mem_singleton.mp hmem)
  · have hne0 : (N != 0) = true := by
      rw [← hN]; simpa using hz0
    rw [if_pos (by rw [hne0]; rfl)]
    refine wpAny_bind (wpAny_rule ?_)
    refine wpAny_bind ?_
    show wpAny _ A.in1 (updateSeq S (·.push .none) >>= fun _ => updateSeq S (·.pop)) _ _ _
    refine wpAny_bind (wpAny_updateSeq (s := { s with toks := tk }) hS rfl ?_)
    have hS₂ := Heap.get?_update_self (Obj.mapSeq (·.push Value.none)) hS rfl
    refine wpAny_updateSeq (hz := by seq_fits) hS₂ rfl ?_
    have hS₃ := Heap.get?_update_self (Obj.mapSeq (·.pop)) hS₂ rfl
    have oth : ∀ b o, b ≠ S → s.heap.get? b = some o → ((s.heap.update S (Obj.mapSeq (·.push Value.none))).update S (Obj.mapSeq (·.pop))).get? b = some o :=
      fun b o hb e => (Heap.get?_update_other _ _ (Ne.symm hb)).trans ((Heap.get?_update_other _ _ (Ne.symm hb)).trans e)
    refine wpAny_pure ⟨plainId_quiet F.plain_extend_loop _, codeAny_extend_loopS W hn _ hSf _ items.size 0 _ _ _ rfl (Nat.zero_le _)
      ⟨Nat.zero_le _, by rw [e0]; exact hit.at fun o e => oth it o (Ne.symm hSi) e, IsTup.at' ht fun o e => oth t o (Ne.symm hSt) e⟩ hS₃ (ItemsOf.nil _) fun s' acc' c' hm hS' hacc => ?_⟩
    rw [Moved.eq_with hm]
    refine hR s'.heap s'.toks acc' c' (fun b o hb hb2 e => hm.heap b o (fun hmem => ?_) (oth b o hb e)) hS' hacc
    rcases List.mem_cons.mp hmem with e' | hmem
    · exact hb e'
    · exact hb2 (List.mem_singleton.mp hmem)
theorem list_init_rt {it t : Addr} {items : Array Value} (hh : A.handled = none) (hn : items.size ≤ sizeLine) (S : Addr) (hit : IsRt s.heap it t ((items.size : Int) - 1)) (ht : IsTup s.heap t items) (hne : t ≠ it) (hSi : S ≠ it) (hSt : S ≠ t)
    (hS : s.heap.get? S = some { cls := .type "list", data := .seq #[] })
    (hR : ∀ (h' : Heap) (tk : Nat) (acc' : Array Value) (c' : Nat), (∀ b o, b ≠ S → b ≠ it → s.heap.get? b = some o → h'.get? b = some o) → h'.get? S = some { cls := .type "list", dict := none, data := .seq acc' c', slots := #[] } → ItemsOf (fun i v => items[items.size - 1 - i]? = some v) acc' items.size → R (.ok (.ret .none)) { s with heap := h', toks := tk }) :
    wpAny (model prog w) A.in1 (Builtin.«list.__init__» ⟨[.ref S, .ref it], []⟩)
      (fun fin s' => match fin with | .done f => R (.ok f) s' | .again c' => c'.quiet = true ∧ codeAny (model prog w) A c' R s') (fun e s' => R (.error e) s') s := by
  show wpAny _ A.in1 (do let old ← Builtin.List.listItems (.ref S); Builtin.List.listUpdate (.ref S) (fun _ => #[]); letGo old.toList.reverse; Builtin.List.listExtendWith (.ref S) (.ref it) .none) _ _ s
  refine wpAny_bind ?_
  unfold Builtin.List.listItems
  refine wpAny_bind (wpAny_seqItems hS rfl (wpAny_pure ?_))
  show wpAny _ A.in1 (updateSeq S (fun _ => #[]) >>= fun _ => letGo (#[] : Array Value).toList.reverse >>= fun _ => Builtin.List.listExtendWith (.ref S) (.ref it) .none) _ _ s
  refine wpAny_bind (wpAny_updateSeq hS rfl ?_)
  have hS₂ := Heap.get?_update_self (Obj.mapSeq (fun _ => (#[] : Array Value))) hS rfl
  have oth : ∀ b o, b ≠ S → s.heap.get? b = some o → (s.heap.update S (Obj.mapSeq (fun _ => (#[] : Array Value)))).get? b = some o :=
    fun b o hb e => (Heap.get?_update_other _ _ (Ne.symm hb)).trans e
  refine wpAny_bind (wpAny_letGo ?_)
  refine extend_rt hh hn S .none _ (hit.at fun o e => oth it o (Ne.symm hSi) e) (IsTup.at' ht fun o e => oth t o (Ne.symm hSt) e) hne hSi hSt hS₂ fun h' tk acc' c' hk hS' hacc => ?_
  exact hR h' tk acc' c' (fun b o h1 h2 e => hk b o h1 h2 (oth b o h1 e)) hS' hacc
theorem call_list_rt {it t : Addr} {items : Array Value} {Q : Value → Shared → Prop} (hh : A.handled = none) (hn : items.size ≤ sizeLine) (hit : IsRt s.heap it t ((items.size : Int) - 1)) (ht : IsTup s.heap t items) (hne : t ≠ it)
    (hQ : ∀ (h' : Heap) (tk : Nat) (acc' : Array Value) (c' : Nat), (∀ b o, b ≠ it → s.heap.get? b = some o → h'.get? b = some o) → h'.get? s.heap.objs.size = some { cls := .type "list", dict := none, data := .seq acc' c', slots := #[] } → ItemsOf (fun i v => items[items.size - 1 - i]? = some v) acc' items.size → Q (.ref s.heap.objs.size) { s with heap := h', toks := tk }) :
    wpAny (model prog w) A (call (.type "list") [.ref it]) Q E s := by
  obtain ⟨oi, hoi, _⟩ := id hit
  obtain ⟨ot, hot, _⟩ := id ht
  have hSi : s.heap.objs.size ≠ it := Nat.ne_of_gt (Heap.lt_size hoi)
  have hSt : s.heap.objs.size ≠ t := Nat.ne_of_gt (Heap.lt_size hot)
  refine callType_codes (Q₁ := fun obj s₁ => obj = .ref s.heap.objs.size ∧ s₁ = { s with heap := s.heap.push { cls := .type "list", data := .seq #[] } }) F.called_list (F.typeCall_list_1 _) F.entry_list_init
    (code_list_new _ ⟨rfl, rfl⟩) fun obj s₁ h₁ => ?_
  obtain ⟨rfl, rfl⟩ := h₁
  have hS : (s.heap.push { cls := .type "list", data := .seq #[] }).get? s.heap.objs.size = some { cls := .type "list", data := .seq #[] } := Heap.get?_push_size _ rfl
  refine ⟨⟨_, hS, rfl⟩, F.args_list_init_2 _ _, list_init_rt (A := A.in1) (s := { s with heap := s.heap.push { cls := .type "list", data := .seq #[] } }) hh hn _ (hit.at fun o e => Heap.get?_push_of_some _ e) (ht.push _) hne hSi hSt hS fun h' tk acc' c' hk hS' hacc => ?_⟩
  exact ⟨rfl, hQ h' tk acc' c' (fun b o hb e => hk b o (Nat.ne_of_lt (Heap.lt_size e)) hb (Heap.get?_push_of_some _ e)) hS' hacc⟩
end
section
variable {X : Cx}
def tLstRev (K : PySem.W.Frag) (te : TA) : TE := fun σ H Q => te σ H fun us H1 => ∃ (a : Addr) (xs : List V), us = [.ref a] ∧ SqT K H1 a xs ∧ ∀ q, H1 q = none → Q (.ref q) (upd H1 q (.lst xs.reverse))
theorem pe_lstRev {e : Expr} {te : TA} {p p2 pos pos2 : Pos} (hc : X.calm = true) (hg : Gl X "list") (hm : X.mg "list" = none) (hg2 : Gl X "reversed") (hm2 : X.mg "reversed" = none) (he : PA X [e] te)
    (hs : starEach [e] X.env = (false, eval e X.env) :: starEach [] X.env := by rfl)
    (hs2 : starEach [.Call (.Name "reversed" p2) [e] [] pos2] X.env = (false, eval (.Call (.Name "reversed" p2) [e] [] pos2) X.env) :: starEach [] X.env := by rfl) :
    PE X (.Call (.Name "list" p) [.Call (.Name "reversed" p2) [e] [] pos2] [] pos) (tLstRev X.K te) := by
  refine ⟨fun pins s σ H Q I h => ?_⟩
  refine Call_ (ld_blt I hg hm boot_list (PyProof.Rows.callWith_type1 (args_cons (Call_ (ld_blt I hg2 hm2 PyProof.Rows.boot_reversed (PyProof.Rows.callWith_type1 (thn (he.run pos2 pins s σ H _ I h) fun us s1 ⟨vs, H1, I1, r1, q1⟩ => ?_) hs rfl))) hs2) hs2 rfl))
  obtain ⟨a, xs, ev, hq, q⟩ := q1
  subst ev
  rw [Vals.ref1 r1]
  obtain ⟨its, rv, p', hz⟩ := I1.tuple hq
  have hl := rv.length
  have hn63 := line63
  refine call_reversed_tup p' (fun A E Q k => len_tuple p' (by simp only [List.size_toArray] <;> omega) k) (args_nil ?_)
  have k0 : ∀ b o, s1.heap.get? b = some o → (s1.heap.push (rtObj a ((its.toArray.size : Int) - 1))).get? b = some o := fun b o e => Heap.get?_push_of_some _ e
  obtain ⟨ot, hot, _⟩ := id p'
  have hne : a ≠ s1.heap.objs.size := Nat.ne_of_lt (Heap.lt_size hot)
  have hn : its.toArray.size ≤ sizeLine := by rw [List.size_toArray, ← rv.length]; exact hz
  refine call_list_rt (s := { s1 with heap := s1.heap.push (rtObj a ((its.toArray.size : Int) - 1)), toks := s1.toks + 1 + 1 }) (I1.ok.hd hc) hn ⟨_, Heap.get?_push_size _ rfl, rfl, rfl⟩ (p'.push _) hne fun h' tk acc c' hk hS hi => ?_
  have hsz : s1.heap.objs.size ≤ (s1.heap.push (rtObj a ((its.toArray.size : Int) - 1))).objs.size := by
    simp [Heap.push]
  refine ⟨.ref (s1.heap.push (rtObj a ((its.toArray.size : Int) - 1))).objs.size, upd H1 (s1.heap.push (rtObj a ((its.toArray.size : Int) - 1))).objs.size (.lst xs.reverse), I1.laid (t' := tk) (fun b o e => hk b o (Nat.ne_of_lt (Heap.lt_size e)) (k0 b o e)) hsz (show ObjOk X.prog X.w _ _ _ (.lst xs.reverse) from ⟨by rw [List.length_reverse]; exact hz, acc.toList, c', vals_rev rv hi, ?_⟩), rfl, q _ (I1.hok.fresh hsz)⟩
  rw [Array.toArray_toList]
  exact hS
theorem e_revl {e : Expr} {C : Call} {es : CEs} {p p2 pos pos2 : Pos} (hp : plainE e = true) (hc : X.calm = true) (hg : Gl X "list") (hm : X.mg "list" = none) (hg2 : Gl X "reversed") (hm2 : X.mg "reversed" = none) (ha : PA X [e] (tR X.K C es)) :
    PE X (.Call (.Name "list" p) [.Call (.Name "reversed" p2) [e] [] pos2] [] pos) (tE X.K C (.bi .revl es)) :=
  PE.imp (pe_lstRev hc hg hm hg2 hm2 ha (star_plain hp) (star_plain rfl)) fun σ H Q h => by
    obtain ⟨β, st, ρ, r, st', s, en, h, q⟩ := h
    simp only [ev] at h
    split at h
    · cases h
    rename_i rs st1 e1
    simp only [Option.map_eq_some_iff, Prod.mk.injEq] at h
    obtain ⟨z, e2, rfl, rfl⟩ := h
    simp only [biApp] at e2
    unfold biRevl at e2
    split at e2
    rotate_left
    · cases e2
    rename_i xs
    cases e2
    refine ⟨β, st, ρ, _, st1, s, en, e1, fun vs β1 H1 x1 s1 r1 => ?_⟩
    obtain ⟨v, rfl, hv⟩ := one_rep r1
    obtain ⟨a, ws, rfl, h1, h2⟩ := hv
    refine ⟨a, ws, rfl, h1.sq, fun b hfb => ?_⟩
    exact q _ β1 _ (x1.trans (Ext.new hfb) s1.nd) (s1.new hfb) ⟨b, _, rfl, upd_same, s1.off hfb, x1.free hfb fun hm => s1.off hfb (x1.mem hm), RepL.mono s1 (Ext.new hfb) _ _ h2.reverse⟩
end
end Mw

set_option Elab.async false
set_option linter.all false
set_option autoImplicit false
set_option maxRecDepth 100000
/-! PyB11: sorted(set(e)) of rows of numbers. -/
namespace Mw
open PySem PySem.Spec PyProof.Rows L2
/-! ### rows in order -/
theorem lexB_tot : ∀ a b : List Int, lexB a b = true ∨ lexB b a = true
  | [], _ => .inl rfl
  | _ :: _, [] => .inr rfl
  | x :: xs, y :: ys => by
    simp only [lexB, Bool.or_eq_true, Bool.and_eq_true, decide_eq_true_eq]
    rcases Int.lt_trichotomy x y with h | h | h
    · exact .inl (.inl h)
    · rcases lexB_tot xs ys with k | k
      · exact .inl (.inr ⟨h, k⟩)
      · exact .inr (.inr ⟨h.symm, k⟩)
    · exact .inr (.inl h)
theorem lexB_tr : ∀ a b c : List Int, lexB a b = true → lexB b c = true → lexB a c = true
  | [], _, _, _, _ => rfl
  | _ :: _, [], _, h, _ => by cases h
  | _ :: _, _ :: _, [], _, h => by cases h
  | x :: xs, y :: ys, z :: zs, h1, h2 => by
    simp only [lexB, Bool.or_eq_true, Bool.and_eq_true, decide_eq_true_eq] at h1 h2 ⊢
    rcases h1 with h1 | ⟨h1, k1⟩ <;> rcases h2 with h2 | ⟨h2, k2⟩
    · exact .inl (by omega)
    · exact .inl (by omega)
    · exact .inl (by omega)
    · exact .inr ⟨by omega, lexB_tr xs ys zs k1 k2⟩
theorem lexB_anti : ∀ a b : List Int, lexB a b = true → lexB b a = true → a = b
  | [], [], _, _ => rfl
  | [], _ :: _, _, h => by cases h
  | _ :: _, [], h, _ => by cases h
  | x :: xs, y :: ys, h1, h2 => by
    simp only [lexB, Bool.or_eq_true, Bool.and_eq_true, decide_eq_true_eq] at h1 h2
    rcases h1 with h1 | ⟨h1, k1⟩ <;> rcases h2 with h2 | ⟨h2, k2⟩
    · omega
    · omega
    · omega
    · rw [h1, lexB_anti xs ys k1 k2]
theorem nubT_mem : ∀ {xs : List (List Int)} {k : List Int}, k ∈ nubT xs ↔ k ∈ xs
  | [], k => by simp [nubT]
  | x :: xs, k => by
    simp only [nubT, List.mem_cons, List.mem_filter, nubT_mem (xs := xs), decide_eq_true_eq]
    by_cases h : k = x <;> simp [h]
theorem nubT_nd : ∀ xs : List (List Int), (nubT xs).Nodup
  | [] => List.nodup_nil
  | x :: xs => by
    refine List.nodup_cons.mpr ⟨fun h => ?_, (nubT_nd xs).filter _⟩
    have := (List.mem_filter.mp h).2
    simp at this
theorem sortT_mem {xs : List (List Int)} {k : List Int} : k ∈ sortT xs ↔ k ∈ xs := by
  unfold sortT
  rw [(List.mergeSort_perm _ _).mem_iff, nubT_mem]
theorem sortT_nd (xs : List (List Int)) : (sortT xs).Nodup := (List.mergeSort_perm _ _).nodup_iff.mpr (nubT_nd xs)
theorem sortT_le (xs : List (List Int)) : (sortT xs).Pairwise fun a b => lexB a b = true :=
  List.pairwise_mergeSort (le := lexB) (fun a b c => lexB_tr a b c) (fun a b => by rw [Bool.or_eq_true]; exact lexB_tot a b) (nubT xs)
/-- sorted, each once, of the same things: the same -/
theorem lex_ext : ∀ {a b : List (List Int)}, a.Pairwise (fun x y => lexB x y = true) → b.Pairwise (fun x y => lexB x y = true) → a.Nodup → b.Nodup → (∀ k, k ∈ a ↔ k ∈ b) → a = b
  | [], [], _, _, _, _, _ => rfl
  | [], y :: b, _, _, _, _, h => by have := (h y).mpr List.mem_cons_self; cases this
  | x :: a, [], _, _, _, _, h => by have := (h x).mp List.mem_cons_self; cases this
  | x :: a, y :: b, ha, hb, na, nb, h => by
    obtain ⟨a1, a2⟩ := List.pairwise_cons.mp ha
    obtain ⟨b1, b2⟩ := List.pairwise_cons.mp hb
    obtain ⟨n1, n2⟩ := List.nodup_cons.mp na
    obtain ⟨m1, m2⟩ := List.nodup_cons.mp nb
    have hxy : x = y := by
      rcases List.mem_cons.mp ((h x).mp List.mem_cons_self) with e | e
      · exact e
      · rcases List.mem_cons.mp ((h y).mpr List.mem_cons_self) with e2 | e2
        · exact e2.symm
        · exact lexB_anti x y (a1 y e2) (b1 x e)
    subst hxy
    rw [lex_ext a2 b2 n2 m2 fun k => ⟨fun hk => by
      rcases List.mem_cons.mp ((h k).mp (List.mem_cons_of_mem _ hk)) with e | e
      · exact absurd (e ▸ hk) n1
      · exact e, fun hk => by
      rcases List.mem_cons.mp ((h k).mpr (List.mem_cons_of_mem _ hk)) with e | e
      · exact absurd (e ▸ hk) m1
      · exact e⟩]
theorem code_lexB {B : Int} : ∀ {a b : List Int}, a.length = b.length → TS.Bd B a → TS.Bd B b → TS.code B a ≤ TS.code B b → lexB a b = true
  | [], _, _, _, _, _ => rfl
  | _ :: _, [], h, _, _, _ => by cases h
  | x :: xs, y :: ys, hl, h1, h2, h => by
    simp only [List.length_cons, Nat.add_right_cancel_iff] at hl
    simp only [lexB, Bool.or_eq_true, Bool.and_eq_true, decide_eq_true_eq]
    rcases Int.lt_trichotomy x y with z | z | z
    · exact .inl z
    · subst z
      refine .inr ⟨rfl, code_lexB hl h1.tail h2.tail ?_⟩
      have q := TS.code_same (B := B) (d := x) (r := ys) (q := xs) hl.symm
      by_cases hc : TS.code B ys < TS.code B xs
      · have := q.mpr hc; omega
      · omega
    · have q : TS.code B (y :: ys) < TS.code B (x :: xs) := TS.code_lt hl.symm h2.tail h1.tail z
      omega
/-- a bound of all numbers -/
def topN : List Int → Int
  | [] => 1
  | x :: xs => if x < topN xs then topN xs else x + 1
theorem topN_lt : ∀ {xs : List Int} {x : Int}, x ∈ xs → x < topN xs
  | y :: xs, x, h => by
    simp only [topN]
    rcases List.mem_cons.mp h with rfl | h
    · split <;> omega
    · have := topN_lt h
      split <;> omega
section
variable {X : Cx} {C : Call} {es : CEs} {e : Expr}
variable [Tbs]
theorem rows_ks {K : PySem.W.Frag} {β : List Addr} {H : Hp} : ∀ {rs : List (List Int)} {vs : List V}, RepL K β H (rs.map fun r => .tup (r.map .int)) vs →
    ∃ ks : List (Addr × List Int), vs = (ks.map fun p => V.ref p.1) ∧ ks.map (·.2) = rs ∧ ∀ p ∈ ks, SqU K H p.1 (p.2.map V.int)
  | [], vs, h => ⟨[], h, rfl, fun p hp => by cases hp⟩
  | r :: rs, vs, h => by
    obtain ⟨v, w, rfl, ⟨a, us, rfl, h1, h2⟩, h3⟩ := h
    obtain ⟨ks, e1, e2, e3⟩ := rows_ks h3
    refine ⟨(a, r) :: ks, by rw [e1]; rfl, by rw [← e2]; rfl, fun p hp => ?_⟩
    rcases List.mem_cons.mp hp with rfl | hp
    · rw [h2.ints] at h1; exact h1
    · exact e3 p hp
theorem ks_rows {K : PySem.W.Frag} {β : List Addr} {H : Hp} : ∀ (ks : List (Addr × List Int)), (∀ p ∈ ks, SqU K H p.1 (p.2.map V.int)) → RepL K β H ((ks.map (·.2)).map fun r => .tup (r.map .int)) (ks.map fun p => V.ref p.1)
  | [], _ => rfl
  | p :: ks, h => ⟨_, _, rfl, ⟨p.1, _, rfl, h p List.mem_cons_self, rep_ints _⟩, ks_rows ks fun q hq => h q (List.mem_cons_of_mem _ hq)⟩
theorem rowsOf_eq : ∀ {xs : List D} {rs : List (List Int)}, rowsOf xs = some rs → xs = rs.map fun r => .tup (r.map .int)
  | [], rs, h => by simp only [rowsOf, mapO, Option.some.injEq] at h; subst h; rfl
  | x :: xs, rs, h => by
    simp only [rowsOf, mapO] at h
    split at h
    · rename_i y hy
      split at h
      · rename_i ys hys
        simp only [Option.some.injEq] at h; subst h
        cases x with
        | tup zs => rw [List.map_cons, rowsOf_eq hys, intsOf_eq hy]
        | _ => cases hy
      · cases h
    · cases h
theorem e_setT {p p2 pos pos2 : Pos} (hp : plainE e = true) (hc : X.calm = true) (hu : X.A.units + 65 < cLine) (hg : Gl X "sorted") (hm : X.mg "sorted" = none) (hg2 : Gl X "set") (hm2 : X.mg "set" = none) (ha : PA X [e] (tR X.K C es)) :
    PE X (.Call (.Name "sorted" p) [.Call (.Name "set" p2) [e] [] pos2] [] pos) (tSe X.K C biSetT es) :=
  PE.imp (pe_callB (cr_sortedT hc) hg hm (by rfl) (pa_cons (pe_callTy (cr_setOfT hc (by omega)) hg2 hm2 (by rfl) ha (he := star_plain hp) (hpl := stars_plain rfl)) pa_nil (star_plain rfl)) (he := star_plain rfl) (hpl := stars_plain rfl)) fun σ H Q h => by
    obtain ⟨β, st, ρ, rs, st1, z, s, en, e1, e2, q⟩ := h
    unfold biSetT at e2
    split at e2
    rotate_left
    · cases e2
    simp only [Option.bind_eq_some_iff] at e2
    obtain ⟨xs, e3, rows, e4, e5⟩ := e2
    split at e5
    · cases e5
    rename_i r0 rt
    split at e5
    rotate_left
    · cases e5
    rename_i hb
    simp only [Bool.and_eq_true, decide_eq_true_eq, List.all_eq_true] at hb
    obtain ⟨b1, b2, b3⟩ := hb
    simp only [Option.some.injEq] at e5
    subst e5
    obtain ⟨rw_, erw⟩ : ∃ rw_, rw_ = r0 :: rt := ⟨_, rfl⟩
    rw [← erw] at e4 b2 b3 q
    refine ⟨β, st, ρ, _, st1, s, en, e1, fun vs β1 H1 x1 s1 r1 => ?_⟩
    obtain ⟨v, rfl, hv⟩ := one_rep r1
    obtain ⟨l, ws, rfl, h1, h2⟩ := listOf_sq s1 hv e3
    have e6 := rowsOf_eq e4
    subst e6
    obtain ⟨ks, e7, e8, e9⟩ := rows_ks h2
    subst e7
    have hkl : ks.length = rw_.length := by rw [← e8, List.length_map]
    refine ⟨l, ks, rfl, h1, fun p hp => (e9 p hp).sq, by omega, fun a L hfree hL1 hL2 => ?_⟩
    have x2 : Ext β1 H1 β1 (upd H1 a (SetTO X.prog X.w a L)) := Ext.new hfree
    have s2 := s1.new (o := SetTO X.prog X.w a L) hfree
    have hsq : ∀ p ∈ L, SqU X.K (upd H1 a (SetTO X.prog X.w a L)) p.1 (p.2.map V.int) := fun p hp => s1.tupU x2.keep (e9 p (hL1 p hp))
    have hrow : ∀ p ∈ L, p.2 ∈ rw_ := fun p hp => by rw [← e8]; exact List.mem_map_of_mem (hL1 p hp)
    have hbd : ∀ p ∈ L, p.2.length = r0.length ∧ TS.Bd (topN rw_.flatten) p.2 := fun p hp => by
      obtain ⟨c1, c2⟩ := b3 _ (hrow p hp)
      exact ⟨c1, fun m hm => ⟨c2 m hm, topN_lt (List.mem_flatten.mpr ⟨_, hrow p hp, hm⟩)⟩⟩
    refine ⟨a, L, r0.length, topN rw_.flatten, rfl, upd_same, fun p hp => (hsq p hp).sq, b1, hbd, fun L' b pm nd lt pw hfb => ?_⟩
    have x12 := x1.trans x2 s1.nd
    have hso : L'.map (·.2) = sortT rw_ := by
      refine lex_ext ?_ (sortT_le _) nd (sortT_nd _) fun k => ?_
      · rw [List.pairwise_map]
        refine List.Pairwise.imp_of_mem (fun {p r} hp hr hle => ?_) pw
        obtain ⟨c1, c2⟩ := hbd p (pm.mem_iff.mp hp)
        obtain ⟨d1, d2⟩ := hbd r (pm.mem_iff.mp hr)
        exact code_lexB (c1.trans d1.symm) c2 d2 hle
      · rw [sortT_mem]
        constructor
        · intro hk
          obtain ⟨p, hp, rfl⟩ := List.mem_map.mp hk
          exact hrow p (pm.mem_iff.mp hp)
        · intro hk
          rw [← e8] at hk
          obtain ⟨p, hp, rfl⟩ := List.mem_map.mp hk
          obtain ⟨p', hp', e⟩ := List.mem_map.mp (hL2 p hp)
          rw [← e]
          exact List.mem_map_of_mem (pm.mem_iff.mpr hp')
    have hsq' : ∀ p ∈ L', SqU X.K (upd (upd H1 a (SetTO X.prog X.w a L)) b (.lst (L'.map fun q => V.ref q.1))) p.1 (p.2.map V.int) := fun p hp =>
      s2.tupU (Ext.new hfb).keep (hsq p (pm.mem_iff.mp hp))
    refine q _ β1 _ (x12.trans (Ext.new hfb) s2.nd) (s2.new hfb) ⟨b, _, rfl, upd_same, s2.off hfb, x12.free hfb fun hm => s2.off hfb (x12.mem hm), ?_⟩
    rw [← hso]
    exact ks_rows L' hsq'
theorem e_set {p p2 pos pos2 : Pos} (hp : plainE e = true) (hc : X.calm = true) (hu : X.A.units + 65 < cLine) (hg : Gl X "sorted") (hm : X.mg "sorted" = none) (hg2 : Gl X "set") (hm2 : X.mg "set" = none) (ha : PA X [e] (tR X.K C es)) :
    PE X (.Call (.Name "sorted" p) [.Call (.Name "set" p2) [e] [] pos2] [] pos) (tE X.K C (.bi .set es)) :=
  PE.imp (PE.or (e_setI hp hc hg hm hg2 hm2 ha) (e_setT hp hc hu hg hm hg2 hm2 ha)) fun σ H Q h => tSe_or (fun st rs => rfl) h
end
end Mw

set_option Elab.async false
set_option linter.all false
set_option autoImplicit false
set_option maxRecDepth 100000
/-! PyZp: zip of three. -/
namespace Mw
open PySem PySem.Spec PyProof.Rows L2
variable [Tbs]
def Iz3 (k l j : Kq) (K : PySem.W.Frag) (a b c : Addr) : It :=
  ⟨fun i H => ∃ (xs ys zs : List V) (x y z : V), sqK k K H a xs ∧ sqK l K H b ys ∧ sqK j K H c zs ∧ xs[i]? = some x ∧ ys[i]? = some y ∧ zs[i]? = some z,
    fun i H v H' => ∃ T x y z, v = .ref T ∧ H T = none ∧ H' = upd H T (.tup [x, y, z]) ∧ (∀ xs, sqK k K H a xs → xs[i]? = some x) ∧ (∀ ys, sqK l K H b ys → ys[i]? = some y) ∧ ∀ zs, sqK j K H c zs → zs[i]? = some z,
    fun i H => ∃ xs ys zs : List V, sqK k K H a xs ∧ sqK l K H b ys ∧ sqK j K H c zs ∧ min (min xs.length ys.length) zs.length = i⟩
def ZSt3 (k l j : Kq) (N : Addr) (a b c : Addr) (i : Nat) (h : Heap) : Prop :=
  IsZip h (N + 5) (N + 3) (N + 4) .none ∧ IsTupOf3 h (N + 3) (.ref N) (.ref (N + 1)) (.ref (N + 2)) ∧ (∃ a1 a2 a3, IsTupOf3 h (N + 4) a1 a2 a3) ∧ itK k h N a i ∧ itK l h (N + 1) b i ∧ itK j h (N + 2) c i ∧ a < N ∧ b < N ∧ c < N
theorem lt6 {N T S c : Nat} (h : N + 5 < S) (h2 : S ≤ T) (hc : c = N + 5 ∨ c = N + 3 ∨ c = N + 4 ∨ c = N ∨ c = N + 1 ∨ c = N + 2) : c < T := by omega
theorem turn_z3 {P : Program} {w : World} {K : PySem.W.Frag} {elts : List Expr} {kk : Nat} {tpos : Pos} {k l j : Kq} {a b d N : Addr} :
    Turn P w K (.Tuple elts kk tpos) (Iz3 k l j K a b d) [N + 5, N + 3, N + 4, N, N + 1, N + 2] (N + 5) (ZSt3 k l j N a b d) where
  mem := by simp
  obj := fun i h st c hc => by
    obtain ⟨hz, hTI, ⟨x, y, z, hTO⟩, h1, h2, h3, _⟩ := st
    simp only [List.mem_cons, List.not_mem_nil, or_false] at hc
    rcases hc with rfl | rfl | rfl | rfl | rfl | rfl
    · exact ⟨_, hz, fun v q => nomatch q⟩
    · exact ⟨_, hTI, fun v q => nomatch q⟩
    · exact ⟨_, hTO, fun v q => nomatch q⟩
    · exact it_obj h1
    · exact it_obj h2
    · exact it_obj h3
  keep := fun i h h' st kp => by
    obtain ⟨hz, hTI, ⟨x, y, z, hTO⟩, h1, h2, h3, l1, l2, l3⟩ := st
    exact ⟨kp _ (by simp) _ hz, kp _ (by simp) _ hTI, ⟨x, y, z, kp _ (by simp) _ hTO⟩, it_keep h1 (fun o q => kp _ (by simp) o q), it_keep h2 (fun o q => kp _ (by simp) o q), it_keep h3 (fun o q => kp _ (by simp) o q), l1, l2, l3⟩
  item := by
    intro X hP hw hK hc i pins s σ H E I hf st hg
    subst hP hw hK
    obtain ⟨hz, hTI, ⟨a1, a2, a3, hTO⟩, h1, h2, h3, l1, l2, l3⟩ := st
    obtain ⟨xs, ys, zs, x, y, z, hq, hq', hq3, hx, hy, hzz⟩ := hg
    obtain ⟨its, rv, co, _⟩ := sq_inv I hq
    obtain ⟨its2, rv2, co2, _⟩ := sq_inv I hq'
    obtain ⟨its3, rv3, co3, _⟩ := sq_inv I hq3
    obtain ⟨u, hu, ru⟩ := rv.get hx
    obtain ⟨u2, hu2, ru2⟩ := rv2.get hy
    obtain ⟨u3, hu3, ru3⟩ := rv3.get hzz
    have sep : ZipSep3 (N + 5) (N + 3) (N + 4) N (N + 1) (N + 2) [N, a] [N + 1, b] [N + 2, d] :=
      zip_sep3 (fp1 := [a]) (fp2 := [b]) (fp3 := [d]) (fun c hc => by rw [List.mem_singleton.mp hc]; exact l1) (fun c hc => by rw [List.mem_singleton.mp hc]; exact l2) (fun c hc => by rw [List.mem_singleton.mp hc]; exact l3)
    have W := GoesN.zip3 (prog := X.prog) (w := X.w) (A := X.A) (elts := elts) (x1 := kk) (pos := tpos) sep (draws_k (k := k) (prog := X.prog) (w := X.w) (A := X.A.in1) (I.ok.hd hc) (it_ne h1 co) its.toArray) (draws_k (k := l) (prog := X.prog) (w := X.w) (A := X.A.in1) (I.ok.hd hc) (it_ne h2 co2) its2.toArray) (draws_k (k := j) (prog := X.prog) (w := X.w) (A := X.A.in1) (I.ok.hd hc) (it_ne h3 co3) its3.toArray)
    have b1 := (List.getElem?_eq_some_iff.mp hu).1
    have b2 := (List.getElem?_eq_some_iff.mp hu2).1
    have b3 := (List.getElem?_eq_some_iff.mp hu3).1
    have hil : i < min (min its.toArray.size its2.toArray.size) its3.toArray.size := by simp only [List.size_toArray]; omega
    refine W.goes i s _ E hil ⟨hz, hTI, ⟨a1, a2, a3, hTO⟩, ⟨h1, co⟩, ⟨h2, co2⟩, ⟨h3, co3⟩⟩ fun v h' tk hY st' hk _ => ?_
    obtain ⟨T, y1, y2, y3, rfl, hT, hy1, hy2, hy3, hTT⟩ := hY
    have e1 : y1 = u := by
      rw [List.getElem?_toArray, hu] at hy1
      exact (Option.some.inj hy1).symm
    have e2 : y2 = u2 := by
      rw [List.getElem?_toArray, hu2] at hy2
      exact (Option.some.inj hy2).symm
    have e3 : y3 = u3 := by
      rw [List.getElem?_toArray, hu3] at hy3
      exact (Option.some.inj hy3).symm
    subst e1 e2 e3
    have sub : ∀ c, c ∈ [N + 5, N + 4, N, N + 1, N + 2] → c ∈ [N + 5, N + 3, N + 4, N, N + 1, N + 2] := fun c hc => by
      simp only [List.mem_cons, List.not_mem_nil, or_false] at hc ⊢
      rcases hc with z | z | z | z | z <;> simp [z]
    have I1 : Inv X pins σ (upd H T (.tup [x, y, z])) { s with heap := h', toks := tk } :=
      I.turnedNew (t' := tk) (ch := [N + 5, N + 4, N, N + 1, N + 2]) (fun c o hcn q => hk c o hcn q) (fun c hc => hf c (sub c hc)) hT ⟨by show 3 ≤ sizeLine; decide, _, .cons ru (.cons ru2 (.cons ru3 .nil)), hTT⟩
    obtain ⟨hz', hTI', hTO', ⟨h1', _⟩, ⟨h2', _⟩, ⟨h3', _⟩⟩ := st'
    refine ⟨.ref T, _, I1, rfl, ⟨T, x, y, z, rfl, I.hok.fresh hT, rfl, fun zs hzs => by rw [sq_inj I hzs hq]; exact hx, fun zs hzs => by rw [sq_inj I hzs hq']; exact hy, fun zs hzs => by rw [sq_inj I hzs hq3]; exact hzz⟩, ⟨hz', hTI', hTO', h1', h2', h3', l1, l2, l3⟩, fun c hc => ?_⟩
    have hzl : N + 5 < s.heap.objs.size := Heap.lt_size hz
    have hcl : c < T := lt6 hzl hT (by simpa only [List.mem_cons, List.not_mem_nil, or_false] using hc)
    rw [upd_ne (Nat.ne_of_lt hcl)]
    exact (hf c hc).1
  done := by
    intro X hP hw hK hc i pins s σ H E I hf st hg
    subst hP hw hK
    obtain ⟨hz, hTI, ⟨a1, a2, a3, hTO⟩, h1, h2, h3, l1, l2, l3⟩ := st
    obtain ⟨xs, ys, zs, hq, hq', hq3, hn⟩ := hg
    obtain ⟨its, rv, co, _⟩ := sq_inv I hq
    obtain ⟨its2, rv2, co2, _⟩ := sq_inv I hq'
    obtain ⟨its3, rv3, co3, _⟩ := sq_inv I hq3
    have sep : ZipSep3 (N + 5) (N + 3) (N + 4) N (N + 1) (N + 2) [N, a] [N + 1, b] [N + 2, d] :=
      zip_sep3 (fp1 := [a]) (fp2 := [b]) (fp3 := [d]) (fun c hc => by rw [List.mem_singleton.mp hc]; exact l1) (fun c hc => by rw [List.mem_singleton.mp hc]; exact l2) (fun c hc => by rw [List.mem_singleton.mp hc]; exact l3)
    have W := GoesN.zip3 (prog := X.prog) (w := X.w) (A := X.A) (elts := elts) (x1 := kk) (pos := tpos) sep (draws_k (k := k) (prog := X.prog) (w := X.w) (A := X.A.in1) (I.ok.hd hc) (it_ne h1 co) its.toArray) (draws_k (k := l) (prog := X.prog) (w := X.w) (A := X.A.in1) (I.ok.hd hc) (it_ne h2 co2) its2.toArray) (draws_k (k := j) (prog := X.prog) (w := X.w) (A := X.A.in1) (I.ok.hd hc) (it_ne h3 co3) its3.toArray)
    have en : min (min its.toArray.size its2.toArray.size) its3.toArray.size = i := by rw [List.size_toArray, List.size_toArray, List.size_toArray, ← rv.length, ← rv2.length, ← rv3.length]; exact hn
    have sub : ∀ c, c ∈ [N + 5, N + 4, N, N + 1, N + 2] → c ∈ [N + 5, N + 3, N + 4, N, N + 1, N + 2] := fun c hc => by
      simp only [List.mem_cons, List.not_mem_nil, or_false] at hc ⊢
      rcases hc with z | z | z | z | z <;> simp [z]
    exact W.stops s (fun s1 => Inv X pins σ H s1) E (by rw [en]; exact ⟨hz, hTI, ⟨a1, a2, a3, hTO⟩, ⟨h1, co⟩, ⟨h2, co2⟩, ⟨h3, co3⟩⟩) fun h' tk hk _ => I.turnedL (ch := [N + 5, N + 4, N, N + 1, N + 2]) (fun c o hcn q => hk c o hcn q) fun c hc => hf c (sub c hc)
  self := fun A i s Q E st h => wpAny_pyIter_zip st.1 h
def iZ3 (k l j : Kq) (K : PySem.W.Frag) (ta : TA) : TI := fun σ H R => ta σ H fun vs H1 => ∃ a b c xs ys zs, vs = [.ref a, .ref b, .ref c] ∧ sqK k K H1 a xs ∧ sqK l K H1 b ys ∧ sqK j K H1 c zs ∧ R (Iz3 k l j K a b c) H1
theorem pi_z3 {X : Cx} {k l j : Kq} {e e2 e3 : Expr} {ta : TA} {p pos tpos : Pos} {elts : List Expr} {kk : Nat} (hg : Gl X "zip") (hm : X.mg "zip" = none) (ha : PA X [e, e2, e3] ta)
    (hs : starEach [e, e2, e3] X.env = (false, eval e X.env) :: starEach [e2, e3] X.env) (hpl : (backTo pos (starEach [e2, e3] X.env)).any (·.1) = false) :
    PI X (.Tuple elts kk tpos) (.Call (.Name "zip" p) [e, e2, e3] [] pos) (iZ3 k l j X.K ta) := by
  refine ⟨fun pins s σ H R I h => ?_⟩
  refine Call_ (ld_blt I hg hm PyProof.Rows.boot_zip (PyProof.Rows.callWith_type1 (thn (ha.run pos pins s σ H _ I h) fun us s1 ⟨vs, H1, I1, r1, q1⟩ => ?_) hs hpl))
  obtain ⟨a, b, c, xs, ys, zs, ex, hq, hq', hq3, q⟩ := q1
  subst ex
  cases r1 with
  | cons r rr =>
    cases rr with
    | cons r' rr =>
      cases rr with
      | cons r3 rr =>
        cases rr
        cases r
        cases r'
        cases r3
        obtain ⟨its, rv, co, _⟩ := sq_inv I1 hq
        obtain ⟨its2, rv2, co2, _⟩ := sq_inv I1 hq'
        obtain ⟨its3, rv3, co3, _⟩ := sq_inv I1 hq3
        refine zip_begins3 (begins_k k a its.toArray) (begins_k l b its2.toArray) (begins_k j c its3.toArray) co co2 co3 fun h' hz hTI hTO h1 h2 h3 hsz hk => wpAny_pyIter_zip hz ?_
        have I2 : Inv X pins σ H1 { s1 with heap := h' } := I1.kept (t' := s1.toks) hk
        refine ⟨s1.heap.objs.size + 5, [s1.heap.objs.size + 5, s1.heap.objs.size + 3, s1.heap.objs.size + 4, s1.heap.objs.size, s1.heap.objs.size + 1, s1.heap.objs.size + 2], _, _, H1, rfl, I2, turn_z3 (k := k) (l := l) (j := j) (a := a) (b := b) (d := c), ⟨hz, hTI, ⟨_, _, _, hTO⟩, it_of h1, it_of h2, it_of h3, co_lt co, co_lt co2, co_lt co3⟩, fun c hcm => ?_, q⟩
        have hle : s1.heap.objs.size ≤ c := by
          simp only [List.mem_cons, List.not_mem_nil, or_false] at hcm
          rcases hcm with z | z | z | z | z | z
          · rw [z]; exact Nat.le_add_right _ _
          · rw [z]; exact Nat.le_add_right _ _
          · rw [z]; exact Nat.le_add_right _ _
          · rw [z]; exact Nat.le_refl _
          · rw [z]; exact Nat.le_add_right _ _
          · rw [z]; exact Nat.le_add_right _ _
        exact I1.fpOk hle (I1.hok.fresh hle)
section
variable {X : Cx} {C : Call} {K : PySem.W.Frag}
theorem three_rep {β : List Addr} {H H0 : Hp} {r r' r3 : RV} {vs : List V} (h : RRepL K β H H0 [r, r', r3] vs) : ∃ v v' v3, vs = [v, v', v3] ∧ RRep K β H H0 r v ∧ RRep K β H H0 r' v' ∧ RRep K β H H0 r3 v3 := by
  obtain ⟨v, w, rfl, h1, h2⟩ := h
  obtain ⟨v', v3, rfl, h3, h4⟩ := two_rep h2
  exact ⟨v, v', v3, rfl, h1, h3, h4⟩
theorem itok_z3 {k l j : Kq} {β : List Addr} {H : Hp} {v w u : SV} {a b c : Addr} (h : Stn k K β H v a) (h' : Stn l K β H w b) (h3 : Stn j K β H u c) (hl : Lens K H) : ItOk K β H ⟨List.zipWith (fun x (y : D × D) => .tup [x, y.1, y.2]) v.xs (w.xs.zip u.xs), v.ws ++ w.ws ++ u.ws, false⟩ (Iz3 k l j K a b c) := by
  obtain ⟨vs, f1, f2, f3⟩ := h
  obtain ⟨us, f1', f2', f3'⟩ := h'
  obtain ⟨ts, p1, p2, p3⟩ := h3
  refine ⟨fun β2 st2 H2 x2 s2 hc i d hd => ?_, fun β2 st2 H2 x2 s2 hc => ?_, fun _ => ?_⟩
  · have hc12 := chk_app hc
    have hc1 := chk_app hc12.1
    obtain ⟨vs2, g1, g2⟩ := f3 β2 st2 H2 x2 s2 hc1.1
    obtain ⟨us2, g1', g2'⟩ := f3' β2 st2 H2 x2 s2 hc1.2
    obtain ⟨ts2, t1, t2⟩ := p3 β2 st2 H2 x2 s2 hc12.2
    simp only [List.getElem?_zipWith] at hd
    split at hd
    · rename_i x y hx hy
      simp only [Option.some.injEq] at hd
      subst hd
      obtain ⟨y1, y2⟩ := y
      obtain ⟨hy1, hy2⟩ := List.getElem?_zip_eq_some.mp hy
      obtain ⟨x', hx', rx⟩ := RepL.at g2 hx
      obtain ⟨y', hy', ry⟩ := RepL.at g2' hy1
      obtain ⟨z', hz', rz⟩ := RepL.at t2 hy2
      refine ⟨⟨vs2, us2, ts2, x', y', z', g1, g1', t1, hx', hy', hz'⟩, fun z H3 hz => ?_⟩
      obtain ⟨T, x3, y3, z3, rfl, hT, rfl, ex, ey, ez⟩ := hz
      have e1 := ex vs2 g1
      have e2 := ey us2 g1'
      have e3 := ez ts2 t1
      rw [hx'] at e1
      rw [hy'] at e2
      rw [hz'] at e3
      cases e1
      cases e2
      cases e3
      exact ⟨.new hT, s2.new hT, _, _, rfl, SqU.of upd_same, _, _, rfl, Rep.mono s2 (.new hT) _ _ rx, _, _, rfl, Rep.mono s2 (.new hT) _ _ ry, _, [], rfl, Rep.mono s2 (.new hT) _ _ rz, rfl⟩
    · cases hd
  · have hc12 := chk_app hc
    have hc1 := chk_app hc12.1
    obtain ⟨vs2, g1, g2⟩ := f3 β2 st2 H2 x2 s2 hc1.1
    obtain ⟨us2, g1', g2'⟩ := f3' β2 st2 H2 x2 s2 hc1.2
    obtain ⟨ts2, t1, t2⟩ := p3 β2 st2 H2 x2 s2 hc12.2
    exact ⟨vs2, us2, ts2, g1, g1', t1, by simp only [List.length_zipWith, List.length_zip]; rw [g2.length, g2'.length, t2.length]; omega⟩
  · simp only [List.length_zipWith]
    have := hl k a vs f1
    rw [f2.length]
    omega
theorem s_zp3 {e e' e3 : Expr} {es : CEs} {p pos tpos : Pos} {elts : List Expr} {kk : Nat} (hl : lenC es = 3) (hp : plainE e = true) (hp' : plainE e' = true) (hp3 : plainE e3 = true) (hg : Gl X "zip") (hm : X.mg "zip" = none) (ha : PA X [e, e', e3] (tR X.K C es)) :
    PI X (.Tuple elts kk tpos) (.Call (.Name "zip" p) [e, e', e3] [] pos) (tS X.K C (.zp es)) :=
  have P := fun (k l j : Kq) => PI.len (pi_z3 (k := k) (l := l) (j := j) (p := p) (pos := pos) (tpos := tpos) (elts := elts) (kk := kk) hg hm ha (star_plain hp) (stars_plain (by simp [hp', hp3])))
  PI.imp (PI.or (PI.or (PI.or (P .L .L .L) (P .L .L .T)) (PI.or (P .L .T .L) (P .L .T .T))) (PI.or (PI.or (P .T .L .L) (P .T .L .T)) (PI.or (P .T .T .L) (P .T .T .T)))) fun σ H R ⟨β, st, ρ, v, st', s, en, e, q⟩ => by
    simp only [evS] at e
    split at e
    · cases e
    rename_i rs st1 e1
    simp only [Option.map_eq_some_iff, Prod.mk.injEq] at e
    obtain ⟨w, e2, rfl, rfl⟩ := e
    have hlr := evR_len e1
    unfold zpOf at e2
    split at e2
    · simp [hl] at hlr
    · rename_i a b c
      split at e2
      · rename_i p q' u hp hq hu
        simp only [Option.some.injEq] at e2
        subst e2
        have go : tR X.K C es σ H fun vs H1 => ∃ a' b' c' xs ys zs, vs = [.ref a', .ref b', .ref c'] ∧ sqK (kqOf a) X.K H1 a' xs ∧ sqK (kqOf b) X.K H1 b' ys ∧ sqK (kqOf c) X.K H1 c' zs ∧ (Lens X.K H1 → R (Iz3 (kqOf a) (kqOf b) (kqOf c) X.K a' b' c') H1) := by
          refine seqR s en e1 fun vs β1 H1 x1 s1 r1 en1 => ?_
          obtain ⟨v, v', v3, rfl, rv, rv', rv3⟩ := three_rep r1
          obtain ⟨a', xs, rfl, f1, f2⟩ := Stn.of s1 rv hp
          obtain ⟨b', ys, rfl, g1, g2⟩ := Stn.of s1 rv' hq
          obtain ⟨c', zs, rfl, t1, t2⟩ := Stn.of s1 rv3 hu
          exact ⟨a', b', c', xs, ys, zs, rfl, f1, g1, t1, fun hz => q β1 H1 _ x1 s1 (itok_z3 f2 g2 t2 hz)⟩
        cases hk : kqOf a <;> cases hk' : kqOf b <;> cases hk3 : kqOf c <;> rw [hk, hk', hk3] at go
        · exact .inl (.inl (.inl go))
        · exact .inl (.inl (.inr go))
        · exact .inl (.inr (.inl go))
        · exact .inl (.inr (.inr go))
        · exact .inr (.inl (.inl go))
        · exact .inr (.inl (.inr go))
        · exact .inr (.inr (.inl go))
        · exact .inr (.inr (.inr go))
      · cases e2
    · cases e2
end
end Mw

set_option Elab.async false
set_option linter.all false
set_option autoImplicit false
set_option maxRecDepth 100000
/-! PyD: the checker of core text against the program's text, expressions. -/
namespace Mw
open PySem PySem.Spec PyProof.Rows L2
variable [Tbs]
/-! ### tests and values -/
def plainT : Expr → Bool
  | .UnaryOp .Not _ _ => false
  | .BoolOp .. => false
  | .IfExp .. => false
  | .Compare .. => false
  | _ => true
theorem isTrue_plainT {e : Expr} {env : PySem.Env} (h : plainT e = true) (whole : Sem Value) : isTrue e env whole = (do let v ← whole; standAt e.pos; holding [v] (truthy v)) := by
  cases e with
  | UnaryOp op x pos => cases op <;> first | rfl | (cases h)
  | BoolOp _ _ _ => cases h
  | IfExp _ _ _ _ => cases h
  | Compare _ _ _ _ => cases h
  | _ => rfl
structure J (X : Cx) (C : Call) (c : CE) (e : Expr) : Prop where
  pe : PE X e (tE X.K C c)
  pt : PT X e (tT X.K C c)
  pw : ∀ op vs pos, e = .BoolOp op vs pos → PW X e (tT X.K C c)
section
variable {X : Cx} {C : Call} {c a b : CE} {e l r m : Expr} {pos : Pos}
theorem J.of (h : PE X e (tE X.K C c)) (ht : plainT e = true) : J X C c e :=
  ⟨h, PT.imp (pt_truth h (isTrue_plainT ht)) fun _ _ _ => tT_tE, fun op vs pos z => by subst z; cases ht⟩
theorem J.of2 (h : PE X e (tE X.K C c)) (ht : PT X e (tT X.K C c)) (hn : ∀ op vs pos, e ≠ .BoolOp op vs pos) : J X C c e := ⟨h, ht, fun op vs pos z => (hn op vs pos z).elim⟩
theorem J.bad : J X C .bad e :=
  ⟨⟨fun _ _ _ _ _ _ ⟨_, _, _, _, _, _, _, ee, _⟩ => by simp [ev] at ee⟩, ⟨fun _ _ _ _ _ _ ⟨_, _, _, _, _, _, _, ee, _⟩ => by simp [ev, evT] at ee⟩, fun _ _ _ _ => ⟨fun _ _ _ _ _ _ _ ⟨_, _, _, _, _, _, _, ee, _⟩ => by simp [ev, evT] at ee⟩⟩
/-- one operand alone -/
theorem J.one {op : BoolOp} (h : J X C c e) : PE X (.BoolOp op [e] pos) (tE X.K C c) ∧ PW X (.BoolOp op [e] pos) (tT X.K C c) :=
  ⟨pe_one h.pe, by cases op; exact pw_and1 h.pt; exact pw_or1 h.pt⟩
theorem J.and {rest : List Expr} (h : J X C a l) (h2 : PE X (.BoolOp .And (r :: rest) pos) (tE X.K C b) ∧ PW X (.BoolOp .And (r :: rest) pos) (tT X.K C b)) : J X C (.and a b) (.BoolOp .And (l :: r :: rest) pos) :=
  ⟨e_and h.pe h2.1, (w_and h.pt h2.2).pt, fun _ _ _ _ => w_and h.pt h2.2⟩
theorem J.or {rest : List Expr} (h : J X C a l) (h2 : PE X (.BoolOp .Or (r :: rest) pos) (tE X.K C b) ∧ PW X (.BoolOp .Or (r :: rest) pos) (tT X.K C b)) : J X C (.or a b) (.BoolOp .Or (l :: r :: rest) pos) :=
  ⟨e_or h.pe h2.1, (w_or h.pt h2.2).pt, fun _ _ _ _ => w_or h.pt h2.2⟩
theorem pt_ite {tc tl tr : TT} (hm : PT X m tc) (hl : PT X l tl) (hr : PT X r tr) : PT X (.IfExp m l r pos) (fun σ H Q => tc σ H fun b H1 => if b = true then tl σ H1 Q else tr σ H1 Q) := by
  refine ⟨fun pins s σ H Q I h => ?_⟩
  show wpAny _ _ (do if ← isTrue m X.env (eval m X.env) then isTrue l X.env (eval l X.env) else isTrue r X.env (eval r X.env)) _ _ _
  refine wpAny_bind (thn (hm.run pins s σ H _ I h) fun b s1 ⟨H1, I1, q⟩ => ?_)
  cases b with
  | true => exact hl.run pins s1 σ H1 Q I1 q
  | false => exact hr.run pins s1 σ H1 Q I1 q
theorem c_ite (hc : PT X m (tT X.K C c)) (ha : PT X l (tT X.K C a)) (hb : PT X r (tT X.K C b)) : PT X (.IfExp m l r pos) (tT X.K C (.ite c a b)) :=
  PT.imp (pt_ite hc ha hb) fun σ H Q ⟨β, st, ρ, k, st', s, en, e, q⟩ => by
    simp only [evT, ev] at e
    cases e1 : ev C c ρ st with
    | none => rw [e1] at e; cases e
    | some r1 =>
      obtain ⟨x, st1⟩ := r1
      rw [e1] at e
      simp only at e
      cases e2 : truth st1 x with
      | none => rw [e2] at e; cases e
      | some t =>
        rw [e2] at e
        have et : evT C c ρ st = some (t, st1) := by simp [evT, e1, e2]
        refine seqT s en et fun β1 H1 x1 s1 en1 => ?_
        cases t with
        | true =>
          rw [if_pos rfl]
          exact ⟨β1, st1, ρ, k, st', s1, en1, e, fun β2 H2 x2 s2 => q β2 H2 (x1.trans x2 s2.nd) s2⟩
        | false =>
          rw [if_neg Bool.false_ne_true]
          exact ⟨β1, st1, ρ, k, st', s1, en1, e, fun β2 H2 x2 s2 => q β2 H2 (x1.trans x2 s2.nd) s2⟩
end
/-! ### what is known where a text stands -/
structure Gd where
  N : List Str
  fr : List Str
  fns : List (Str × Nat)
  cs : List (Str × D)
  /-- methods: the table's name, the class, the method, how many parameters -/
  ms : List (Str × Str × Str × Nat) := []
  /-- classes with their attributes -/
  cl : List (Str × List Str) := []
  ex : List Str := []
  xm : List (Str × Str) := []
  ix : Ix := {}
  lam : Bool := false
structure Gk (X : Cx) (C : Call) (G : Gd) (sc : Scope) (fnb : Str → Bool) : Prop where
  n : X.N = G.N
  hsc : X.env.scope = sc
  kind : sc.kind = .function
  calm : X.calm = true
  nd : G.N.Nodup
  fn : ∀ x, fnb x = true → X.fn x = true
  units : X.A.units + 65 < cLine
  gd : X.A.guards = some []
  fr : ∀ x, x ∈ G.fr → X.mg x = none
  fns : ∀ p, p ∈ G.fns → ∃ (k : Nat) (g : Addr) (fd : FuncData) (ps : List Str), X.mg p.1 = some (.ref g) ∧ PySem.W.keepIn X.K (.ref g) = true ∧ Binds X.K fd ps [] ∧ FnG X.prog X.w X.K X.mg X.base k g fd ps (spG X.K C p.1 ps.length) ∧ ps.length = p.2 ∧ RoomG k X.A
  cs : ∀ p, p ∈ G.cs → ∃ (v : V) (u : Value), X.mg p.1 = some u ∧ RelV v u ∧ ∀ β H, Rep X.K β H p.2 v
  ms : ∀ p, p ∈ G.ms → ∃ (k : Nat) (g : Addr) (fd : FuncData) (ps : List Str), Cls X.K (He.ga X.K p.2.1) ∧ (if p.2.2.1 = "__init__" then Mk X.K (He.ga X.K p.2.1) g ∧ X.mg p.2.1 = some (.ref (He.ga X.K p.2.1)) else Meth X.K (He.ga X.K p.2.1) p.2.2.1 g) ∧ Binds X.K fd ps [] ∧ FnG X.prog X.w X.K X.mg X.base k g fd ps (spG X.K C p.1 ps.length) ∧ ps.length = p.2.2.2 ∧ RoomG k X.A
  cl : ∀ p, p ∈ G.cl → Cls X.K (He.ga X.K p.1) ∧ ∀ f, f ∈ p.2 → NoAttr X.K (He.ga X.K p.1) f
  ex : ∀ x, x ∈ G.ex → X.mg x = some (.ref (He.ga X.K x)) ∧ PySem.W.excIn X.K (He.ga X.K x) He.veBase "ValueError.__new__" = true ∧ PySem.W.keepIn X.K (.ref (He.ga X.K x)) = true ∧ PySem.W.subIn X.K (.ref (He.ga X.K x)) (.type "BaseException") = some true ∧ PySem.W.typeIn X.K (.ref (He.ga X.K x)) = some (.type "type")
  xm : ∀ p, p ∈ G.xm → X.mg p.2 = some (.ref (He.ga X.K p.2)) ∧ PySem.W.exmOne X.K (.ref (He.ga X.K p.1)) (.ref (He.ga X.K p.2)) = some true
  ix : IxOk X.K X.mg G.ix
  lam : G.lam = true → LamOk X
def glB (sc : Scope) (x : Str) : Bool := decide (sc.names.lookup x = some .globalImplicit)
def visB (sc : Scope) (x : Str) : Bool := decide (sc.names.lookup x = some .local) || (decide (sc.names.lookup x = some .cell) || decide (sc.names.lookup x = some .free))
def nmB (x : Str) : Bool := decide (x ≠ "__debug__") && (decide (x ≠ "__classdict__") && decide (x ≠ "__name__"))
theorem nmB_ok {x : Str} (h : nmB x = true) : (x == ("__debug__" : Str)) = false ∧ (x == ("__classdict__" : Str)) = false ∧ x ≠ "__name__" := by
  simp only [nmB, Bool.and_eq_true, decide_eq_true_eq] at h
  exact ⟨beq_eq_false_iff_ne.mpr h.1, beq_eq_false_iff_ne.mpr h.2.1, h.2.2⟩
section
variable {X : Cx} {C : Call} {G : Gd} {sc : Scope} {fnb : Str → Bool} (g : Gk X C G sc fnb)
theorem visB_ok {x : Str} (h : visB sc x = true) : Vis sc x := by
  simpa [visB, Vis, Bool.or_eq_true] using h
include g
theorem Gk.gl {x : Str} (h : glB sc x = true) : Gl X x := by
  have := of_decide_eq_true h
  show X.env.scope.names.lookup x = _
  rw [g.hsc]; exact this
theorem Gk.blk (s : Shared) (H : Hp) (A : Addr) (cl : List (Str × Addr)) (fp : List Addr) {scope : Scope} (hk : scope.kind = .function) : Gk (X.blk s H scope (compEnvC scope cl A X.env) fp) C G (relS scope sc) (fun x => scope.names.lookup x == some .cell) :=
  ⟨g.n, by rw [← g.hsc]; rfl, hk, g.calm, g.nd, fun _ h => h, g.units, g.gd, g.fr, g.fns, g.cs, g.ms, g.cl, g.ex, g.xm, g.ix, g.lam⟩
end
/-! ### built-ins -/
def biNm : BI → Str
  | .len => "len" | .int => "int" | .str => "str" | .repr => "repr" | .bool => "bool" | .tuple => "tuple" | .list => "list"
  | .max => "max" | .min => "min" | .sum => "sum" | .any => "any" | .all => "all" | .sorted => "sorted" | .set => "set" | .abs => "abs" | .revl => "reversed"
def biSup : BI → Bool
  | .set => false
  | .revl => false
  | _ => true
theorem bi_ok {X : Cx} (hc : X.calm = true) (hu : X.A.units + 65 < cLine) (gd : X.A.guards = some []) : ∀ b : BI, biSup b = true → (∃ id, CallR X (.builtin id) (rBi X.K b) ∧ bootBuiltins (biNm b) = some (.builtin id)) ∨ (∃ T, CallR X (.type T) (rBi X.K b) ∧ bootBuiltins (biNm b) = some (.type T))
  | .len, _ => .inl ⟨_, bi_len, boot_len⟩
  | .int, _ => .inr ⟨_, bi_int, by rfl⟩
  | .str, _ => .inr ⟨_, bi_str, by rfl⟩
  | .bool, _ => .inr ⟨_, bi_bool, by rfl⟩
  | .tuple, _ => .inr ⟨_, bi_tuple, by rfl⟩
  | .list, _ => .inr ⟨_, bi_list, by rfl⟩
  | .max, _ => .inl ⟨_, bi_max hc hu, by rfl⟩
  | .min, _ => .inl ⟨_, bi_min hc hu, by rfl⟩
  | .sum, _ => .inl ⟨_, bi_sum hc, by rfl⟩
  | .any, _ => .inl ⟨_, bi_any hc, by rfl⟩
  | .all, _ => .inl ⟨_, bi_all hc, by rfl⟩
  | .abs, _ => .inl ⟨_, bi_abs, by rfl⟩
  | .repr, _ => .inl ⟨_, bi_repr hu gd, by rfl⟩
  | .sorted, _ => .inl ⟨_, bi_sorted hc hu, by rfl⟩
  | .set, h => by cases h
theorem ty_boot : ∀ t : Ty, bootBuiltins (Str.ofString (tyName t)) = some (.type (tyName t))
  | .int => by rfl
  | .bool => by rfl
  | .str => by rfl
  | .tuple => by rfl
  | .list => by rfl
  | .dict => by rfl
def mtNm : MT → Str
  | .append => "append" | .extend => "extend" | .insert => "insert" | .pop => "pop" | .index => "index" | .remove => "remove" | .count => "count" | .get => "get" | .setdefault => "setdefault"
  | .values => "values" | .join => "join" | .split => "split" | .replace => "replace" | .upper => "upper" | .tindex => "index"
theorem hk_pop : ∀ st x rs z, mtApp st .pop x rs = some z → kdOf st x = .lst := fun st x rs z e => by
  simp only [mtApp] at e
  unfold mtPop at e
  split at e
  · split at e
    · rename_i hz
      exact kd_ref hz
    · cases e
  · split at e
    · rename_i hz
      exact kd_ref hz
    · cases e
  · cases e
theorem hk_index : ∀ st x rs z, mtApp st .index x rs = some z → kdOf st x = .lst := fun st x rs z e => by
  simp only [mtApp] at e
  unfold mtIndex at e
  split at e
  · split at e
    · rename_i xs hz
      unfold listOf at hz
      split at hz
      · rfl
      · rfl
      · split at hz
        · rename_i hq
          exact kd_ref hq
        · cases hz
      · cases hz
    · cases e
  · cases e
end Mw

set_option Elab.async false
set_option linter.all false
set_option autoImplicit false
set_option maxRecDepth 100000
/-! PyD2: the checker, expressions. -/
namespace Mw
open PySem PySem.Spec PyProof.Rows L2
variable [Tbs]
def mtSup : MT → Bool
  | .append | .extend | .insert | .pop | .index | .join | .split | .upper => true
  | _ => false
structure MtOk (X : Cx) (m : MT) (T id : String) (kd : Kd) : Prop where
  pa : PlainAttrs T
  slot : Slot T (mtNm m) id
  hty : typeOf (.builtin id) = pure (.type "method_descriptor")
  hm : MtR X id (rMt X.K m)
  ty : ∀ {β : List Addr} {st : Sto} {H H0 : Hp} {x : RV} {v : V}, Sim X.K β st H → RRep X.K β H H0 x v → kdOf st x = kd → tyV X.K T v H
  hk : ∀ st x rs z, mtApp st m x rs = some z → kdOf st x = kd
theorem mt_ok {X : Cx} (hu : X.A.units + 65 < cLine) : ∀ m : MT, mtSup m = true → ∃ T id kd, MtOk X m T id kd
  | .append, _ => ⟨_, _, _, F.plainAttrs_list, F.slot_list_append, F.type_list_append, mt_append_ok, kd_lst, hk_append⟩
  | .extend, _ => ⟨_, _, _, F.plainAttrs_list, F.slot_list_extend, F.type_list_extend, mt_extend_ok, kd_lst, hk_extend⟩
  | .insert, _ => ⟨_, _, _, F.plainAttrs_list, F.slot_list_insert, F.type_list_insert, mt_insert_ok, kd_lst, hk_insert⟩
  | .pop, _ => ⟨_, _, _, F.plainAttrs_list, F.slot_list_pop, F.type_list_pop, mt_pop_ok, kd_lst, hk_pop⟩
  | .index, _ => ⟨_, _, _, F.plainAttrs_list, F.slot_list_index, F.type_list_index, mt_index_ok hu, kd_lst, hk_index⟩
  | .join, _ => ⟨_, _, _, F.plainAttrs_str, F.slot_str_join, F.type_str_join, mt_join_ok, kd_str, hk_join⟩
  | .split, _ => ⟨_, _, _, F.plainAttrs_str, F.slot_str_split, F.type_str_split, mt_split_ok, kd_str, hk_split⟩
  | .upper, _ => ⟨_, _, _, F.plainAttrs_str, F.slot_str_upper, F.type_str_upper, mt_upper_ok, kd_str, hk_upper⟩
  | .remove, h | .count, h | .get, h | .setdefault, h | .values, h | .replace, h | .tindex, h => by cases h
/-! ### targets -/
/-- a name that may be stored -/
def locB (sc : Scope) (fnb : Str → Bool) (x : Str) : Bool := decide (sc.names.lookup x = some .local) || (decide (sc.names.lookup x = some .cell) && fnb x)
mutual
def ckT (G : Gd) (sc : Scope) (fnb : Str → Bool) : Tgt → Expr → Bool
  | .nm i, e => match e with
    | .Name x _ => decide (G.N[i]? = some x) && locB sc fnb x
    | _ => false
  | .tp ts, e => match e with
    | .Tuple es _ _ => ckTs G sc fnb ts es
    | _ => false
def ckTs (G : Gd) (sc : Scope) (fnb : Str → Bool) : Tgts → List Expr → Bool
  | .nil, es => es.isEmpty
  | .cons t ts, es => match es with
    | e :: r => plainE e && (ckT G sc fnb t e && ckTs G sc fnb ts r)
    | [] => false
end
section
variable {X : Cx} {C : Call} {G : Gd} {sc : Scope} {fnb : Str → Bool}
theorem locB_ok (g : Gk X C G sc fnb) {x : Str} (h : locB sc fnb x = true) : Loc X.env.scope x ∧ (X.fn x = true ∨ X.env.scope.names.lookup x = some .local) := by
  rw [g.hsc]
  simp only [locB, Bool.or_eq_true, Bool.and_eq_true, decide_eq_true_eq] at h
  rcases h with h | ⟨h, h2⟩
  · exact ⟨.inl h, .inr h⟩
  · exact ⟨.inr h, .inl (g.fn x h2)⟩
mutual
theorem ckT_ok (g : Gk X C G sc fnb) : ∀ (t : Tgt) (e : Expr), ckT G sc fnb t e = true → PG X e (tTg X.K t)
  | .nm i, e, h => by
    unfold ckT at h
    split at h
    · simp only [Bool.and_eq_true, decide_eq_true_eq] at h
      obtain ⟨h1, h2⟩ := locB_ok g h.2
      exact g_nm (by rw [g.n]; exact g.nd) (by rw [g.n]; exact h.1) h1 h2
    · cases h
  | .tp ts, e, h => by
    unfold ckT at h
    split at h
    · rename_i es k pos
      obtain ⟨h1, h2, h3⟩ := ckTs_ok g ts es h
      exact g_tp g.calm h1 h2 h3
    · cases h
theorem ckTs_ok (g : Gk X C G sc fnb) : ∀ (ts : Tgts) (es : List Expr), ckTs G sc fnb ts es = true → PGs X es (tTgs X.K ts) ∧ es.all plainE = true ∧ es.length = lenTs ts
  | .nil, es, h => by
    unfold ckTs at h
    rw [List.isEmpty_iff.mp h]
    exact ⟨g_nil, rfl, rfl⟩
  | .cons t ts, es, h => by
    unfold ckTs at h
    split at h
    · rename_i e r
      simp only [Bool.and_eq_true] at h
      obtain ⟨h1, h2, h3⟩ := ckTs_ok g ts r h.2.2
      refine ⟨g_cons h.1 (ckT_ok g t e h.2.1) h1, ?_, ?_⟩
      · rw [List.all_cons, h.1, h2]; rfl
      · rw [List.length_cons, h3]; rfl
    · cases h
end
end
/-! ### blocks -/
def ownL (N : List Str) (own : List Nat) : List (Str × Nat) := own.map fun i => (N.getD i "", i)
theorem ownL_snd (N : List Str) (own : List Nat) : (ownL N own).map (·.2) = own := by
  unfold ownL
  rw [List.map_map]
  exact List.map_id' own
def blkB (N : List Str) (sc scope : Scope) (own : List Nat) : Bool :=
  decide (scope.kind = .function) && (scope.names.all (fun y => decide (scope.names.lookup y.1 = some y.2)) && (own.all (fun i => decide (N[i]? = some (N.getD i ""))) &&
    (scope.names.all (fun y => decide (y.2 ≠ .free) || (decide (sc.names.lookup y.1 = some .cell) || decide (sc.names.lookup y.1 = some .free))) &&
     scope.names.all (fun y => (decide (y.2 ≠ .local) && decide (y.2 ≠ .cell)) || (((ownL N own).map (·.1)).contains y.1 || !N.contains y.1)))))
theorem blkB_ok {N : List Str} {sc scope : Scope} {own : List Nat} (h : blkB N sc scope own = true) : BlkOk N sc scope (ownL N own) := by
  simp only [blkB, Bool.and_eq_true, decide_eq_true_eq, List.all_eq_true] at h
  obtain ⟨h1, h2, h3, h4, h5⟩ := h
  refine ⟨h1, fun y hy => h2 y hy, fun p hp => ?_, fun y hy e => ?_, fun y hy e => ?_⟩
  · obtain ⟨i, hi, rfl⟩ := List.mem_map.mp hp
    exact h3 i hi
  · have := h4 y hy
    simp only [Bool.or_eq_true, decide_eq_true_eq, e] at this
    rcases this with q | q
    · exact absurd rfl q
    · exact q
  · have := h5 y hy
    simp only [Bool.or_eq_true, Bool.and_eq_true, decide_eq_true_eq, List.contains_iff_mem, Bool.not_eq_true', ← Bool.not_eq_true] at this
    rcases this with q | q | q
    · exact absurd e (by rcases e with e | e; exact absurd e q.1; exact absurd e q.2)
    · exact .inl q
    · exact .inr q
def subB (l m : List Nat) : Bool := l.all fun i => m.contains i
theorem subB_ok {l m : List Nat} (h : subB l m = true) : ∀ i ∈ l, i ∈ m := fun i hi => by
  have := List.all_eq_true.mp h i hi
  simpa [List.contains_iff_mem] using this
/-! ### the checker -/
def fnB (G : Gd) (f : Str) (n : Nat) : Bool := G.fns.any fun p => decide (p.1 = f) && decide (p.2 = n)
theorem fnB_ok {G : Gd} {f : Str} {n : Nat} (h : fnB G f n = true) : (f, n) ∈ G.fns := by
  obtain ⟨p, hp, h⟩ := List.any_eq_true.mp h
  simp only [Bool.and_eq_true, decide_eq_true_eq] at h
  obtain ⟨rfl, rfl⟩ := h
  exact hp
def msB (G : Gd) (q c m : Str) (n : Nat) : Bool := G.ms.any fun p => decide (p.1 = q) && (decide (p.2.1 = c) && (decide (p.2.2.1 = m) && decide (p.2.2.2 = n)))
theorem msB_ok {G : Gd} {q c m : Str} {n : Nat} (h : msB G q c m n = true) : (q, c, m, n) ∈ G.ms := by
  obtain ⟨p, hp, h⟩ := List.any_eq_true.mp h
  simp only [Bool.and_eq_true, decide_eq_true_eq] at h
  obtain ⟨rfl, rfl, rfl, rfl⟩ := h
  exact hp
def clB (G : Gd) (c f : Str) : Bool := G.cl.any fun p => decide (p.1 = c) && p.2.contains f
theorem clB_ok {X : Cx} {C : Call} {G : Gd} {sc : Scope} {fnb : Str → Bool} (g : Gk X C G sc fnb) {c f : Str} (h : clB G c f = true) : Cls X.K (He.ga X.K c) ∧ NoAttr X.K (He.ga X.K c) f := by
  obtain ⟨p, hp, h⟩ := List.any_eq_true.mp h
  simp only [Bool.and_eq_true, decide_eq_true_eq, List.contains_iff_mem] at h
  obtain ⟨rfl, h2⟩ := h
  exact ⟨(g.cl p hp).1, (g.cl p hp).2 f h2⟩
def xmB (G : Gd) (c x : Str) : Bool := G.xm.any fun p => decide (p.1 = c) && decide (p.2 = x)
theorem xmB_ok {G : Gd} {c x : Str} (h : xmB G c x = true) : (c, x) ∈ G.xm := by
  obtain ⟨p, hp, h⟩ := List.any_eq_true.mp h
  simp only [Bool.and_eq_true, decide_eq_true_eq] at h
  obtain ⟨rfl, rfl⟩ := h
  exact hp
def csB (G : Gd) (x : Str) (d : D) : Bool := G.cs.any fun p => decide (p.1 = x) && decide (p.2 = d)
theorem csB_ok {G : Gd} {x : Str} {d : D} (h : csB G x d = true) : (x, d) ∈ G.cs := by
  obtain ⟨p, hp, h⟩ := List.any_eq_true.mp h
  simp only [Bool.and_eq_true, decide_eq_true_eq] at h
  obtain ⟨rfl, rfl⟩ := h
  exact hp
def bltB (G : Gd) (sc : Scope) (x : Str) : Bool := glB sc x && (G.fr.contains x && nmB x)
def ckC : D → Expr → Bool
  | .int j, .Constant (.int i) _ _ => decide (i = j)
  | .bl c, .Constant (.bool b) _ _ => decide (b = c)
  | .non, .Constant .none _ _ => true
  | .str t, .Constant (.str s) _ _ => decide (s = t)
  | _, _ => false
mutual
def ckE (G : Gd) (sc : Scope) (fnb : Str → Bool) : CE → Expr → Bool
  | .bad, _ => true
  | .var i, e => match e with
    | .Name x _ => decide (G.N[i]? = some x) && (visB sc x && nmB x)
    | _ => false
  | .cst d, e => match e with
    | .Name x _ => glB sc x && (csB G x d && nmB x)
    | e => ckC d e
  | .bin o a b, e => match e with
    | .BinOp l op r _ => opIs o op && (ckE G sc fnb a l && ckE G sc fnb b r)
    | _ => false
  | .neg a, e => match e with
    | .UnaryOp .USub l _ => ckE G sc fnb a l
    | _ => false
  | .not a, e => match e with
    | .UnaryOp .Not l _ => ckE G sc fnb a l
    | _ => false
  | .cmp o a b, e => match e with
    | .Compare l [op] [r] _ => cmIs o op && (plainE r && (ckE G sc fnb a l && ckE G sc fnb b r))
    | _ => false
  | .chain o o' a b c, e => match e with
    | .Compare l [op, op'] [m, r] _ => (cmIs o op && cmIs o' op') && ((plainE m && plainE r) && (ckE G sc fnb a l && (ckE G sc fnb b m && ckE G sc fnb c r)))
    | _ => false
  | .and a b, e => match e with
    | .BoolOp .And (l :: r :: rest) pos => ckE G sc fnb a l && (match rest with
      | [] => ckE G sc fnb b r
      | r2 :: rest => ckE G sc fnb b (.BoolOp .And (r :: r2 :: rest) pos))
    | _ => false
  | .or a b, e => match e with
    | .BoolOp .Or (l :: r :: rest) pos => ckE G sc fnb a l && (match rest with
      | [] => ckE G sc fnb b r
      | r2 :: rest => ckE G sc fnb b (.BoolOp .Or (r :: r2 :: rest) pos))
    | _ => false
  | .ite c a b, e => match e with
    | .IfExp m l r _ => ckE G sc fnb c m && (ckE G sc fnb a l && ckE G sc fnb b r)
    | _ => false
  | .tup es, e => match e with
    | .Tuple ls _ _ => decide (ls.length ≤ 1000) && ckA G sc fnb es ls
    | _ => false
  | .lst es, e => match e with
    | .List ls _ => decide (ls.length ≤ 1000) && ckA G sc fnb es ls
    | _ => false
  | .idx a b, e => match e with
    | .Subscript l r _ => plainE r && (ckE G sc fnb a l && ckE G sc fnb b r)
    | _ => false
  | .sli a lo hi, e => match e with
    | .Subscript l (.Slice x y none _) _ => ckE G sc fnb a l && (ckP G sc fnb lo x && ckP G sc fnb hi y)
    | _ => false
  | .rev a, e => match e with
    | .Subscript l (.Slice none none (some (.UnaryOp .USub (.Constant (.int 1) _ _) _)) _) _ => ckE G sc fnb a l
    | _ => false
  | .stp a b, e => match e with
    | .Subscript l (.Slice none none (some r) _) _ => ckE G sc fnb a l && ckE G sc fnb b r
    | _ => false
  | .mm mx a d, e => match e with
    | .Call (.Name y _) [l] [⟨some k, f, _⟩] _ => (decide (y = if mx then Str.ofString "max" else Str.ofString "min") && (bltB G sc y && (decide (k = Str.ofString "default") && plainE l))) && (ckE G sc fnb a l && ckE G sc fnb d f)
    | _ => false
  | .srt rv f a, e => match e with
    | .Call (.Name x _) [l] [⟨some k1, .Name y _, _⟩, ⟨some k2, .Constant (.bool b) _ _, _⟩] _ => (decide (x = "sorted") && (bltB G sc x && (decide (k1 = Str.ofString "key") && (decide (k2 = Str.ofString "reverse") && (decide (b = rv) && plainE l))))) && ((decide (y = f) && (glB sc y && (nmB y && fnB G y 1))) && ckE G sc fnb a l)
    | _ => false
  | .sri k a, e => match e with
    | .Call (.Name x _) [l] [⟨some ky, .Lambda ⟨[], [ar], none, [], [], none, []⟩ (.Subscript (.Name y _) (.Constant (.int i) _ _) _) sc2 _, _⟩] _ => (G.lam && (decide (x = "sorted") && (bltB G sc x && (decide (ky = Str.ofString "key") && (decide (y = ar.arg) && (decide (i = (k : Int)) && (scB [ar.arg] [ar.arg] sc2 && (nmB y && plainE l)))))))) && ckE G sc fnb a l
    | _ => false
  | .vals a, e => match e with
    | .Call (.Name x _) [.Call (.Attribute l m apos) [] [] mpos] [] _ => (decide (x = "list") && (bltB G sc x && (decide (m = "values") && (recvOk l && (apos.endLine == mpos.line))))) && ckE G sc fnb a l
    | _ => false
  | .los tp a, e => match e with
    | .Call (.Name y _) [.Call (.Name x _) [l] [] _] [] _ => (decide (y = if tp then "tuple" else "list") && (bltB G sc y && (decide (x = "range") && (bltB G sc x && plainE l)))) && ckE G sc fnb a l
    | _ => false
  | .call f es, e => match e with
    | .Call (.Name x _) ls [] _ => decide (x = f) && (glB sc x && (nmB x && (fnB G x ls.length && ckA G sc fnb es ls)))
    | _ => false
  | .bi b es, e => match e with
    | .Call (.Name x _) (l :: ls) [] _ => (biSup b && (decide (x = biNm b) && (bltB G sc x && ckA G sc fnb es (l :: ls)))) || (match l, ls with
      | .Call (.Name y _) [u] [] _, [] => ((decide (b = .set) && (decide (x = "sorted") && (bltB G sc x && (decide (y = "set") && (bltB G sc y && plainE u))))) && ckA G sc fnb es [u]) || ((decide (b = .revl) && (decide (x = "list") && (bltB G sc x && (decide (y = "reversed") && (bltB G sc y && plainE u))))) && ckA G sc fnb es [u])
      | _, _ => false)
    | _ => false
  | .mt m o es, e => match e with
    | .Call (.Attribute l x apos) ls [] pos => ((mtSup m && (decide (x = mtNm m) && (recvOk l && ((apos.endLine == pos.line) && decide (ls.length < 29))))) || (decide (m = .get) && (decide (x = "get") && (recvOk l && ((apos.endLine == pos.line) && (decide (ls.length = 1) || decide (ls.length = 2))))))) && (ckE G sc fnb o l && ckA G sc fnb es ls)
    | _ => false
  | .isi a t, e => match e with
    | .Call (.Name x _) [l, .Name y _] [] _ => (decide (x = "isinstance") && (bltB G sc x && (decide (y = Str.ofString (tyName t)) && (bltB G sc y && plainE l)))) && ckE G sc fnb a l
    | _ => false
  | .dic0, e => match e with
    | .Dict [] [] _ => true
    | _ => false
  | .dit0, e => match e with
    | .Dict [] [] _ => true
    | _ => false
  | .dic1 a b, e => match e with
    | .Dict [some l] [r] _ => ckE G sc fnb a l && ckE G sc fnb b r
    | _ => false
  | .dit1 a b, e => match e with
    | .Dict [some l] [r] _ => ckE G sc fnb a l && ckE G sc fnb b r
    | _ => false
  | .att c a f, e => match e with
    | .Attribute l x _ => decide (x = f) && (recvOk l && (clB G c f && ckE G sc fnb a l))
    | _ => false
  | .mcall c m q o es, e => match e with
    | .Call (.Attribute l x apos) ls [] pos => (decide (x = m) && (recvOk l && ((apos.endLine == pos.line) && (decide (ls.length < 29) && (decide (m ≠ "__init__") && msB G q c m (ls.length + 1)))))) && (ckE G sc fnb o l && ckA G sc fnb es ls)
    | _ => false
  | .make c q es, e => match e with
    | .Call (.Name x _) ls [] _ => (decide (x = c) && (glB sc c && (nmB c && (decide (ls ≠ []) && msB G q c "__init__" (ls.length + 1))))) && ckA G sc fnb es ls
    | _ => false
  | .isx _, _ => false
  | .dicS ks es, e => match e with
    | .Dict keys vals _ => (keysB ks keys && (decide (vals.length = ks.length) && (decide (ks ≠ []) && decide (ks.length ≤ 15)))) && ckA G sc fnb es vals
    | _ => false
  | .comp t s c el own, e => match e with
    | .ListComp elt [⟨tg, iter, ifs, 0⟩] scope _ => (blkB G.N sc scope own && (subB (slotsT t) own && (plainE iter && ckT G (relS scope sc) (fun x => scope.names.lookup x == some .cell) t tg))) &&
        (ckS G sc fnb s tg iter && (ckQ G (relS scope sc) (fun x => scope.names.lookup x == some .cell) c ifs && ckE G (relS scope sc) (fun x => scope.names.lookup x == some .cell) el elt))
    | _ => false
def ckA (G : Gd) (sc : Scope) (fnb : Str → Bool) : CEs → List Expr → Bool
  | .nil, ls => ls.isEmpty
  | .cons a es, ls => match ls with
    | l :: r => plainE l && (ckE G sc fnb a l && ckA G sc fnb es r)
    | [] => false
/-- a slice's part -/
def ckP (G : Gd) (sc : Scope) (fnb : Str → Bool) : CEs → Option Expr → Bool
  | .nil, o => o.isNone
  | .cons a es, o => match o, es with
    | some l, .nil => ckE G sc fnb a l
    | _, _ => false
/-- a clause's tests -/
def ckQ (G : Gd) (sc : Scope) (fnb : Str → Bool) : CEs → List Expr → Bool
  | .nil, ls => ls.isEmpty
  | .cons a es, ls => match ls, es with
    | [l], .nil => ckE G sc fnb a l
    | _, _ => false
def ckS (G : Gd) (sc : Scope) (fnb : Str → Bool) : Src → Expr → Expr → Bool
  | .ex a, _, e => ckE G sc fnb a e
  | .rng es, _, e => match e with
    | .Call (.Name x _) ls [] _ => (decide (x = "range") && (bltB G sc x && (decide (1 ≤ ls.length) && decide (ls.length ≤ 3)))) && ckA G sc fnb es ls
    | _ => false
  | .enm a, tg, e => match tg, e with
    | .Tuple _ _ _, .Call (.Name x _) [l] [] _ => (decide (x = "enumerate") && (bltB G sc x && plainE l)) && ckE G sc fnb a l
    | _, _ => false
  | .zp es, tg, e => match tg, e with
    | .Tuple _ _ _, .Call (.Name x _) [l, l'] [] _ => (decide (x = "zip") && bltB G sc x) && ckA G sc fnb es [l, l']
    | .Tuple _ _ _, .Call (.Name x _) [l, l', l3] [] _ => (decide (x = "zip") && bltB G sc x) && ckA G sc fnb es [l, l', l3]
    | _, _ => false
  | .rv r, _, e => match r, e with
    | .los true a, .Call (.Name x _) [.Call (.Name y _) [l] [] _] [] _ => (decide (x = "reversed") && (bltB G sc x && (decide (y = "range") && (bltB G sc y && plainE l)))) && ckE G sc fnb a l
    | _, _ => false
  | .dk a, _, e => ckE G sc fnb a e
end
end Mw

set_option Elab.async false
set_option linter.all false
set_option autoImplicit false
set_option maxRecDepth 100000
/-! PyD3: the checker is right, expressions. -/
namespace Mw
open PySem PySem.Spec PyProof.Rows L2
variable [Tbs]
def AllJ (X : Cx) (C : Call) : CEs → List Expr → Prop
  | .nil, [] => True
  | .cons a es, l :: ls => J X C a l ∧ AllJ X C es ls
  | _, _ => False
structure JA (X : Cx) (C : Call) (es : CEs) (ls : List Expr) : Prop where
  pa : PA X ls (tA X.K C es)
  pr : PA X ls (tR X.K C es)
  pl : ls.all plainE = true
  len : lenC es = ls.length
  el : AllJ X C es ls
section
variable {X : Cx} {C : Call} {G : Gd} {sc : Scope} {fnb : Str → Bool}
theorem Gk.fnm (g : Gk X C G sc fnb) {x : Str} (h : bltB G sc x = true) : Gl X x ∧ X.mg x = none ∧ nmB x = true := by
  simp only [bltB, Bool.and_eq_true] at h
  exact ⟨g.gl h.1, g.fr x (by simpa [List.contains_iff_mem] using h.2.1), h.2.2⟩
theorem ckC_ok {d : D} {e : Expr} (h : ckC d e = true) : J X C (.cst d) e := by
  unfold ckC at h
  split at h
  · have := of_decide_eq_true h; subst this; exact J.of (e_cst pe_int fun _ _ => rfl) rfl
  · have := of_decide_eq_true h; subst this; exact J.of (e_cst pe_bl fun _ _ => rfl) rfl
  · exact J.of (e_cst pe_non fun _ _ => rfl) rfl
  · have := of_decide_eq_true h; subst this; exact J.of (e_cst pe_str fun _ _ => rfl) rfl
  · cases h
theorem AllJ.pe : ∀ {es : CEs} {ls : List Expr}, AllJ X C es ls → AllPE X C es ls
  | .nil, [], _ => trivial
  | .cons _ _, [], h => h.elim
  | .nil, _ :: _, h => h.elim
  | .cons a es, l :: ls, h => ⟨h.1.pe, AllJ.pe h.2⟩
theorem fold_plain {e : Expr} (h : plainE e = true) (env : PySem.Env) (x : Value) : foldedSetIterable e env x = pure x := by
  cases e <;> first | rfl | (cases h)
end
mutual
theorem ckE_ok : ∀ (c : CE) {X : Cx} {C : Call} {G : Gd} {sc : Scope} {fnb : Str → Bool} (g : Gk X C G sc fnb) (e : Expr), ckE G sc fnb c e = true → J X C c e
  | .bad, _, _, _, _, _, g, e, h => J.bad
  | .var i, _, _, _, _, _, g, e, h => by
    unfold ckE at h
    split at h
    · simp only [Bool.and_eq_true, decide_eq_true_eq] at h
      obtain ⟨n1, n2, n3⟩ := nmB_ok h.2.2
      exact J.of (e_var (by rw [g.n]; exact h.1) (by rw [g.hsc]; exact visB_ok h.2.1) n1 n2) rfl
    · cases h
  | .cst d, _, _, _, _, _, g, e, h => by
    unfold ckE at h
    split at h
    · rename_i x _ _ _
      simp only [Bool.and_eq_true] at h
      obtain ⟨n1, n2, n3⟩ := nmB_ok h.2.2
      obtain ⟨v, u, h1, h2, h3⟩ := g.cs _ (csB_ok h.2.1)
      exact J.of (e_cst (pe_glob (g.gl h.1) h1 h2 n1) h3) rfl
    · exact ckC_ok h
  | .bin o a b, _, _, _, _, _, g, e, h => by
    unfold ckE at h
    split at h
    · simp only [Bool.and_eq_true] at h
      exact J.of (e_bin h.1 (ckE_ok a g _ h.2.1).pe (ckE_ok b g _ h.2.2).pe) rfl
    · cases h
  | .neg a, _, _, _, _, _, g, e, h => by
    unfold ckE at h
    split at h
    · exact J.of (e_neg (ckE_ok a g _ h).pe) rfl
    · cases h
  | .not a, _, _, _, _, _, g, e, h => by
    unfold ckE at h
    split at h
    · exact J.of2 (e_not (ckE_ok a g _ h).pe) (c_not (ckE_ok a g _ h).pt) fun _ _ _ z => by cases z
    · cases h
  | .cmp o a b, _, _, _, _, _, g, e, h => by
    unfold ckE at h
    split at h
    · simp only [Bool.and_eq_true] at h
      exact J.of2 (e_cmp h.1 g.units (ckE_ok a g _ h.2.2.1).pe (ckE_ok b g _ h.2.2.2).pe (plain_mark h.2.1)) (c_cmp h.1 g.units (ckE_ok a g _ h.2.2.1).pe (ckE_ok b g _ h.2.2.2).pe (plain_mark h.2.1)) fun _ _ _ z => by cases z
    · cases h
  | .chain o o' a b c, _, _, _, _, _, g, e, h => by
    unfold ckE at h
    split at h
    · rename_i l op op' m r pos
      simp only [Bool.and_eq_true] at h
      have hm : lastMarks [op, op'] [m, r] = false := by
        show behindInMarks op' r = false
        exact plain_mark h.2.1.2
      have A := (ckE_ok a g _ h.2.2.1).pe
      have B := (ckE_ok b g _ h.2.2.2.1).pe
      have D := (ckE_ok c g _ h.2.2.2.2).pe
      exact J.of2 (e_chain h.1.1 h.1.2 g.units A B D hm) (c_chain h.1.1 h.1.2 g.units A B D hm) fun _ _ _ z => by cases z
    · cases h
  | .and a b, _, _, _, _, _, g, e, h => by
    unfold ckE at h
    split at h
    · simp only [Bool.and_eq_true] at h
      obtain ⟨h1, h2⟩ := h
      split at h2
      · exact J.and (ckE_ok a g _ h1) (ckE_ok b g _ h2).one
      · exact J.and (ckE_ok a g _ h1) ⟨(ckE_ok b g _ h2).pe, (ckE_ok b g _ h2).pw _ _ _ rfl⟩
    · cases h
  | .or a b, _, _, _, _, _, g, e, h => by
    unfold ckE at h
    split at h
    · simp only [Bool.and_eq_true] at h
      obtain ⟨h1, h2⟩ := h
      split at h2
      · exact J.or (ckE_ok a g _ h1) (ckE_ok b g _ h2).one
      · exact J.or (ckE_ok a g _ h1) ⟨(ckE_ok b g _ h2).pe, (ckE_ok b g _ h2).pw _ _ _ rfl⟩
    · cases h
  | .ite c a b, _, _, _, _, _, g, e, h => by
    unfold ckE at h
    split at h
    · simp only [Bool.and_eq_true] at h
      have A := ckE_ok c g _ h.1
      have B := ckE_ok a g _ h.2.1
      have D := ckE_ok b g _ h.2.2
      exact J.of2 (e_ite A.pt B.pe D.pe) (c_ite A.pt B.pt D.pt) fun _ _ _ z => by cases z
    · cases h
  | .tup es, _, _, _, _, _, g, e, h => by
    unfold ckE at h
    split at h
    · simp only [Bool.and_eq_true, decide_eq_true_eq] at h
      have A := ckA_ok es g _ h.2
      exact J.of (e_tup A.pa h.1 fun _ _ _ _ z => (evA_len z).trans A.len) rfl
    · cases h
  | .lst es, _, _, _, _, _, g, e, h => by
    unfold ckE at h
    split at h
    · simp only [Bool.and_eq_true, decide_eq_true_eq] at h
      have A := ckA_ok es g _ h.2
      exact J.of (e_lst A.pa h.1 fun _ _ _ _ z => (evA_len z).trans A.len) rfl
    · cases h
  | .idx a b, _, _, _, _, _, g, e, h => by
    unfold ckE at h
    split at h
    · simp only [Bool.and_eq_true] at h
      exact J.of (e_idx g.units h.1 (ckE_ok a g _ h.2.1).pe (ckE_ok b g _ h.2.2).pe) rfl
    · cases h
  | .sli a lo hi, _, _, _, _, _, g, e, h => by
    unfold ckE at h
    split at h
    · simp only [Bool.and_eq_true] at h
      exact J.of (e_sli (ckE_ok a g _ h.1).pe (ckP_ok lo g _ h.2.1) (ckP_ok hi g _ h.2.2)) rfl
    · cases h
  | .rev a, _, _, _, _, _, g, e, h => by
    unfold ckE at h
    split at h
    · exact J.of (e_rev (ckE_ok a g _ h).pe) rfl
    · cases h
  | .stp a b, _, _, _, _, _, g, e, h => by
    unfold ckE at h
    split at h
    · simp only [Bool.and_eq_true] at h
      exact J.of (e_stp (ckE_ok a g _ h.1).pe (ckE_ok b g _ h.2).pe) rfl
    · cases h
  | .mm mx a d, _, _, _, _, _, g, e, h => by
    unfold ckE at h
    split at h
    · simp only [Bool.and_eq_true, decide_eq_true_eq] at h
      obtain ⟨⟨h0, h1, rfl, h3⟩, h4, h5⟩ := h
      obtain ⟨f1, f2, _⟩ := g.fnm h1
      exact J.of (e_mm h0 h3 g.calm g.units f1 f2 (ckE_ok a g _ h4).pe (ckE_ok d g _ h5).pe) rfl
    · cases h
  | .srt rv f a, _, _, _, _, _, g, e, h => by
    unfold ckE at h
    split at h
    · simp only [Bool.and_eq_true, decide_eq_true_eq] at h
      obtain ⟨⟨rfl, h1, rfl, rfl, rfl, h2⟩, ⟨rfl, h3, h4, h5⟩, h6⟩ := h
      obtain ⟨f1, f2, _⟩ := g.fnm h1
      obtain ⟨n1, _, _⟩ := nmB_ok h4
      obtain ⟨k, a, fd, ps, q1, q2, q3, q4, q5, q6⟩ := g.fns _ (fnB_ok h5)
      exact J.of (e_srt (q4.imp fun _ _ _ _ => Or.inl) q6.in2 g.gd (g.gl h3) q1 q3 q5 n1 g.calm g.units f1 f2 h2 (ckE_ok _ g _ h6).pe) rfl
    · cases h
  | .sri k a, _, _, _, _, _, g, e, h => by
    unfold ckE at h
    split at h
    · simp only [Bool.and_eq_true, decide_eq_true_eq] at h
      obtain ⟨⟨h0, rfl, h1, rfl, rfl, rfl, h2, h3, h4⟩, h6⟩ := h
      obtain ⟨f1, f2, _⟩ := g.fnm h1
      obtain ⟨n1, n2, _⟩ := nmB_ok h3
      exact J.of (e_sri rfl g.calm (g.lam h0) (scB_ok h2) n1 n2 f1 f2 h4 (ckE_ok a g _ h6).pe) rfl
    · cases h
  | .vals a, _, _, _, _, _, g, e, h => by
    unfold ckE at h
    split at h
    · simp only [Bool.and_eq_true, decide_eq_true_eq] at h
      obtain ⟨⟨rfl, h1, rfl, h2, h3⟩, h6⟩ := h
      obtain ⟨f1, f2, _⟩ := g.fnm h1
      exact J.of (e_vals g.calm f1 f2 h2 h3 (ckE_ok a g _ h6).pe) rfl
    · cases h
  | .los tp a, _, _, _, _, _, g, e, h => by
    unfold ckE at h
    split at h
    · simp only [Bool.and_eq_true, decide_eq_true_eq] at h
      obtain ⟨⟨rfl, h1, rfl, h2, h3⟩, h4⟩ := h
      obtain ⟨f1, f2, _⟩ := g.fnm h1
      obtain ⟨f3, f4, _⟩ := g.fnm h2
      have A := (ckE_ok a g _ h4).pe
      cases tp
      · exact J.of (e_losL h3 g.calm f1 f2 f3 f4 A) rfl
      · exact J.of (e_losT h3 g.calm f1 f2 f3 f4 A) rfl
    · cases h
  | .call f es, _, _, _, _, _, g, e, h => by
    unfold ckE at h
    split at h
    · rename_i x p ls pos
      simp only [Bool.and_eq_true, decide_eq_true_eq] at h
      obtain ⟨rfl, h1, h2, h3, h4⟩ := h
      obtain ⟨n1, _, _⟩ := nmB_ok h2
      obtain ⟨k, a, fd, ps, q1, q2, q3, q4, q5, q6⟩ := g.fns _ (fnB_ok h3)
      have q6 := q6.r
      have q4 := q4.imp fun _ _ _ _ => Or.inl
      have A := ckA_ok es g _ h4
      have hl : lenC es = ps.length := A.len.trans q5.symm
      cases ls with
      | nil =>
        cases es with
        | nil => exact J.of (e_call0 q4 q6 g.gd (g.gl h1) q1 q2 q3 hl n1) rfl
        | cons _ _ => have := A.len; simp [lenC] at this
      | cons l ls => exact J.of (e_call q4 q6 g.gd (g.gl h1) q1 q2 q3 hl A.pa A.pl n1) rfl
    · cases h
  | .bi b es, X, _, _, _, _, g, e, h => by
    unfold ckE at h
    split at h
    · rcases (Bool.or_eq_true _ _).mp h with h | h
      · simp only [Bool.and_eq_true, decide_eq_true_eq] at h
        obtain ⟨h1, rfl, h3, h4⟩ := h
        obtain ⟨f1, f2, f3⟩ := g.fnm h3
        obtain ⟨n1, _, n3⟩ := nmB_ok f3
        have A := ckA_ok es g _ h4
        rcases bi_ok (X := X) g.calm g.units g.gd b h1 with ⟨id, k1, k2⟩ | ⟨T, k1, k2⟩
        · exact J.of (e_biB k1 f1 f2 k2 A.pr A.pl n3 n1) rfl
        · exact J.of (e_biT k1 f1 f2 k2 A.pr A.pl n3 n1) rfl
      · split at h
        · rcases (Bool.or_eq_true _ _).mp h with h | h
          · simp only [Bool.and_eq_true, decide_eq_true_eq] at h
            obtain ⟨⟨rfl, rfl, h1, rfl, h2, h3⟩, h4⟩ := h
            obtain ⟨f1, f2, _⟩ := g.fnm h1
            obtain ⟨f3, f4, _⟩ := g.fnm h2
            exact J.of (e_set h3 g.calm g.units f1 f2 f3 f4 (ckA_ok es g _ h4).pr) rfl
          · simp only [Bool.and_eq_true, decide_eq_true_eq] at h
            obtain ⟨⟨rfl, rfl, h1, rfl, h2, h3⟩, h4⟩ := h
            obtain ⟨f1, f2, _⟩ := g.fnm h1
            obtain ⟨f3, f4, _⟩ := g.fnm h2
            exact J.of (e_revl h3 g.calm f1 f2 f3 f4 (ckA_ok es g _ h4).pr) rfl
        · cases h
    · cases h
  | .mt m o es, X, _, _, _, _, g, e, h => by
    unfold ckE at h
    split at h
    · rename_i l x apos ls pos
      simp only [Bool.and_eq_true, Bool.or_eq_true, decide_eq_true_eq] at h
      obtain ⟨h1, h6, h7⟩ := h
      have O := (ckE_ok o g _ h6).pe
      have A := ckA_ok es g _ h7
      rcases h1 with ⟨h1, rfl, h3, h4, h5⟩ | ⟨rfl, rfl, h3, h4, h5⟩
      rotate_left
      · have hp := A.pl
        have hj := A.el
        rcases h5 with h5 | h5
        · match ls, es, h5, hp, hj with
          | [l1], .cons a .nil, _, hp, hj =>
            simp at hp
            exact J.of (e_get1 g.units O hj.1.pe h3 hp h4) rfl
          | [l1], .cons _ (.cons _ _), _, _, hj => exact hj.2.elim
          | [l1], .nil, _, _, hj => exact hj.elim
        · match ls, es, h5, hp, hj with
          | [l1, l2], .cons a (.cons b .nil), _, hp, hj =>
            simp at hp
            exact J.of (e_get2 g.units O hj.1.pe hj.2.1.pe h3 hp.1 hp.2 h4) rfl
          | [l1, l2], .cons _ (.cons _ (.cons _ _)), _, _, hj => exact hj.2.2.elim
          | [l1, l2], .cons _ .nil, _, _, hj => exact hj.2.elim
          | [l1, l2], .nil, _, _, hj => exact hj.elim
      obtain ⟨T, id, kd, M⟩ := mt_ok (X := X) g.units m h1
      cases ls with
      | nil =>
        cases es with
        | nil => exact J.of (e_mt0 M.pa M.slot M.hty M.hm M.ty M.hk O h3 h4) rfl
        | cons _ _ => have := A.len; simp [lenC] at this
      | cons l ls => exact J.of (e_mt M.pa M.slot M.hty M.hm M.ty M.hk O A.pr h3 A.pl h5 h4) rfl
    · cases h
  | .isi a t, _, _, _, _, _, g, e, h => by
    unfold ckE at h
    split at h
    · simp only [Bool.and_eq_true, decide_eq_true_eq] at h
      obtain ⟨⟨rfl, h2, rfl, h4, h5⟩, h6⟩ := h
      obtain ⟨f1, f2, f3⟩ := g.fnm h2
      obtain ⟨n1, _, n3⟩ := nmB_ok f3
      obtain ⟨g1, g2, g3⟩ := g.fnm h4
      obtain ⟨m1, _, m3⟩ := nmB_ok g3
      exact J.of (e_isi f1 f2 (by rfl) g1 g2 (ty_boot t) h5 (ckE_ok a g _ h6).pe n3 n1 m3 m1) rfl
    · cases h
  | .dic0, _, _, _, _, _, g, e, h => by
    unfold ckE at h
    split at h
    · exact J.of e_dic0 rfl
    · cases h
  | .dit0, _, _, _, _, _, g, e, h => by
    unfold ckE at h
    split at h
    · exact J.of e_dit0 rfl
    · cases h
  | .dic1 a b, _, _, _, _, _, g, e, h => by
    unfold ckE at h
    split at h
    · simp only [Bool.and_eq_true] at h
      exact J.of (e_dic1 (ckE_ok a g _ h.1).pe (ckE_ok b g _ h.2).pe) rfl
    · cases h
  | .dit1 a b, _, _, _, _, _, g, e, h => by
    unfold ckE at h
    split at h
    · simp only [Bool.and_eq_true] at h
      exact J.of (e_dit1 g.units (ckE_ok a g _ h.1).pe (ckE_ok b g _ h.2).pe) rfl
    · cases h
  | .att c a f, _, _, _, _, _, g, e, h => by
    unfold ckE at h
    split at h
    · simp only [Bool.and_eq_true, decide_eq_true_eq] at h
      obtain ⟨rfl, h2, h3, h4⟩ := h
      obtain ⟨k1, k2⟩ := clB_ok g h3
      exact J.of (e_att k1 k2 (ckE_ok a g _ h4).pe h2) rfl
    · cases h
  | .mcall c m q o es, _, _, _, _, _, g, e, h => by
    unfold ckE at h
    split at h
    · rename_i l x apos ls pos
      simp only [Bool.and_eq_true, decide_eq_true_eq] at h
      obtain ⟨⟨rfl, h2, h3, h4, h5, h6⟩, h7, h8⟩ := h
      have O := (ckE_ok o g _ h7).pe
      have A := ckA_ok es g _ h8
      obtain ⟨k, ga, fd, ps, q0, q1, q2, q3, q4, q5⟩ := g.ms _ (msB_ok h6)
      rw [if_neg h5] at q1
      have q3 := q3.imp fun _ _ _ _ => Or.inl
      have hl : lenC es + 1 = ps.length := by rw [A.len]; exact q4.symm
      cases ls with
      | nil =>
        cases es with
        | nil => exact J.of (e_mcall0 q0 q1 q3 q5.r g.gd q2 hl O h2 h3) rfl
        | cons _ _ => have := A.len; simp [lenC] at this
      | cons l ls => exact J.of (e_mcall q0 q1 q3 q5.r g.gd q2 hl O A.pa h2 A.pl h4 h3) rfl
    · cases h
  | .make c q es, _, _, _, _, _, g, e, h => by
    unfold ckE at h
    split at h
    · rename_i x p ls pos
      simp only [Bool.and_eq_true, decide_eq_true_eq] at h
      obtain ⟨⟨rfl, h2, h3, h4, h5⟩, h6⟩ := h
      have A := ckA_ok es g _ h6
      obtain ⟨n1, _, _⟩ := nmB_ok h3
      obtain ⟨k, ga, fd, ps, q0, q1, q2, q3, q4, q5⟩ := g.ms _ (msB_ok h5)
      rw [if_pos rfl] at q1
      have q3 := q3.imp fun _ _ _ _ => Or.inl
      have hl : lenC es + 1 = ps.length := by rw [A.len]; exact q4.symm
      cases ls with
      | nil => exact absurd rfl h4
      | cons l ls => exact J.of (e_make q1.1 q3 q5 g.gd (g.gl h2) q1.2 q2 hl A.pa A.pl n1) rfl
    · cases h
  | .isx _, _, _, _, _, _, g, e, h => by (unfold ckE at h; cases h)
  | .dicS ks es, _, _, _, _, _, g, e, h => by
    unfold ckE at h
    split at h
    · simp only [Bool.and_eq_true, decide_eq_true_eq] at h
      obtain ⟨⟨h1, h2, h3, h4⟩, h5⟩ := h
      have A := ckA_ok es g _ h5
      exact J.of (e_dicS h1 A.el.pe (by rw [A.len]; exact h2.symm) h2 h3 h4) rfl
    · cases h
  | .comp t s c el own, X, C, G, sc, fnb, g, e, h => by
    unfold ckE at h
    split at h
    · rename_i elt tg iter ifs scope pos
      simp only [Bool.and_eq_true] at h
      obtain ⟨⟨h1, h2, h3, h4⟩, h5, h6, h7⟩ := h
      have B := blkB_ok h1
      have hsub : ∀ j ∈ slotsT t, j ∈ (ownL G.N own).map (·.2) := by rw [ownL_snd]; exact subB_ok h2
      have R := e_comp (pos := pos) hsub g.calm (by rw [g.n]; exact g.nd) (ckS_ok s g tg iter h5) (by rw [g.n, g.hsc]; exact B)
        (fun s H A cl fp => ckT_ok (g.blk s H A cl fp B.kind) t tg h4) (fun s H A cl fp => ckQ_ok c (g.blk s H A cl fp B.kind) ifs h6) (fun s H A cl fp => (ckE_ok el (g.blk s H A cl fp B.kind) elt h7).pe) (fold_plain h3 _)
      rw [ownL_snd] at R
      exact J.of R rfl
    · cases h
theorem ckA_ok : ∀ (es : CEs) {X : Cx} {C : Call} {G : Gd} {sc : Scope} {fnb : Str → Bool} (g : Gk X C G sc fnb) (ls : List Expr), ckA G sc fnb es ls = true → JA X C es ls
  | .nil, _, _, _, _, _, g, ls, h => by
    unfold ckA at h
    rw [List.isEmpty_iff.mp h]
    exact ⟨a_nil, r_nil, rfl, rfl, trivial⟩
  | .cons a es, _, _, _, _, _, g, ls, h => by
    unfold ckA at h
    split at h
    · simp only [Bool.and_eq_true] at h
      have A0 := ckE_ok a g _ h.2.1
      have A := A0.pe
      have B := ckA_ok es g _ h.2.2
      exact ⟨a_cons h.1 A B.pa, r_cons h.1 A B.pr, by rw [List.all_cons, h.1, B.pl]; rfl, by rw [List.length_cons, ← B.len]; rfl, ⟨A0, B.el⟩⟩
    · cases h
theorem ckP_ok : ∀ (es : CEs) {X : Cx} {C : Call} {G : Gd} {sc : Scope} {fnb : Str → Bool} (g : Gk X C G sc fnb) (o : Option Expr), ckP G sc fnb es o = true → PO X o (tP X.K C es)
  | .nil, _, _, _, _, _, g, o, h => by
    unfold ckP at h
    cases o with
    | none => exact p_none
    | some _ => cases h
  | .cons a es, _, _, _, _, _, g, o, h => by
    unfold ckP at h
    split at h
    · exact p_some (ckE_ok a g _ h).pe
    · cases h
theorem ckQ_ok : ∀ (es : CEs) {X : Cx} {C : Call} {G : Gd} {sc : Scope} {fnb : Str → Bool} (g : Gk X C G sc fnb) (ls : List Expr), ckQ G sc fnb es ls = true → PTs X ls (tCs X.K C es)
  | .nil, _, _, _, _, _, g, ls, h => by
    unfold ckQ at h
    rw [List.isEmpty_iff.mp h]
    exact ts_nil
  | .cons a es, _, _, _, _, _, g, ls, h => by
    unfold ckQ at h
    split at h
    · exact ts_one (ckE_ok a g _ h).pt
    · cases h
theorem ckS_ok : ∀ (s : Src) {X : Cx} {C : Call} {G : Gd} {sc : Scope} {fnb : Str → Bool} (g : Gk X C G sc fnb) (tg e : Expr), ckS G sc fnb s tg e = true → PI X tg e (tS X.K C s)
  | .ex a, _, _, _, _, _, g, tg, e, h => by
    unfold ckS at h
    exact s_ex (ckE_ok a g _ h).pe
  | .rng es, _, _, _, _, _, g, tg, e, h => by
    unfold ckS at h
    split at h
    · rename_i x p ls pos
      simp only [Bool.and_eq_true, decide_eq_true_eq] at h
      obtain ⟨⟨rfl, h2, h3, h4⟩, h5⟩ := h
      obtain ⟨f1, f2, _⟩ := g.fnm h2
      have A := ckA_ok es g _ h5
      have hl := A.len
      have hp := A.pl
      match ls, h3, h4, hl, hp, A with
      | [e1], _, _, hl, hp, A => simp at hp; exact s_rng1 hl hp f1 f2 A.pr
      | [e1, e2], _, _, hl, hp, A => simp at hp; exact s_rng2 hl hp.1 hp.2 f1 f2 A.pr
      | [e1, e2, e3], _, _, hl, hp, A => simp at hp; exact s_rng3 hl hp.1 hp.2.1 hp.2.2 f1 f2 A.pr
      | _ :: _ :: _ :: _ :: _, _, h4, _, _, _ => simp at h4
    · cases h
  | .enm a, _, _, _, _, _, g, tg, e, h => by
    unfold ckS at h
    split at h
    · simp only [Bool.and_eq_true, decide_eq_true_eq] at h
      obtain ⟨⟨rfl, h2, h3⟩, h5⟩ := h
      obtain ⟨f1, f2, _⟩ := g.fnm h2
      exact s_enm h3 f1 f2 (r_cons h3 (ckE_ok a g _ h5).pe r_nil)
    · cases h
  | .zp es, _, _, _, _, _, g, tg, e, h => by
    unfold ckS at h
    split at h
    · simp only [Bool.and_eq_true, decide_eq_true_eq] at h
      obtain ⟨⟨rfl, h2⟩, h5⟩ := h
      obtain ⟨f1, f2, _⟩ := g.fnm h2
      have A := ckA_ok es g _ h5
      have hp := A.pl
      simp at hp
      exact s_zp A.len hp.1 hp.2 f1 f2 A.pr
    · simp only [Bool.and_eq_true, decide_eq_true_eq] at h
      obtain ⟨⟨rfl, h2⟩, h5⟩ := h
      obtain ⟨f1, f2, _⟩ := g.fnm h2
      have A := ckA_ok es g _ h5
      have hp := A.pl
      simp at hp
      exact s_zp3 A.len hp.1 hp.2.1 hp.2.2 f1 f2 A.pr
    · cases h
  | .rv (.los true a), _, _, _, _, _, g, tg, e, h => by
    unfold ckS at h
    split at h
    · rename_i heq
      simp only [CE.los.injEq, true_and] at heq
      subst heq
      simp only [Bool.and_eq_true, decide_eq_true_eq] at h
      obtain ⟨⟨rfl, h1, rfl, h2, h3⟩, h4⟩ := h
      obtain ⟨f1, f2, _⟩ := g.fnm h1
      obtain ⟨f3, f4, _⟩ := g.fnm h2
      exact s_rvR h3 f1 f2 f3 f4 (ckE_ok a g _ h4).pe
    · cases h
  | .rv (.los false _), _, _, _, _, _, g, tg, e, h => by (unfold ckS at h; simp at h)
  | .rv (.var _), _, _, _, _, _, g, tg, e, h => by (unfold ckS at h; simp at h)
  | .rv (.cst _), _, _, _, _, _, g, tg, e, h => by (unfold ckS at h; simp at h)
  | .rv (.bin _ _ _), _, _, _, _, _, g, tg, e, h => by (unfold ckS at h; simp at h)
  | .rv (.neg _), _, _, _, _, _, g, tg, e, h => by (unfold ckS at h; simp at h)
  | .rv (.not _), _, _, _, _, _, g, tg, e, h => by (unfold ckS at h; simp at h)
  | .rv (.cmp _ _ _), _, _, _, _, _, g, tg, e, h => by (unfold ckS at h; simp at h)
  | .rv (.chain _ _ _ _ _), _, _, _, _, _, g, tg, e, h => by (unfold ckS at h; simp at h)
  | .rv (.and _ _), _, _, _, _, _, g, tg, e, h => by (unfold ckS at h; simp at h)
  | .rv (.or _ _), _, _, _, _, _, g, tg, e, h => by (unfold ckS at h; simp at h)
  | .rv (.ite _ _ _), _, _, _, _, _, g, tg, e, h => by (unfold ckS at h; simp at h)
  | .rv (.tup _), _, _, _, _, _, g, tg, e, h => by (unfold ckS at h; simp at h)
  | .rv (.lst _), _, _, _, _, _, g, tg, e, h => by (unfold ckS at h; simp at h)
  | .rv (.idx _ _), _, _, _, _, _, g, tg, e, h => by (unfold ckS at h; simp at h)
  | .rv (.sli _ _ _), _, _, _, _, _, g, tg, e, h => by (unfold ckS at h; simp at h)
  | .rv (.rev _), _, _, _, _, _, g, tg, e, h => by (unfold ckS at h; simp at h)
  | .rv (.stp _ _), _, _, _, _, _, g, tg, e, h => by (unfold ckS at h; simp at h)
  | .rv (.srt _ _ _), _, _, _, _, _, g, tg, e, h => by (unfold ckS at h; simp at h)
  | .rv (.sri _ _), _, _, _, _, _, g, tg, e, h => by (unfold ckS at h; simp at h)
  | .rv (.vals _), _, _, _, _, _, g, tg, e, h => by (unfold ckS at h; simp at h)
  | .rv (.mm _ _ _), _, _, _, _, _, g, tg, e, h => by (unfold ckS at h; simp at h)
  | .rv (.call _ _), _, _, _, _, _, g, tg, e, h => by (unfold ckS at h; simp at h)
  | .rv (.bi _ _), _, _, _, _, _, g, tg, e, h => by (unfold ckS at h; simp at h)
  | .rv (.mt _ _ _), _, _, _, _, _, g, tg, e, h => by (unfold ckS at h; simp at h)
  | .rv (.isi _ _), _, _, _, _, _, g, tg, e, h => by (unfold ckS at h; simp at h)
  | .rv (.comp _ _ _ _ _), _, _, _, _, _, g, tg, e, h => by (unfold ckS at h; simp at h)
  | .rv .dic0, _, _, _, _, _, g, tg, e, h => by (unfold ckS at h; simp at h)
  | .rv .dit0, _, _, _, _, _, g, tg, e, h => by (unfold ckS at h; simp at h)
  | .rv (.dic1 _ _), _, _, _, _, _, g, tg, e, h => by (unfold ckS at h; simp at h)
  | .rv (.dit1 _ _), _, _, _, _, _, g, tg, e, h => by (unfold ckS at h; simp at h)
  | .rv .bad, _, _, _, _, _, g, tg, e, h => by (unfold ckS at h; simp at h)
  | .rv (.att _ _ _), _, _, _, _, _, g, tg, e, h => by (unfold ckS at h; simp at h)
  | .rv (.mcall _ _ _ _ _), _, _, _, _, _, g, tg, e, h => by (unfold ckS at h; simp at h)
  | .rv (.make _ _ _), _, _, _, _, _, g, tg, e, h => by (unfold ckS at h; simp at h)
  | .rv (.dicS _ _), _, _, _, _, _, g, tg, e, h => by (unfold ckS at h; simp at h)
  | .rv (.isx _), _, _, _, _, _, g, tg, e, h => by (unfold ckS at h; simp at h)
  | .dk a, _, _, _, _, _, g, tg, e, h => by
    unfold ckS at h
    exact s_dk (ckE_ok a g _ h).pe
end
/-- what it raises -/
theorem ckX_ok {W : WX} : ∀ (c : CE) {X : Cx} {C : Call} {G : Gd} {sc : Scope} {fnb : Str → Bool} (g : Gk X C G sc fnb) (tk : Takes X W) (e : Expr), ckE G sc fnb c e = true → PE X e (tX X.K W C c) := by
  intro c X C G sc fnb g tk e h
  cases c with
  | call f es =>
    unfold ckE at h
    split at h
    · rename_i x p ls pos
      simp only [Bool.and_eq_true, decide_eq_true_eq] at h
      obtain ⟨rfl, h1, h2, h3, h4⟩ := h
      obtain ⟨n1, _, _⟩ := nmB_ok h2
      obtain ⟨k, a, fd, ps, q1, q2, q3, q4, q5, q6⟩ := g.fns _ (fnB_ok h3)
      have q6 := q6.r
      have q4 := q4.imp fun _ _ _ _ => Or.inr
      have A := ckA_ok es g _ h4
      have hl : lenC es = ps.length := A.len.trans q5.symm
      cases ls with
      | nil =>
        cases es with
        | nil => exact x_call0 tk q4 q6 g.gd (g.gl h1) q1 q2 q3 hl n1
        | cons _ _ => have := A.len; simp [lenC] at this
      | cons l ls => exact x_call tk q4 q6 g.gd (g.gl h1) q1 q2 q3 hl A.pa A.pl n1
    · cases h
  | mcall c m q o es =>
    unfold ckE at h
    split at h
    · rename_i l x apos ls pos
      simp only [Bool.and_eq_true, decide_eq_true_eq] at h
      obtain ⟨⟨rfl, h2, h3, h4, h5, h6⟩, h7, h8⟩ := h
      have O := (ckE_ok o g _ h7).pe
      have A := ckA_ok es g _ h8
      obtain ⟨k, ga, fd, ps, q0, q1, q2, q3, q4, q5⟩ := g.ms _ (msB_ok h6)
      rw [if_neg h5] at q1
      have q3 := q3.imp fun _ _ _ _ => Or.inr
      have hl : lenC es + 1 = ps.length := by rw [A.len]; exact q4.symm
      cases ls with
      | nil =>
        cases es with
        | nil => exact x_mcall0 tk q0 q1 q3 q5.r g.gd q2 hl O h2 h3
        | cons _ _ => have := A.len; simp [lenC] at this
      | cons l ls => exact x_mcall tk q0 q1 q3 q5.r g.gd q2 hl O A.pa h2 A.pl h4 h3
    · cases h
  | _ => exact x_none fun _ _ => rfl
end Mw

set_option Elab.async false
set_option linter.all false
set_option autoImplicit false
set_option maxRecDepth 100000
/-! PyD4: the checker, statements. -/
namespace Mw
open PySem PySem.Spec PyProof.Rows L2
variable [Tbs]
def isComp : Expr → Bool
  | .ListComp .. => true
  | .SetComp .. => true
  | .DictComp .. => true
  | _ => false
def isName : Expr → Bool
  | .Name .. => true
  | _ => false
def isTupE : Expr → Bool
  | .Tuple .. => true
  | _ => false
def isSeqT : Expr → Bool
  | .Tuple .. => true
  | .List .. => true
  | _ => false
theorem sw_not {e : Expr} {tg : Option Expr} {l : Nat} {env : PySem.Env} (h : isComp e = false) : swapsWith e tg l env = pure false := by
  cases e <;> first | rfl | (cases h)
/-- a list made by a comprehension, or by one into a name that others see -/
def swB (sc : Scope) (tg e : Expr) : Bool := !isComp e || match tg with
  | .Name x _ => decide (sc.names.lookup x = some .cell)
  | _ => false
theorem sw_swB {e tg : Expr} {l : Nat} {env : PySem.Env} (h : swB env.scope tg e = true) : swapsWith e (some tg) l env = pure false := by
  unfold swB at h
  simp only [Bool.or_eq_true, Bool.not_eq_true'] at h
  rcases h with h | h
  · exact sw_not h
  · split at h
    · rename_i x p
      have k : env.kindOf x = some .cell := of_decide_eq_true h
      cases e <;> first | rfl | (unfold swapsWith; simp [k, show (NameKind.cell == NameKind.local) = false from rfl])
    · cases h
theorem sw_tgt {e tg : Expr} {l : Nat} {env : PySem.Env} (h : isName tg = false) : swapsWithSole [tg] e l env = pure false := by
  show swapsWith e (some tg) l env = pure false
  cases tg <;> first | (cases h; done) | (cases e <;> rfl)
theorem st_none {e tg : Expr} {env : PySem.Env} (h : isTupE e = false) : swappedStores [tg] e env = pure none := by
  cases e <;> first | (cases h; done) | (cases tg <;> rfl)
theorem st_none2 {e tg : Expr} {env : PySem.Env} (h : isSeqT tg = false) : swappedStores [tg] e env = pure none := by
  cases tg <;> first | (cases h; done) | (cases e <;> rfl)
/-- all items are constants: stored from the left -/
theorem st_fold {ts vs : List Expr} {k k2 : Nat} {p p2 : Pos} {env : PySem.Env} (hk : env.blockKind = .function) (h : vs.all (foldedForSure 8) = true) : swappedStores [.Tuple ts k p] (.Tuple vs k2 p2) env = pure none := by
  unfold swappedStores
  simp only [h]
  split
  · rfl
  · split
    · rfl
    · split <;> rfl
/-- two plain local names of one line -/
def parB (sc : Scope) (x y : Str) (px py : Pos) (a b : Expr) : Bool :=
  decide (x ≠ y) && (decide (sc.names.lookup x = some .local) && (decide (sc.names.lookup y = some .local) && ((py.line == px.line) && (!([a, b].all (foldedForSure 8)) && !([a, b].all (constantsAlone 8))))))
theorem st_par {x y : Str} {a b : Expr} {px py p p2 : Pos} {k k2 : Nat} {env : PySem.Env} (hk : env.scope.kind = .function) (ha : plainE a = true) (hb : plainE b = true) (h : parB env.scope x y px py a b = true) :
    swappedStores [.Tuple [.Name x px, .Name y py] k p] (.Tuple [a, b] k2 p2) env = pure (some [x, y]) := by
  simp only [parB, Bool.and_eq_true, decide_eq_true_eq, Bool.not_eq_true', Bool.not_eq_eq_eq_not, Bool.not_true] at h
  obtain ⟨h1, h2, h3, h4, h5, h6⟩ := h
  have kx : env.kindOf x = some .local := h2
  have ky : env.kindOf y = some .local := h3
  have hb2 : env.blockKind = .function := by unfold PySem.Env.blockKind; rw [hk]; rfl
  have e1 : ([a, b].any fun | .Starred .. => true | _ => false) = false := by
    cases a <;> first | (cases ha; done) | (cases b <;> first | rfl | (cases hb; done))
  have hd : ([x, y] : List Str).eraseDups.length = 2 := by
    have : (y == x) = false := beq_eq_false_iff_ne.mpr (Ne.symm h1)
    simp [List.eraseDups_cons, this]
  unfold swappedStores
  simp only [hb2, e1, h5, h6]
  simp [kx, ky, eq_of_beq h4, Expr.pos, hd]
  intro h
  rcases h with h | h <;> split at h <;> first | cases ha | cases hb | cases h

def foldB (tg e : Expr) : Bool := match tg, e with
  | .Tuple .., .Tuple vs _ _ => vs.all (foldedForSure 8)
  | _, _ => false
def okT : Str → Bool := fun _ => true
/-- target = value, no comprehension of its own: the general road -/
def asgB (G : Gd) (sc : Scope) (t : Tgt) (a : CE) (tg e : Expr) : Bool :=
  swB sc tg e && (plainE tg && ((!isTupE e || (!isSeqT tg || foldB tg e)) && (ckT G sc okT t tg && ckE G sc okT a e)))
/-- a, b = x, y -/
def asgP (G : Gd) (sc : Scope) (t : Tgt) (a : CE) (tg e : Expr) : Bool := match t, a, tg, e with
  | .tp (.cons (.nm i) (.cons (.nm j) .nil)), .tup (.cons a' (.cons b' .nil)), .Tuple [.Name x px, .Name y py] _ _, .Tuple [ea, eb] _ _ =>
    decide (G.N[i]? = some x) && (decide (G.N[j]? = some y) && (decide (i ≠ j) && (parB sc x y px py ea eb && ckA G sc okT (.cons a' (.cons b' .nil)) [ea, eb])))
  | _, _, _, _ => false
/-- name = [.. for ..] on the name's line -/
def asgL (G : Gd) (sc : Scope) (t : Tgt) (a : CE) (tg e : Expr) : Bool := match t, a, tg, e with
  | .nm i, .comp t' s c el own, .Name y py, .ListComp elt gs scope pos =>
    decide (G.N[i]? = some y) && (decide (sc.names.lookup y = some .local) && ((py.line == pos.line) && (!(scope.names.any fun (n, k) => n == y && (k == .local || k == .cell)) && ckE G sc okT (.comp t' s c el own) (.ListComp elt gs scope pos))))
  | _, _, _, _ => false
/-- an except clause's suite: names set to constants -/
def ckH1 (G : Gd) (sc : Scope) : CS → Stmt → Bool
  | .asg (.nm i) (.cst d), s => match s with
    | .Assign [.Name y _] e _ => decide (G.N[i]? = some y) && (locB sc okT y && (!isComp e && (!isTupE e && ckC d e)))
    | _ => false
  | .pass, s => match s with
    | .Pass _ => true
    | _ => false
  | _, _ => false
def ckH (G : Gd) (sc : Scope) : CSs → List Stmt → Bool
  | .nil, l => l.isEmpty
  | .cons c cs, l => match l with
    | s :: r => ckH1 G sc c s && ckH G sc cs r
    | [] => false
/-! ### an except clause's suite that asks of the error -/
def clnB (G : Gd) (sc : Scope) (y : Str) : Bool := glB sc y && (nmB y && G.ix.iy.contains y)
def clnsB (G : Gd) (sc : Scope) : List Expr → List Str → Bool
  | [], ys => ys.isEmpty
  | e :: es, ys => match e, ys with
    | .Name y _, z :: zs => decide (y = z) && (clnB G sc y && clnsB G sc es zs)
    | _, _ => false
def nmOf : Expr → Str
  | .Name y _ => y
  | _ => ""
def ckAt (G : Gd) (sc : Scope) (nm : Str) (c : Str) : CE → Expr → Bool
  | .cst d, e => ckC d e
  | .var j, e => match e with
    | .Name y _ => decide (G.N[j]? = some y) && (visB sc y && nmB y)
    | _ => false
  | .isx ks, e => match e with
    | .Call (.Name f _) [.Name x _, t] [] _ => decide (f = "isinstance") && (decide (x = nm) && (bltB G sc f && (match t with
      | .Name y _ => clnB G sc y && G.ix.i1.contains (c, y, decide (c ∈ ks))
      | .Tuple es _ _ => clnsB G sc es (es.map nmOf) && (decide (es.length ≤ 1000) && G.ix.im.contains (c, es.map nmOf, decide (c ∈ ks)))
      | _ => false)))
    | _ => false
  | _, _ => false
def ckAts (G : Gd) (sc : Scope) (nm : Str) (c : Str) : CEs → List Expr → Bool
  | .nil, l => l.isEmpty
  | .cons a es, l => match l with
    | e :: ls => plainE e && (ckAt G sc nm c a e && ckAts G sc nm c es ls)
    | [] => false
def ckAL (G : Gd) (sc : Scope) (nm : Str) (c : Str) : CE → Expr → Bool
  | .lst es, e => match e with
    | .List ls _ => decide (ls.length ≤ 1000) && ckAts G sc nm c es ls
    | _ => false
  | a, e => ckAt G sc nm c a e
def ckI1 (G : Gd) (sc : Scope) (i : Nat) (nm : Str) (c : Str) : CS → Stmt → Bool
  | .asg (.nm j) a, s => match s with
    | .Assign [.Name y _] e _ => decide (i ≠ j) && (decide (G.N[j]? = some y) && (locB sc okT y && (!isComp e && (!isTupE e && ckAL G sc nm c a e))))
    | _ => false
  | .expr (.mt .append (.var j) (.cons a .nil)), s => match s with
    | .Expr (.Call (.Attribute (.Name y _) m apos) [e] [] pos) _ => decide (G.N[j]? = some y) && (visB sc y && (nmB y && (decide (m = "append") && (plainE e && (ckAt G sc nm c a e && (apos.endLine == pos.line))))))
    | _ => false
  | _, _ => false
def ckI (G : Gd) (sc : Scope) (i : Nat) (nm : Str) (c : Str) : CSs → List Stmt → Bool
  | .nil, l => l.isEmpty
  | .cons k ks, l => match l with
    | s :: r => ckI1 G sc i nm c k s && ckI G sc i nm c ks r
    | [] => false
mutual
def ckSt (G : Gd) (sc : Scope) : CS → Stmt → Bool
  | .bad, _ => true
  | .pass, s => match s with
    | .Pass _ => true
    | _ => false
  | .brk, s => match s with
    | .Break _ => true
    | _ => false
  | .cont, s => match s with
    | .Continue _ => true
    | _ => false
  | .retN, s => match s with
    | .Return none _ => true
    | _ => false
  | .ret a, s => match s with
    | .Return (some e) _ => ckE G sc okT a e
    | _ => false
  | .expr a, s => match s with
    | .Expr e _ => !isComp e && ckE G sc okT a e
    | _ => false
  | .ite c x y, s => match s with
    | .If k a b _ => ckE G sc okT c k && (ckSs G sc x a && ckSs G sc y b)
    | _ => false
  | .asg t a, s => match s with
    | .Assign [tg] e _ => asgB G sc t a tg e || (asgP G sc t a tg e || asgL G sc t a tg e)
    | _ => false
  | .aug i o a, s => match s with
    | .AugAssign (.Name x _) op e _ => decide (G.N[i]? = some x) && (locB sc okT x && (ckE G sc okT a e && ((decide (o = .add) && (match op with | .Add => true | _ => false)) || (decide (o = .sub) && (match op with | .Sub => true | _ => false)))))
    | _ => false
  | .put a b c, s => match s with
    | .Assign [.Subscript o i _] e _ => plainE i && (ckE G sc okT a o && (ckE G sc okT b i && ckE G sc okT c e))
    | _ => false
  | .for t r b, s => match s with
    | .For tg iter body [] _ => plainE iter && (ckS G sc okT r tg iter && (ckT G sc okT t tg && ckSs G sc b body))
    | _ => false
  | .while c b, s => match s with
    | .While k body [] _ => ckE G sc okT c k && ckSs G sc b body
    | _ => false
  | .asgX t a, s => match s with
    | .Assign [tg] e _ => asgB G sc t a tg e
    | _ => false
  | .exprX a, s => match s with
    | .Expr e _ => !isComp e && ckE G sc okT a e
    | _ => false
  | .retX a, s => match s with
    | .Return (some e) _ => ckE G sc okT a e
    | _ => false
  | .sat c a f b, s => match s with
    | .Assign [.Attribute l x _] e _ => decide (x = f) && (clB G c f && (ckE G sc okT a l && ckE G sc okT b e))
    | _ => false
  | .ataug c a f b, s => match s with
    | .AugAssign (.Attribute l x _) op e _ => (decide (x = f) && (match op with | .Add => true | _ => false)) && (clB G c f && (ckE G sc okT a l && ckE G sc okT b e))
    | _ => false
  | .raise c, s => match s with
    | .Raise (some (.Call (.Name x _) [.Constant (.str _) _ _] [] _)) none _ => decide (x = c) && (G.ex.contains c && (glB sc c && nmB c))
    | _ => false
  | .tryx b x cs h, s => match s with
    | .Try body [.ExceptHandler (some (.Name y _)) none (s0 :: suite) _] [] [] _ => (decide (y = x) && (glB sc x && (nmB x && (!cs.isEmpty && cs.all fun c => xmB G c x)))) && (ckSs G sc b body && ckH G sc h (s0 :: suite))
    | _ => false
  | .tryas b x cs i h, s => match s with
    | .Try body [.ExceptHandler (some (.Name y _)) (some nm) (s0 :: suite) _] [] [] _ => (decide (y = x) && (glB sc x && (nmB x && (!cs.isEmpty && cs.all fun c => xmB G c x && G.ix.ie.contains c)))) &&
      ((decide (G.N[i]? = some nm) && (decide (sc.names.lookup nm = some .local) && nmB nm)) && (ckSs G sc b body && cs.all fun c => ckI G sc i nm c h (s0 :: suite)))
    | _ => false
def ckSs (G : Gd) (sc : Scope) : CSs → List Stmt → Bool
  | .nil, l => l.isEmpty
  | .cons c cs, l => match l with
    | s :: r => ckSt G sc c s && ckSs G sc cs r
    | [] => false
end
theorem asg_sub {o i : Expr} {tpos : Pos} {env : PySem.Env} {v : Value} (h : plainE i = true) : assign (.Subscript o i tpos) env v = (do
      let ov ← holding [v] (eval o env)
      let iv ← holding [v, ov] (eval i env)
      standAt tpos
      holding [v, ov, iv] (setItem ov iv v)
      release [v, ov, iv] []) := by
  cases i <;> first | rfl | (cases h)
section
variable {X : Cx} {C : Call} {G : Gd} {sc : Scope} {n : Nat} {W : WX}
theorem st_bad {s : Stmt} : PS X s (tSt X.K W C n .bad) := ⟨fun _ _ _ _ _ _ ⟨_, _, _, _, _, _, _, _, ee, _⟩ => by simp [exS] at ee⟩
theorem asgB_ok (g : Gk X C G sc okT) {t : Tgt} {a : CE} {tg e : Expr} {pos : Pos} (h : asgB G sc t a tg e = true) : PS X (.Assign [tg] e pos) (tSt X.K W C n (.asg t a)) := by
  simp only [asgB, Bool.and_eq_true] at h
  obtain ⟨h1, h2, h3, h4, h5⟩ := h
  refine s_asg (ckE_ok a g e h5).pe (ckT_ok g t tg h4) (sw_swB (by rw [g.hsc]; exact h1)) ?_ (by rw [asg_plain h2]; rfl)
  simp only [Bool.or_eq_true, Bool.not_eq_true'] at h3
  rcases h3 with h3 | h3 | h3
  · exact st_none h3
  · exact st_none2 h3
  · unfold foldB at h3
    split at h3
    · refine st_fold ?_ h3
      unfold PySem.Env.blockKind
      rw [g.hsc, g.kind]; rfl
    · cases h3
theorem asgXB_ok (g : Gk X C G sc okT) (tk : Takes X W) {t : Tgt} {a : CE} {tg e : Expr} {pos : Pos} (h : asgB G sc t a tg e = true) : PS X (.Assign [tg] e pos) (tSt X.K W C n (.asgX t a)) := by
  simp only [asgB, Bool.and_eq_true] at h
  obtain ⟨h1, h2, h3, h4, h5⟩ := h
  refine s_asgX (ckE_ok a g e h5).pe (ckX_ok a g tk e h5) (ckT_ok g t tg h4) (sw_swB (by rw [g.hsc]; exact h1)) ?_ (by rw [asg_plain h2]; rfl)
  simp only [Bool.or_eq_true, Bool.not_eq_true'] at h3
  rcases h3 with h3 | h3 | h3
  · exact st_none h3
  · exact st_none2 h3
  · unfold foldB at h3
    split at h3
    · refine st_fold ?_ h3
      unfold PySem.Env.blockKind
      rw [g.hsc, g.kind]; rfl
    · cases h3
theorem asgP_ok (g : Gk X C G sc okT) {t : Tgt} {a : CE} {tg e : Expr} {pos : Pos} (h : asgP G sc t a tg e = true) : PS X (.Assign [tg] e pos) (tSt X.K W C n (.asg t a)) := by
  unfold asgP at h
  split at h
  · simp only [Bool.and_eq_true, decide_eq_true_eq] at h
    obtain ⟨h1, h2, h3, h4, h5⟩ := h
    have A := ckA_ok _ g _ h5
    have hp := A.pl
    simp at hp
    have hs : X.env.scope.kind = .function := by rw [g.hsc]; exact g.kind
    have h4' := h4
    rw [← g.hsc] at h4'
    have q := h4'
    simp only [parB, Bool.and_eq_true, decide_eq_true_eq] at q
    exact s_par g.calm (by rw [g.n]; exact g.nd) (by rw [g.n]; exact h1) (by rw [g.n]; exact h2) h3 q.2.1 q.2.2.1 A.pa (st_par hs hp.1 hp.2 h4')
  · cases h
theorem asgL_ok (g : Gk X C G sc okT) {t : Tgt} {a : CE} {tg e : Expr} {pos : Pos} (h : asgL G sc t a tg e = true) : PS X (.Assign [tg] e pos) (tSt X.K W C n (.asg t a)) := by
  unfold asgL at h
  split at h
  · rename_i i t' s c el own y py elt gs scope pos'
    simp only [Bool.and_eq_true, decide_eq_true_eq, Bool.not_eq_true'] at h
    obtain ⟨h1, h2, h3, h4, h⟩ := h
    unfold ckE at h
    split at h
    · rename_i elt' tg iter ifs scope' pos'' heq
      cases heq
      simp only [Bool.and_eq_true] at h
      obtain ⟨⟨k1, k2, k3, k4⟩, k5, k6, k7⟩ := h
      have B := blkB_ok k1
      have hsub : ∀ j ∈ slotsT t', j ∈ (ownL G.N own).map (·.2) := by rw [ownL_snd]; exact subB_ok k2
      have hs : X.env.scope.kind = .function := by rw [g.hsc]; exact g.kind
      have hy : X.env.scope.names.lookup y = some .local := by rw [g.hsc]; exact h2
      have R := s_setLc (W := W) (n := n) (i := i) (py := py) (pos := pos') (spos := pos) hsub g.calm (by rw [g.n]; exact g.nd) (by rw [g.n]; exact h1) hy (sw_true hs hy h3 h4) (ckS_ok s g tg iter k5) (by rw [g.n, g.hsc]; exact B)
        (fun s H A cl fp => ckT_ok (g.blk s H A cl fp B.kind) t' tg k4) (fun s H A cl fp => ckQ_ok c (g.blk s H A cl fp B.kind) ifs k6) (fun s H A cl fp => (ckE_ok el (g.blk s H A cl fp B.kind) elt k7).pe) (fold_plain k3 _)
      rw [ownL_snd] at R
      exact R
    · cases h
  · cases h
theorem visL {sc : Scope} {x : Str} (h : sc.names.lookup x = some .local) : Vis sc x := .inl h
theorem clnB_ok (g : Gk X C G sc okT) {y : Str} (h : clnB G sc y = true) : ClN X y := by
  simp only [clnB, Bool.and_eq_true, List.contains_iff_mem] at h
  obtain ⟨h1, h2, h3⟩ := h
  exact ⟨g.gl h1, (nmB_ok h2).1, (nmB_ok h2).2.2, g.ix.iy y h3⟩
theorem clnsB_ok (g : Gk X C G sc okT) : ∀ {es : List Expr} {ys : List Str}, clnsB G sc es ys = true → clNs X es ys
  | [], ys, h => by
    unfold clnsB at h
    exact List.isEmpty_iff.mp h
  | e :: es, ys, h => by
    unfold clnsB at h
    split at h
    · simp only [Bool.and_eq_true, decide_eq_true_eq] at h
      obtain ⟨rfl, h2, h3⟩ := h
      exact ⟨rfl, clnB_ok g h2, clnsB_ok g h3⟩
    · cases h
section
variable {i : Nat} {nm c : Str} {a : Addr} {oe : Obj} {pn : List (Addr × Obj)}
/-- what is known of the error that the suite holds -/
structure Hd (X : Cx) (G : Gd) (sc : Scope) (i : Nat) (nm c : Str) (oe : Obj) : Prop where
  ie : c ∈ G.ix.ie
  hz : Zc (.ref (He.ga X.K c)) none oe
  hf : ∃ vs, oe.data = .fields vs
  hN : G.N[i]? = some nm
  hl : sc.names.lookup nm = some .local
  hn : nmB nm = true
theorem ckAt_ok (g : Gk X C G sc okT) (hd : Hd X G sc i nm c oe) (k : CE) (e : Expr) (h : ckAt G sc nm c k e = true) : PE (X.suite a ((a, oe) :: pn)) e (tIx i a (tE X.K (exC C c) k)) := by
  unfold ckAt at h
  split at h
  · exact i_of (X := X.suite a ((a, oe) :: pn)) (ckC_ok (X := X.suite a ((a, oe) :: pn)) h).pe
  · split at h
    · simp only [Bool.and_eq_true, decide_eq_true_eq] at h
      obtain ⟨h1, h2, h3⟩ := h
      exact i_of (X := X.suite a ((a, oe) :: pn)) (e_var (X := X.suite a ((a, oe) :: pn)) (by show X.N[_]? = _; rw [g.n]; exact h1) (by show Vis X.env.scope _; rw [g.hsc]; exact visB_ok h2) (nmB_ok h3).1 (nmB_ok h3).2.1)
    · cases h
  · split at h
    · simp only [Bool.and_eq_true, decide_eq_true_eq] at h
      obtain ⟨rfl, rfl, h3, h4⟩ := h
      obtain ⟨f1, f2, f3⟩ := g.fnm h3
      have v1 := g.n ▸ hd.hN
      have v2 := visL (g.hsc.symm ▸ hd.hl)
      split at h4
      · simp only [Bool.and_eq_true, List.contains_iff_mem] at h4
        exact i_one (X := X.suite a ((a, oe) :: pn)) (pe_is1 (g.ix.ie _ hd.ie) hd.hz hd.hf f1 f2 v1 v2 (nmB_ok hd.hn).1 (nmB_ok hd.hn).2.1 (clnB_ok g h4.1) (g.ix.i1 _ h4.2))
      · simp only [Bool.and_eq_true, List.contains_iff_mem, decide_eq_true_eq] at h4
        exact i_mny (X := X.suite a ((a, oe) :: pn)) (pe_isM (g.ix.ie _ hd.ie) hd.hz hd.hf f1 f2 v1 v2 (nmB_ok hd.hn).1 (nmB_ok hd.hn).2.1 (clnsB_ok g h4.1) (by simpa using h4.2.1) (g.ix.im _ h4.2.2))
      · cases h4
    · cases h
  · cases h
theorem ckAts_ok (g : Gk X C G sc okT) (hd : Hd X G sc i nm c oe) : ∀ (ks : CEs) (ls : List Expr), ckAts G sc nm c ks ls = true → PA (X.suite a ((a, oe) :: pn)) ls (tIa i a (tA X.K (exC C c) ks)) ∧ lenC ks = ls.length
  | .nil, l, h => by
    unfold ckAts at h
    rw [List.isEmpty_iff.mp h]
    exact ⟨ia_nil (X := X.suite a ((a, oe) :: pn)), rfl⟩
  | .cons k ks, l, h => by
    unfold ckAts at h
    split at h
    · simp only [Bool.and_eq_true] at h
      obtain ⟨h1, h2, h3⟩ := h
      obtain ⟨q1, q2⟩ := ckAts_ok g hd ks _ h3
      exact ⟨ia_cons (X := X.suite a ((a, oe) :: pn)) h1 (ckAt_ok g hd k _ h2) q1, by simp [lenC, q2]⟩
    · cases h
theorem ckAL_ok (g : Gk X C G sc okT) (hd : Hd X G sc i nm c oe) (k : CE) (e : Expr) (h : ckAL G sc nm c k e = true) : PE (X.suite a ((a, oe) :: pn)) e (tIx i a (tE X.K (exC C c) k)) := by
  unfold ckAL at h
  split at h
  · split at h
    · simp only [Bool.and_eq_true, decide_eq_true_eq] at h
      obtain ⟨q1, q2⟩ := ckAts_ok (a := a) (pn := pn) g hd _ _ h.2
      exact i_lst (X := X.suite a ((a, oe) :: pn)) q1 h.1 fun ρ st ds st' e => by rw [evA_len e, q2]
    · cases h
  · exact ckAt_ok g hd _ _ h
theorem ckI_ok (g : Gk X C G sc okT) (hd : Hd X G sc i nm c oe) : ∀ (k : CSs) (l : List Stmt), ckI G sc i nm c k l = true → PSs (X.suite a ((a, oe) :: pn)) l (tSsI X.K i a (exC C c) n k)
  | .nil, l, h => by
    unfold ckI at h
    rw [List.isEmpty_iff.mp h]
    exact iss_nil (X := X.suite a ((a, oe) :: pn))
  | .cons k ks, l, h => by
    unfold ckI at h
    split at h
    · rename_i s r
      simp only [Bool.and_eq_true] at h
      obtain ⟨h1, h2⟩ := h
      refine iss_cons (X := X.suite a ((a, oe) :: pn)) ?_ (ckI_ok g hd ks r h2)
      unfold ckI1 at h1
      split at h1
      · rename_i j k
        split at h1
        · rename_i y py e pos
          simp only [Bool.and_eq_true, decide_eq_true_eq, Bool.not_eq_true'] at h1
          obtain ⟨k0, k1, k2, k3, k4, k5⟩ := h1
          obtain ⟨m1, m2⟩ := locB_ok g k2
          refine is_asg (X := X.suite a ((a, oe) :: pn)) (ckAL_ok g hd _ _ k5) (g_nm (X := X.suite a ((a, oe) :: pn)) (by show X.N.Nodup; rw [g.n]; exact g.nd) (by show X.N[j]? = _; rw [g.n]; exact k1) m1 m2) ?_ (st_none k4) (by rw [asg_plain rfl]; rfl) (by simpa [slotsT] using k0)
          show swapsWith e (some (.Name y py)) pos.line _ = pure false
          exact sw_not k3
        · cases h1
      · rename_i j k
        split at h1
        · rename_i y py m apos e cpos pos
          simp only [Bool.and_eq_true, decide_eq_true_eq] at h1
          obtain ⟨k1, k2, k3, rfl, k5, k6, k7⟩ := h1
          obtain ⟨T, id, kd, M⟩ := mt_ok (X := X.suite a ((a, oe) :: pn)) (show X.A.units + 65 < cLine from g.units) .append rfl
          refine is_expr (X := X.suite a ((a, oe) :: pn)) (i_mt (X := X.suite a ((a, oe) :: pn)) M.pa M.slot M.hty M.hm M.ty M.hk ?_ ?_ rfl (by simp [k5]) (by simp) k7) (sw_not rfl)
          · exact e_var (X := X.suite a ((a, oe) :: pn)) (by show X.N[_]? = _; rw [g.n]; exact k1) (by show Vis X.env.scope _; rw [g.hsc]; exact visB_ok k2) (nmB_ok k3).1 (nmB_ok k3).2.1
          · exact ir_cons (X := X.suite a ((a, oe) :: pn)) k5 (ckAt_ok g hd _ _ k6) (ir_nil (X := X.suite a ((a, oe) :: pn)))
        · cases h1
      · cases h1
    · cases h
end
theorem ckH_ok (g : Gk X C G sc okT) {a : Addr} {pn : List (Addr × Obj)} : ∀ (c : CSs) (l : List Stmt), ckH G sc c l = true → PSs (X.suite a pn) l (tSs X.K W C n c)
  | .nil, l, h => by
    unfold ckH at h
    rw [List.isEmpty_iff.mp h]
    exact ss_nil (X := X.suite a pn)
  | .cons c cs, l, h => by
    unfold ckH at h
    split at h
    · rename_i s r
      simp only [Bool.and_eq_true] at h
      obtain ⟨h1, h2⟩ := h
      refine ss_cons (X := X.suite a pn) ?_ (ckH_ok g cs r h2)
      unfold ckH1 at h1
      split at h1
      · rename_i i d
        split at h1
        · rename_i y py e pos
          simp only [Bool.and_eq_true, decide_eq_true_eq, Bool.not_eq_true'] at h1
          obtain ⟨k1, k2, k3, k4, k5⟩ := h1
          obtain ⟨m1, m2⟩ := locB_ok g k2
          refine s_asg (X := X.suite a pn) (ckC_ok (X := X.suite a pn) (C := C) k5).pe (g_nm (X := X.suite a pn) (by show X.N.Nodup; rw [g.n]; exact g.nd) (by show X.N[i]? = _; rw [g.n]; exact k1) m1 m2) ?_ (st_none k4) (by rw [asg_plain rfl]; rfl)
          show swapsWith e (some (.Name y py)) pos.line _ = pure false
          exact sw_not k3
        · cases h1
      · split at h1
        · exact s_pass (X := X.suite a pn)
        · cases h1
      · cases h1
    · cases h
end
mutual
theorem ckSt_ok {X : Cx} {C : Call} {G : Gd} {sc : Scope} {n : Nat} {W : WX} (g : Gk X C G sc okT) (hp : PassesOwn (model X.prog X.w) X.A X.env X.xe) (tk : Takes X W) (hs : X.stack = X.env :: X.outer) (hf : X.env.frame = some X.env.locals) : ∀ (c : CS) (s : Stmt), ckSt G sc c s = true → PS X s (tSt X.K W C n c)
  | .bad, s, h => st_bad
  | .pass, s, h => by
    unfold ckSt at h
    split at h
    · exact s_pass
    · cases h
  | .brk, s, h => by
    unfold ckSt at h
    split at h
    · exact s_brk
    · cases h
  | .cont, s, h => by
    unfold ckSt at h
    split at h
    · exact s_cont
    · cases h
  | .retN, s, h => by
    unfold ckSt at h
    split at h
    · exact s_retN
    · cases h
  | .ret a, s, h => by
    unfold ckSt at h
    split at h
    · exact s_ret (ckE_ok a g _ h).pe
    · cases h
  | .expr a, s, h => by
    unfold ckSt at h
    split at h
    · simp only [Bool.and_eq_true, Bool.not_eq_true'] at h
      exact s_expr (ckE_ok a g _ h.2).pe (sw_not h.1)
    · cases h
  | .ite c x y, s, h => by
    unfold ckSt at h
    split at h
    · simp only [Bool.and_eq_true] at h
      exact s_if (ckE_ok c g _ h.1).pt (ckSs_ok g hp tk hs hf x _ h.2.1) (ckSs_ok g hp tk hs hf y _ h.2.2)
    · cases h
  | .asg t a, s, h => by
    unfold ckSt at h
    split at h
    · simp only [Bool.or_eq_true] at h
      rcases h with h | h | h
      · exact asgB_ok g h
      · exact asgP_ok g h
      · exact asgL_ok g h
    · cases h
  | .aug i o a, s, h => by
    unfold ckSt at h
    split at h
    · simp only [Bool.or_eq_true, Bool.and_eq_true, decide_eq_true_eq] at h
      obtain ⟨h1, h2, h3, h4⟩ := h
      obtain ⟨k1, k2⟩ := locB_ok g h2
      have A := (ckE_ok a g _ h3).pe
      have N1 : X.N.Nodup := by rw [g.n]; exact g.nd
      rcases h4 with ⟨rfl, h4⟩ | ⟨rfl, h4⟩
      · split at h4
        · exact s_augAdd N1 (by rw [g.n]; exact h1) k1 A k2
        · cases h4
      · split at h4
        · exact s_augSub N1 (by rw [g.n]; exact h1) k1 A k2
        · cases h4
    · cases h
  | .put a b c, s, h => by
    unfold ckSt at h
    split at h
    · simp only [Bool.and_eq_true] at h
      exact s_put g.units (ckE_ok a g _ h.2.1).pe (ckE_ok b g _ h.2.2.1).pe (ckE_ok c g _ h.2.2.2).pe (sw_tgt rfl) (fun v => asg_sub h.1)
    · cases h
  | .for t r b, s, h => by
    unfold ckSt at h
    split at h
    · simp only [Bool.and_eq_true] at h
      exact s_for hp g.calm (ckS_ok r g _ _ h.2.1) (ckT_ok g t _ h.2.2.1) (ckSs_ok g hp tk hs hf b _ h.2.2.2) (fold_plain h.1 _)
    · cases h
  | .while c b, s, h => by
    unfold ckSt at h
    split at h
    · simp only [Bool.and_eq_true] at h
      exact s_while hp (ckE_ok c g _ h.1).pt (ckSs_ok g hp tk hs hf b _ h.2)
    · cases h
  | .asgX t a, s, h => by
    unfold ckSt at h
    split at h
    · exact asgXB_ok g tk h
    · cases h
  | .exprX a, s, h => by
    unfold ckSt at h
    split at h
    · simp only [Bool.and_eq_true, Bool.not_eq_true'] at h
      exact s_exprX (ckE_ok a g _ h.2).pe (ckX_ok a g tk _ h.2) (sw_not h.1)
    · cases h
  | .retX a, s, h => by
    unfold ckSt at h
    split at h
    · exact s_retX (ckE_ok a g _ h).pe (ckX_ok a g tk _ h)
    · cases h
  | .sat c a f b, s, h => by
    unfold ckSt at h
    split at h
    · simp only [Bool.and_eq_true, decide_eq_true_eq] at h
      obtain ⟨rfl, h2, h3, h4⟩ := h
      obtain ⟨k1, k2⟩ := clB_ok g h2
      refine s_sat k1 k2 (ckE_ok a g _ h3).pe (ckE_ok b g _ h4).pe ?_
      rename_i l x px e pos
      exact sw_tgt (e := e) (tg := .Attribute l x px) (l := pos.line) (env := X.env) rfl
    · cases h
  | .ataug c a f b, s, h => by
    unfold ckSt at h
    split at h
    · simp only [Bool.and_eq_true, decide_eq_true_eq] at h
      obtain ⟨⟨rfl, h5⟩, h2, h3, h4⟩ := h
      obtain ⟨k1, k2⟩ := clB_ok g h2
      split at h5
      · exact s_ataug k1 k2 (ckE_ok a g _ h3).pe (ckE_ok b g _ h4).pe
      · cases h5
    · cases h
  | .raise c, s, h => by
    unfold ckSt at h
    split at h
    · simp only [Bool.and_eq_true, decide_eq_true_eq, List.contains_iff_mem] at h
      obtain ⟨rfl, h2, h3, h4⟩ := h
      obtain ⟨q1, q2, q3, q4, q5⟩ := g.ex _ h2
      exact s_raise g.calm tk q2 q1 q3 q4 q5 (g.gl h3) (nmB_ok h4).1
    · cases h
  | .tryx b x cs hd, s, h => by
    unfold ckSt at h
    split at h
    · rename_i body y np s0 suite pos' pos
      simp only [Bool.and_eq_true, decide_eq_true_eq, List.all_eq_true, Bool.not_eq_true'] at h
      obtain ⟨⟨rfl, h2, h3, h4, h5⟩, h6, h7⟩ := h
      have hm : X.mg y = some (.ref (He.ga X.K y)) := by
        cases cs with
        | nil => cases h4
        | cons c cs => exact (g.xm _ (xmB_ok (h5 c (by simp)))).1
      refine s_try hs hf tk (g.gl h2) (nmB_ok h3).1 hm (fun c hc => (g.xm _ (xmB_ok (h5 c hc))).2) (fun W' pn xe tk' hp' => ?_) fun a pn => ckH_ok g _ _ h7
      exact ckSs_ok (X := X.tr pn xe) ⟨g.n, g.hsc, g.kind, g.calm, g.nd, g.fn, g.units, g.gd, g.fr, g.fns, g.cs, g.ms, g.cl, g.ex, g.xm, g.ix, g.lam⟩ hp' tk' hs hf b _ h6
    · cases h
  | .tryas b x cs i hd, s, h => by
    unfold ckSt at h
    split at h
    · rename_i body y np nm s0 suite pos' pos
      simp only [Bool.and_eq_true, decide_eq_true_eq, List.all_eq_true, Bool.not_eq_true', List.contains_iff_mem] at h
      obtain ⟨⟨rfl, h2, h3, h4, h5⟩, ⟨n1, n2, n3⟩, h6, h7⟩ := h
      have hm : X.mg y = some (.ref (He.ga X.K y)) := by
        cases cs with
        | nil => cases h4
        | cons c cs => exact (g.xm _ (xmB_ok (h5 c (by simp)).1)).1
      refine s_tryas hs hf (by rw [g.n]; exact g.nd) (by rw [g.n]; exact n1) (by show X.env.scope.names.lookup nm = _; rw [g.hsc]; exact n2) tk (g.gl h2) (nmB_ok h3).1 hm (fun c hc => (g.xm _ (xmB_ok (h5 c hc).1)).2) (fun W' pn xe tk' hp' => ?_) fun a oe pn y hy hz hv => ckI_ok g ⟨(h5 y hy).2, hz, hv, n1, n2, n3⟩ _ _ (h7 y hy)
      exact ckSs_ok (X := X.tr pn xe) ⟨g.n, g.hsc, g.kind, g.calm, g.nd, g.fn, g.units, g.gd, g.fr, g.fns, g.cs, g.ms, g.cl, g.ex, g.xm, g.ix, g.lam⟩ hp' tk' hs hf b _ h6
    · cases h
theorem ckSs_ok {X : Cx} {C : Call} {G : Gd} {sc : Scope} {n : Nat} {W : WX} (g : Gk X C G sc okT) (hp : PassesOwn (model X.prog X.w) X.A X.env X.xe) (tk : Takes X W) (hs : X.stack = X.env :: X.outer) (hf : X.env.frame = some X.env.locals) : ∀ (c : CSs) (l : List Stmt), ckSs G sc c l = true → PSs X l (tSs X.K W C n c)
  | .nil, l, h => by
    unfold ckSs at h
    rw [List.isEmpty_iff.mp h]
    exact ss_nil
  | .cons c cs, l, h => by
    unfold ckSs at h
    split at h
    · simp only [Bool.and_eq_true] at h
      exact ss_cons (ckSt_ok g hp tk hs hf c _ h.1) (ckSs_ok g hp tk hs hf cs _ h.2)
    · cases h
end
end Mw

set_option Elab.async false
set_option linter.all false
set_option autoImplicit false
set_option maxRecDepth 100000
/-! PyE: defs of a program, all at once. -/
namespace Mw
open PySem PySem.Spec PyProof.Rows L2
variable [Tbs]
/-! ### how plain parameters bind -/
theorem zip_look : ∀ {ps : List Str} {us : List Value}, us.length = ps.length → ∀ x ∈ ps, ((ps.zip us).lookup x).isSome = true
  | [], _, _, x, h => by simp at h
  | p :: ps, [], hl, x, h => by simp at hl
  | p :: ps, u :: us, hl, x, h => by
    rw [List.zip_cons_cons, List.lookup_cons]
    by_cases e : x == p
    · simp [e]
    · simp only [e]
      rcases List.mem_cons.mp h with z | z
      · exact absurd (beq_iff_eq.mpr z) e
      · exact zip_look (by simpa using hl) x z
theorem zip_map : ∀ {ps : List Str} {us : List Value}, ps.Nodup → us.length = ps.length → (ps.filterMap fun n => ((ps.zip us).lookup n).map fun v => (n, v)) = ps.zip us := by
  have go : ∀ (ps : List Str) (us : List Value) (f : Str → Option Value), ps.Nodup → us.length = ps.length → (∀ p ∈ ps.zip us, f p.1 = some p.2) → (ps.filterMap fun n => (f n).map fun v => (n, v)) = ps.zip us := by
    intro ps
    induction ps with
    | nil => intro us f _ _ _; rfl
    | cons p ps ih =>
      intro us f nd hl h
      cases us with
      | nil => simp at hl
      | cons u us =>
        have h1 : f p = some u := h (p, u) (by simp)
        rw [List.filterMap_cons, h1]
        simp only [Option.map_some, List.zip_cons_cons]
        rw [ih us f (List.nodup_cons.mp nd).2 (by simpa using hl) fun q hq => h q (by simp [hq])]
  intro ps us nd hl
  refine go ps us _ nd hl ?_
  intro q hq
  clear go
  induction ps generalizing us with
  | nil => simp at hq
  | cons p ps ih =>
    cases us with
    | nil => simp at hq
    | cons u us =>
      rw [List.zip_cons_cons] at hq ⊢
      rw [List.lookup_cons]
      rcases List.mem_cons.mp hq with z | z
      · subst z; simp
      · have hne : (q.1 == p) = false := beq_eq_false_iff_ne.mpr fun e => (List.nodup_cons.mp nd).1 (e ▸ (List.of_mem_zip z).1)
        rw [hne]
        exact ih (List.nodup_cons.mp nd).2 (by simpa using hl) z
theorem bind_plain {x qual : Str} {as : List Arg} {body : List Stmt} {scope : Scope} {kV doc pm cdv ct : Value} {an : Option Addr} {us : List Value} (nd : (as.map (·.arg)).Nodup) (hl : us.length = (as.map (·.arg)).length) :
    bindArgs (PySem.W.fnOf x qual ⟨[], as, none, [], [], none, []⟩ body scope .none kV doc pm an cdv ct) ⟨us, []⟩ = pure ((as.map (·.arg)).zip us) := by
  have e1 : ((as.map (·.arg)).filter fun n => (((as.map (·.arg)).zip us).lookup n).isNone) = [] := by
    rw [List.filter_eq_nil_iff]
    intro n hn
    have := zip_look hl n hn
    cases h : ((as.map (·.arg)).zip us).lookup n with
    | none => rw [h] at this; cases this
    | some _ => simp
  have e2 := zip_map nd hl
  have e3 : ¬ (us.length > (as.map (·.arg)).length) := by omega
  unfold bindArgs
  have hd : seqItems? (PySem.W.fnOf x qual ⟨[], as, none, [], [], none, []⟩ body scope .none kV doc pm an cdv ct).defaults = pure none := by rfl
  have hp : (PySem.W.fnOf x qual ⟨[], as, none, [], [], none, []⟩ body scope .none kV doc pm an cdv ct).params = ⟨[], as, none, [], [], none, []⟩ := rfl
  simp only [hd, hp, List.map_nil, List.nil_append, pure_bind, List.append_nil, List.forIn_nil, if_neg e3]
  simp
  rw [if_neg (by simpa using e3)]
  have e4 : (List.take ((List.map (fun x => x.arg) as).length - (List.drop (0 - (List.map (fun x => x.arg) as).length) ([] : List Value)).length) (List.map (fun x => x.arg) as)) = List.map (fun x => x.arg) as := by
    rw [List.drop_nil, List.length_nil, Nat.sub_zero, List.take_length]
  rw [List.filterMap_map] at e2
  refine (if_neg ?_).trans (congrArg pure e2)
  rw [e4, e1]
  simp
/-! ### the store behind a call -/
section
variable {K : PySem.W.Frag} {β new : List Addr} {H : Hp}
mutual
theorem low_rep : ∀ (d : D) (v : V), D.low β.length d = true → Rep K (β ++ new) H d v → Rep K β H d v
  | .non, _, _, h => h
  | .bl _, _, _, h => h
  | .int _, _, _, h => h
  | .str _, _, _, h => h
  | .tup xs, v, hl, h => by obtain ⟨a, vs, e1, h1, h2⟩ := h; exact ⟨a, vs, e1, h1, low_repL xs vs hl h2⟩
  | .rol xs, v, hl, h => by obtain ⟨a, vs, e1, h1, h2⟩ := h; exact ⟨a, vs, e1, h1, low_repL xs vs hl h2⟩
  | .ref n, v, hl, h => by
    obtain ⟨a, e1, e2⟩ := h
    have hn : n < β.length := by simpa [D.low] using hl
    rw [List.getElem?_append_left hn] at e1
    exact ⟨a, e1, e2⟩
theorem low_repL : ∀ (ds : List D) (vs : List V), D.lowL β.length ds = true → RepL K (β ++ new) H ds vs → RepL K β H ds vs
  | [], _, _, h => h
  | x :: xs, vs, hl, h => by
    obtain ⟨v, r, e1, h1, h2⟩ := h
    simp only [D.lowL, Bool.and_eq_true] at hl
    exact ⟨v, r, e1, low_rep x v hl.1 h1, low_repL xs r hl.2 h2⟩
end
mutual
theorem rep_low : ∀ (d : D) (v : V), Rep K β H d v → D.low β.length d = true
  | .non, _, _ => rfl
  | .bl _, _, _ => rfl
  | .int _, _, _ => rfl
  | .str _, _, _ => rfl
  | .tup xs, v, h => by obtain ⟨a, vs, e1, h1, h2⟩ := h; exact repL_low xs vs h2
  | .rol xs, v, h => by obtain ⟨a, vs, e1, h1, h2⟩ := h; exact repL_low xs vs h2
  | .ref n, v, h => by
    obtain ⟨a, e1, e2⟩ := h
    have := (List.getElem?_eq_some_iff.mp e1).1
    simpa [D.low] using this
theorem repL_low : ∀ (ds : List D) (vs : List V), RepL K β H ds vs → D.lowL β.length ds = true
  | [], _, _ => rfl
  | x :: xs, vs, h => by
    obtain ⟨v, r, e1, h1, h2⟩ := h
    simp only [D.lowL, Bool.and_eq_true]
    exact ⟨rep_low x v h1, repL_low xs r h2⟩
end
end
theorem low_vals {m : Nat} {lk : Bool} : ∀ {kvs : List (D × D)}, (O.dic lk kvs).low m = true → D.lowL m (kvs.map (·.2)) = true
  | [], _ => rfl
  | (k, v) :: kvs, h => by
    simp only [O.low, List.all_cons, Bool.and_eq_true] at h
    simp only [List.map_cons, D.lowL, Bool.and_eq_true]
    exact ⟨h.1.2, low_vals (lk := lk) h.2⟩
theorem low_valsT {m : Nat} {lk : Bool} : ∀ {kvs : List (D × D)}, (O.dit lk kvs).low m = true → D.lowL m (kvs.map (·.2)) = true
  | [], _ => rfl
  | (k, v) :: kvs, h => by
    simp only [O.low, List.all_cons, Bool.and_eq_true] at h
    simp only [List.map_cons, D.lowL, Bool.and_eq_true]
    exact ⟨h.1.2, low_valsT (lk := lk) h.2⟩
theorem low_fs {m : Nat} {c : Str} : ∀ {fs : List (Str × D)}, (O.ins c fs).low m = true → D.lowL m (fs.map (·.2)) = true
  | [], _ => rfl
  | (k, v) :: fs, h => by
    simp only [O.low, List.all_cons, Bool.and_eq_true] at h
    simp only [List.map_cons, D.lowL, Bool.and_eq_true]
    exact ⟨h.1, low_fs (c := c) h.2⟩
theorem gc_ok {K : PySem.W.Frag} {β β' : List Addr} {st st' : Sto} {H H' : Hp} {d : D} {v : V} (s0 : Sim K β st H) (x : Ext β H β' H') (s : Sim K β' st' H') (r : Rep K β' H' d v) :
    ∃ β2, Ext β H β2 H' ∧ Sim K β2 (gc st d st').2 H' ∧ Rep K β2 H' (gc st d st').1 v := by
  unfold gc
  split
  rotate_left
  · exact ⟨β', x, s, r⟩
  rename_i hg
  simp only [gcOld, Bool.and_eq_true, decide_eq_true_eq, List.all_eq_true, List.mem_range, Bool.or_eq_true] at hg
  obtain ⟨hle, hall⟩ := hg
  obtain ⟨new, rfl, hn⟩ := x.pre
  have hb : β.length = st.length := s0.len
  -- what was there names only what was there
  have sβ : Sim K β (st'.take st.length) H' := by
    refine ⟨by rw [List.length_take, hb]; omega, s0.nd, fun n a o h1 h2 => ?_, s.tab⟩
    have hlt : n < st.length := by rw [← hb]; exact (List.getElem?_eq_some_iff.mp h1).1
    rw [List.getElem?_take_of_lt hlt] at h2
    have h1' : (β ++ new)[n]? = some a := by rw [List.getElem?_append_left (by rw [hb]; exact hlt)]; exact h1
    have q := s.obj n a o h1' h2
    cases o with
    | lst xs =>
      obtain ⟨vs, q1, q2⟩ := q
      refine ⟨vs, q1, low_repL xs vs ?_ q2⟩
      rcases hall n hlt with e | e
      · rw [h2] at e
        obtain ⟨ws, _, p2⟩ := s0.obj n a _ h1 e.symm
        exact repL_low xs ws p2
      · rw [h2] at e
        rw [hb]
        exact e
    | dic lk kvs =>
      obtain ⟨ks, q1, q3, q2⟩ := q
      refine ⟨ks, q1, q3, low_repL _ _ ?_ q2⟩
      rcases hall n hlt with e | e
      · rw [h2] at e
        obtain ⟨ws, _, _, p2⟩ := s0.obj n a _ h1 e.symm
        exact repL_low _ _ p2
      · rw [h2] at e
        rw [hb]
        exact low_vals e
    | dit lk kvs =>
      obtain ⟨ks, q1, q3, q2⟩ := q
      refine ⟨ks, q1, q3, low_repL _ _ ?_ q2⟩
      rcases hall n hlt with e | e
      · rw [h2] at e
        obtain ⟨ws, _, _, p2⟩ := s0.obj n a _ h1 e.symm
        exact repL_low _ _ p2
      · rw [h2] at e
        rw [hb]
        exact low_valsT e
    | ins c fs =>
      obtain ⟨dx, ks, q1, q3, q2⟩ := q
      refine ⟨dx, ks, q1, q3, low_repL _ _ ?_ q2⟩
      rcases hall n hlt with e | e
      · rw [h2] at e
        obtain ⟨dy, ws, _, _, p2⟩ := s0.obj n a _ h1 e.symm
        exact repL_low _ _ p2
      · rw [h2] at e
        rw [hb]
        exact low_fs e
  have xβ : Ext β H β H' := ⟨⟨[], by simp⟩, x.keep, x.frz, x.tbn, x.tab⟩
  split
  · rename_i hl
    exact ⟨β, xβ, sβ, low_rep d v (by rw [hb]; exact hl) r⟩
  · split
    · rename_i n hl
      split
      · rename_i o ho
        split
        · rename_i hlo
          obtain ⟨a, h1, rfl⟩ := r
          have q := s.obj n a o h1 ho
          cases o with
          | lst xs =>
            obtain ⟨vs, q1, q2⟩ := q
            have hge : β.length ≤ n := by
              rw [hb]
              simp [D.low] at hl
              exact hl
            have hm : a ∈ new := by
              rw [List.getElem?_append_right hge] at h1
              exact List.mem_of_getElem? h1
            have ha : a ∉ β := fun hm2 => (List.nodup_append.mp s.nd).2.2 a hm2 a hm rfl
            have q3 : RepL K β H' xs vs := low_repL xs vs (by rw [hb]; exact hlo) q2
            refine ⟨β ++ [a], ⟨⟨[a], rfl, fun b hb => by rw [List.mem_singleton.mp hb]; exact hn a hm⟩, x.keep, x.frz, x.tbn, x.tab⟩, sβ.lay q1 ha q3, a, ?_, rfl⟩
            rw [← hb, List.getElem?_append_right (Nat.le_refl _)]
            simp
          | dic lk kvs =>
            obtain ⟨ks, q1, qk, q2⟩ := q
            have hge : β.length ≤ n := by
              rw [hb]
              simp [D.low] at hl
              exact hl
            have hm : a ∈ new := by
              rw [List.getElem?_append_right hge] at h1
              exact List.mem_of_getElem? h1
            have ha : a ∉ β := fun hm2 => (List.nodup_append.mp s.nd).2.2 a hm2 a hm rfl
            have q3 : RepL K β H' (kvs.map (·.2)) (ks.map (·.2)) := low_repL _ _ (by rw [hb]; exact low_vals hlo) q2
            refine ⟨β ++ [a], ⟨⟨[a], rfl, fun b hb => by rw [List.mem_singleton.mp hb]; exact hn a hm⟩, x.keep, x.frz, x.tbn, x.tab⟩, sβ.layO ha ⟨ks, q1, qk, RepL.grow grow_app _ _ q3⟩, a, ?_, rfl⟩
            rw [← hb, List.getElem?_append_right (Nat.le_refl _)]
            simp
          | dit lk kvs =>
            obtain ⟨ks, q1, qk, q2⟩ := q
            have hge : β.length ≤ n := by
              rw [hb]
              simp [D.low] at hl
              exact hl
            have hm : a ∈ new := by
              rw [List.getElem?_append_right hge] at h1
              exact List.mem_of_getElem? h1
            have ha : a ∉ β := fun hm2 => (List.nodup_append.mp s.nd).2.2 a hm2 a hm rfl
            have q3 : RepL K β H' (kvs.map (·.2)) (ks.map (·.2)) := low_repL _ _ (by rw [hb]; exact low_valsT hlo) q2
            refine ⟨β ++ [a], ⟨⟨[a], rfl, fun b hb => by rw [List.mem_singleton.mp hb]; exact hn a hm⟩, x.keep, x.frz, x.tbn, x.tab⟩, sβ.layO ha ⟨ks, q1, qk, RepL.grow grow_app _ _ q3⟩, a, ?_, rfl⟩
            rw [← hb, List.getElem?_append_right (Nat.le_refl _)]
            simp
          | ins c fs =>
            obtain ⟨dx, ks, q1, qk, q2⟩ := q
            have hge : β.length ≤ n := by
              rw [hb]
              simp [D.low] at hl
              exact hl
            have hm : a ∈ new := by
              rw [List.getElem?_append_right hge] at h1
              exact List.mem_of_getElem? h1
            have ha : a ∉ β := fun hm2 => (List.nodup_append.mp s.nd).2.2 a hm2 a hm rfl
            have q3 : RepL K β H' (fs.map (·.2)) (ks.map (·.2)) := low_repL _ _ (by rw [hb]; exact low_fs hlo) q2
            refine ⟨β ++ [a], ⟨⟨[a], rfl, fun b hb => by rw [List.mem_singleton.mp hb]; exact hn a hm⟩, x.keep, x.frz, x.tbn, x.tab⟩, sβ.layO ha ⟨dx, ks, q1, qk, RepL.grow grow_app _ _ q3⟩, a, ?_, rfl⟩
            rw [← hb, List.getElem?_append_right (Nat.le_refl _)]
            simp
        · exact ⟨β ++ new, x, s, r⟩
      · exact ⟨β ++ new, x, s, r⟩
    · exact ⟨β ++ new, x, s, r⟩
end Mw

set_option Elab.async false
set_option linter.all false
set_option autoImplicit false
set_option maxRecDepth 100000
/-! PyE2: a program's defs as their core says. -/
namespace Mw
open PySem PySem.Spec PyProof.Rows L2
variable [Tbs]
/-- a def: the name by which it is called, its statement, its slots, its parameters' number, its core, its own name -/
structure Fe where
  nm : Str
  st : Stmt
  N : List Str
  np : Nat
  body : CSs
  on : Str := nm
  cl : Option Str := none
def tabOf (fes : List Fe) : Tab := fes.map fun e => (e.nm, ⟨e.np, e.N.length, e.body⟩)
def fnsOf (fes : List Fe) : List (Str × Nat) := (fes.filter fun e => e.cl.isNone).map fun e => (e.nm, e.np)
def msOf (fes : List Fe) : List (Str × Str × Str × Nat) := (fes.filter fun e => e.cl.isSome).map fun e => (e.nm, e.cl.getD "", e.on, e.np)
def Fe.at_ (e : Fe) : Str × Option Str := match e.cl with
  | none => (e.nm, none)
  | some c => (c, some e.on)
def Fe.qual (e : Fe) : Str := match e.cl with
  | none => e.on
  | some c => c ++ "." ++ e.on
def Fe.ps (e : Fe) : List Str := e.N.take e.np
def Fe.dd (e : Fe) : He.DefD := ⟨e.at_, e.on, e.qual, defArgs e.st, defBody e.st, defScope e.st, [], []⟩
def argB (as : Arguments) (ps : List Str) : Bool := match as with
  | ⟨[], l, none, [], [], none, []⟩ => decide (l.map (·.arg) = ps)
  | _ => false
/-- classes: with their attributes; those raised; those caught by others -/
structure Ci where
  cl : List (Str × List Str) := []
  ex : List Str := []
  xm : List (Str × Str) := []
  ix : Ix := {}
  /-- defs within which lambdas are made, what they are called -/
  lm : List ((Str × Option Str) × Str) := []
def lamQ (q : Str) : Str := q ++ ".<locals>." ++ "<lambda>"
/-- the whole of a def -/
def ckF (fr : List Str) (fns : List (Str × Nat)) (cs : List (Str × D)) (e : Fe) (ms : List (Str × Str × Str × Nat) := []) (ci : Ci := {}) : Bool :=
  (argB (defArgs e.st) e.ps && (scB e.N e.ps (defScope e.st) && (decide (e.np ≤ e.N.length) && decide (unb e.nm = none)))) && ckSs ⟨e.N, fr, fns, cs, ms, ci.cl, ci.ex, ci.xm, ci.ix, decide ((e.at_, e.qual) ∈ ci.lm)⟩ (defScope e.st) e.body (defBody e.st)
section
variable {P : Program} {w : World} {K : PySem.W.Frag} {mg : Str → Option Value} {base : Heap} {fr : List Str} {fns : List (Str × Nat)} {cs : List (Str × D)} {e : Fe} {f : Addr} {fd : FuncData} {C : Call} {n : Nat} {ms : List (Str × Str × Str × Nat)} {ci : Ci}
theorem env_start {β : List Addr} {H : Hp} {N : List Str} {np : Nat} : ∀ {ds : List D} {vs : List V}, RepL K β H ds vs → ds.length = np → np ≤ N.length → EnvR K β H (ds.map some ++ List.replicate (N.length - np) none) (L2.start N vs) := by
  intro ds vs r hl hn
  have hvl : vs.length = np := by rw [← r.length]; exact hl
  refine ⟨by simp [L2.start, hl, hvl], fun i d hi => ?_⟩
  have hlt : i < ds.length := by
    by_cases hlt : i < ds.length
    · exact hlt
    · rw [List.getElem?_append_right (by simpa using hlt), List.getElem?_replicate] at hi
      split at hi <;> cases hi
  rw [List.getElem?_append_left (by simpa using hlt), List.getElem?_map] at hi
  cases hd : ds[i]? with
  | none => rw [hd] at hi; cases hi
  | some d' =>
    rw [hd] at hi
    cases hi
    obtain ⟨v, hv, rv⟩ := RepL.at r hd
    refine ⟨v, ?_, rv⟩
    unfold L2.start
    rw [List.getElem?_append_left (by rw [List.length_map, hvl, ← hl]; exact hlt), List.getElem?_map, hv]
    rfl
theorem ckF_binds (h : ckF fr fns cs e ms ci = true) (F : FunD K e.on e.qual (defArgs e.st) (defBody e.st) (defScope e.st) [] [] f fd) : Binds K fd e.ps [] ∧ ∀ (s : Shared) (us : List Value), us.length = e.ps.length → BindsTo s fd ⟨us, []⟩ (e.ps.zip us) := by
  simp only [ckF, Bool.and_eq_true] at h
  obtain ⟨⟨h1, h2, h3, _⟩, _⟩ := h
  have S := scB_ok h2
  have nd : e.ps.Nodup := by rw [← S.pre]; exact S.nd.sublist (List.take_sublist _ _)
  unfold argB at h1
  split at h1
  · rename_i l hq
    have hl := of_decide_eq_true h1
    rw [hq] at F
    rw [← hl] at nd ⊢
    exact ⟨F.bindsN fun kV doc pm an cdv ct us hu => bind_plain nd hu, F.bindsA fun kV doc pm an cdv ct us hu => bind_plain nd hu⟩
  · cases h1
theorem unb_bang (f : Str) : unb (bang f) = some f := by
  have e : (bang f).cps.toList = 33 :: f.cps.toList := by
    show ((Str.ofString "!").cps ++ f.cps).toList = _
    rw [Array.toList_append]
    rfl
  unfold unb
  rw [e]
  show some (⟨f.cps.toList.toArray⟩ : Str) = some f
  simp
theorem ckF_ok {k : Nat} {T : Tab} (h : ckF fr fns cs e ms ci = true) (hT : T.lookup e.nm = some ⟨e.np, e.N.length, e.body⟩) (hB : T.lookup (bang e.nm) = none) (F : FunD K e.on e.qual (defArgs e.st) (defBody e.st) (defScope e.st) [] [] f fd) (hf : f = He.fAd K e.at_) (hlm : ∀ p ∈ ci.lm, LamX.TabB base mg (He.cT K p.1).1 (He.cT K p.1).2 ∧ ((He.cT K p.1).2, lamQ p.2) ∈ Tbs.T ∧ ∀ r ∈ Tbs.T, r.1 = (He.cT K p.1).2 → r.2 = lamQ p.2) (hfr : ∀ x, x ∈ fr → mg x = none)
    (hfns : ∀ p, p ∈ fns → ∃ (g : Addr) (fd : FuncData) (ps : List Str), mg p.1 = some (.ref g) ∧ PySem.W.keepIn K (.ref g) = true ∧ Binds K fd ps [] ∧ FnG P w K mg base k g fd ps (spG K (callF T n k) p.1 ps.length) ∧ ps.length = p.2)
    (hms : ∀ p, p ∈ ms → ∃ (g : Addr) (fd : FuncData) (ps : List Str), Cls K (He.ga K p.2.1) ∧ (if p.2.2.1 = "__init__" then Mk K (He.ga K p.2.1) g ∧ mg p.2.1 = some (.ref (He.ga K p.2.1)) else Meth K (He.ga K p.2.1) p.2.2.1 g) ∧ Binds K fd ps [] ∧ FnG P w K mg base k g fd ps (spG K (callF T n k) p.1 ps.length) ∧ ps.length = p.2.2.2)
    (hcl : ∀ p, p ∈ ci.cl → Cls K (He.ga K p.1) ∧ ∀ f, f ∈ p.2 → NoAttr K (He.ga K p.1) f)
    (hex : ∀ x, x ∈ ci.ex → mg x = some (.ref (He.ga K x)) ∧ PySem.W.excIn K (He.ga K x) He.veBase "ValueError.__new__" = true ∧ PySem.W.keepIn K (.ref (He.ga K x)) = true ∧ PySem.W.subIn K (.ref (He.ga K x)) (.type "BaseException") = some true ∧ PySem.W.typeIn K (.ref (He.ga K x)) = some (.type "type"))
    (hxm : ∀ p, p ∈ ci.xm → mg p.2 = some (.ref (He.ga K p.2)) ∧ PySem.W.exmOne K (.ref (He.ga K p.1)) (.ref (He.ga K p.2)) = some true)
    (hix : IxOk K mg ci.ix)
    (hcs : ∀ p, p ∈ cs → ∃ (v : V) (u : Value), mg p.1 = some u ∧ RelV v u ∧ ∀ β H, Rep K β H p.2 v) : FnG P w K mg base (k + 1) f fd e.ps (spG K (callF T n (k + 1)) e.nm e.ps.length) := by
  have h0 := h
  simp only [ckF, Bool.and_eq_true, decide_eq_true_eq] at h
  obtain ⟨⟨h1, h2, h3, h5⟩, h4⟩ := h
  have S := scB_ok h2
  have hpl : e.ps.length = e.np := by
    unfold Fe.ps
    rw [List.length_take]
    omega
  refine fnG_of F S (fun vs H Q E hsp => ?_) fun cdv hcv A outer s H vs Q E hr gd hsp => ?_
  · rcases hsp with hsp | hsp
    · obtain ⟨β, st, ds, d, st', _, r, hl, _⟩ := hsp
      rw [← r.length, hl]
    · obtain ⟨β, st, ds, c, st', _, r, hl, _⟩ := hsp
      rw [← r.length, hl]
  · refine ⟨tSs K (fun cls d _ H => E cls d H) (callF T n k) n e.body, ?_, ?_⟩
    · have hr0 := hr.r
      refine ckSs_ok (X := cxOf (L2.CX P w) P w K mg base e.N e.qual (defScope e.st) f cdv A outer s H E) (C := callF T n k) ⟨rfl, rfl, S.kind, rfl, S.nd, fun _ _ => rfl, ?_, gd, hfr, fun p hp => ?_, hcs, fun p hp => ?_, hcl, hex, hxm, by exact hix, fun hl => ?_⟩ (passes_of rfl) (takes_of rfl rfl rfl rfl) rfl rfl e.body (defBody e.st) h4
      · have := hr0.un
        show (A.deeper _).units + 65 < cLine
        omega
      · obtain ⟨g, fd, ps, q1, q2, q3, q4, q5⟩ := hfns p hp
        exact ⟨k, g, fd, ps, q1, q2, q3, q4, q5, hr⟩
      · obtain ⟨g, fd, ps, q0, q1, q2, q3, q4⟩ := hms p hp
        exact ⟨k, g, fd, ps, q0, q1, q2, q3, q4, hr⟩
      · obtain ⟨l1, l2, l3⟩ := hlm _ (of_decide_eq_true hl)
        obtain ⟨oc, od, osl, fd', y1, y2, y3⟩ := hcv
        have hc0 : cdv = .ref (He.cT K e.at_).1 := by
          obtain ⟨c, hc⟩ : ∃ c, cdv = .ref c := by
            unfold PySem.W.codeIn at y3
            split at y3
            · exact ⟨_, rfl⟩
            · cases y3
          rw [hc]
          exact congrArg Value.ref (He.codeOf_eq (by rw [← hf]; exact y1) (y2.trans hc)).symm
        refine ⟨by have := hr0.un; show (A.deeper _).units + 100 < cLine; omega, hr0.depth, (He.cT K e.at_).1, (He.cT K e.at_).2, hc0, l1, l2, l3⟩
    · rcases hsp with hsp | hsp
      rotate_left
      · obtain ⟨β, st, ds, c, st', s, r, hl, hc, q⟩ := hsp
        simp only [callF, hB, unb_bang, hT] at hc
        rw [if_pos (hl.trans hpl)] at hc
        split at hc
        · rename_i c0 ρ1 st1 hx
          simp only [Option.some.injEq, Prod.mk.injEq, D.str.injEq] at hc
          obtain ⟨rfl, e2⟩ := hc
          refine ⟨β, st, _, _, _, _, s, env_start r (hl.trans hpl) h3, hx, fun β1 H1 x1 s1 σ1 en1 => ?_⟩
          obtain ⟨β2, x2, s2, r2⟩ := gc_ok s x1 s1 (d := .non) (v := .non) rfl
          rw [e2] at s2
          exact q β2 H1 x2 s2
        · cases hc
      obtain ⟨β, st, ds, d, st', s, r, hl, hc, q⟩ := hsp
      simp only [callF, hT] at hc
      rw [if_pos (hl.trans hpl)] at hc
      split at hc
      · rename_i d0 ρ1 st1 hx
        simp only [Option.some.injEq] at hc
        have e1 : (gc st d0 st1).1 = d := congrArg Prod.fst hc
        have e2 : (gc st d0 st1).2 = st' := congrArg Prod.snd hc
        refine ⟨β, st, _, _, _, _, s, env_start r (hl.trans hpl) h3, hx, fun β1 H1 x1 s1 v rv => ?_⟩
        obtain ⟨β2, x2, s2, r2⟩ := gc_ok s x1 s1 rv
        rw [e2] at s2
        rw [e1] at r2
        exact q v β2 H1 x2 s2 r2
      · rename_i ρ1 st1 hx
        simp only [Option.some.injEq] at hc
        have e1 : (gc st .non st1).1 = d := congrArg Prod.fst hc
        have e2 : (gc st .non st1).2 = st' := congrArg Prod.snd hc
        refine ⟨β, st, _, _, _, _, s, env_start r (hl.trans hpl) h3, hx, fun β1 H1 x1 s1 σ1 en1 => ?_⟩
        obtain ⟨β2, x2, s2, r2⟩ := gc_ok s x1 s1 (d := .non) (v := .non) rfl
        rw [e2] at s2
        rw [e1] at r2
        exact q .non β2 H1 x2 s2 r2
      · cases hc
end
/-! ### all defs -/
theorem lookup_tab : ∀ {fes : List Fe} {e : Fe}, (fes.map (·.nm)).Nodup → e ∈ fes → (tabOf fes).lookup e.nm = some ⟨e.np, e.N.length, e.body⟩
  | [], _, _, h => by simp at h
  | x :: xs, e, nd, h => by
    unfold tabOf
    rw [List.map_cons, List.lookup_cons]
    rcases List.mem_cons.mp h with rfl | h
    · simp
    · have : (e.nm == x.nm) = false := beq_eq_false_iff_ne.mpr fun z => (List.nodup_cons.mp nd).1 (List.mem_map.mpr ⟨e, h, z⟩)
      rw [this]
      exact lookup_tab (List.nodup_cons.mp nd).2 h
theorem lookup_no {f : Str} : ∀ {fes : List Fe}, (∀ e ∈ fes, unb e.nm = none) → (tabOf fes).lookup (bang f) = none
  | [], _ => rfl
  | x :: xs, h => by
    unfold tabOf
    rw [List.map_cons, List.lookup_cons]
    have : (bang f == x.nm) = false := beq_eq_false_iff_ne.mpr fun z => by
      have := h x (by simp)
      rw [← z, unb_bang] at this
      cases this
    rw [this]
    exact lookup_no fun e he => h e (by simp [he])
end Mw

set_option Elab.async false
set_option linter.all false
set_option autoImplicit false
set_option maxRecDepth 100000
/-! PyE3: the module's constants; the law's end. -/
namespace Mw
open PySem PySem.Spec PyProof.Rows L2
variable [Tbs]
/-! ### constants of the module -/
mutual
def repB (K : PySem.W.Frag) : D → Value → Bool
  | .int i, u => match u with
    | .int j _ => decide (i = j)
    | _ => false
  | .bl b, u => match u with
    | .bool c => decide (b = c)
    | _ => false
  | .non, u => match u with
    | .none => true
    | _ => false
  | .str s, u => match u with
    | .str t _ => decide (s = t)
    | _ => false
  | .tup xs, u => match u with
    | .ref a => (match K.lookup a with
      | some ⟨.type c, _, .seq its _, _⟩ => decide (c = "tuple") && (decide (its.size ≤ sizeLine) && ((!tkOk (.tup xs)) && repBL K xs its.toList))
      | _ => false)
    | _ => false
  | .rol xs, u => match u with
    | .ref a => (match K.lookup a with
      | some ⟨.type c, none, .seq its _, _⟩ => decide (c = "list") && (decide (its.size ≤ sizeLine) && repBL K xs its.toList)
      | _ => false)
    | _ => false
  | .ref _, _ => false
def repBL (K : PySem.W.Frag) : List D → List Value → Bool
  | [], us => us.isEmpty
  | x :: xs, us => match us with
    | u :: us => repB K x u && repBL K xs us
    | [] => false
end
theorem rep_isInt {K : PySem.W.Frag} {β : List Addr} {H : Hp} {d : D} {i : Int} (h : Rep K β H d (.int i)) : d = .int i := by
  cases d with
  | int j => cases (show V.int i = .int j from h); rfl
  | non => cases (show V.int i = .non from h)
  | bl b => cases (show V.int i = .bl b from h)
  | str s => cases (show V.int i = .str s from h)
  | tup xs => obtain ⟨_, _, e, _⟩ := h; cases e
  | rol xs => obtain ⟨_, _, e, _⟩ := h; cases e
  | ref n => obtain ⟨_, _, e⟩ := h; cases e
theorem tk_no {K : PySem.W.Frag} {β : List Addr} {H : Hp} : ∀ {xs : List D} {vs : List V}, tkOk (.tup xs) = false → RepL K β H xs vs → ∃ v ∈ vs, ∀ i, v ≠ .int i
  | [], vs, h, _ => by cases h
  | x :: xs, vs, h, r => by
    obtain ⟨v, r', rfl, h1, h2⟩ := r
    by_cases hx : ∃ i, x = .int i
    · obtain ⟨i, rfl⟩ := hx
      have h' : tkOk (.tup xs) = false := by simpa [tkOk] using h
      obtain ⟨w, hw, q⟩ := tk_no h' h2
      exact ⟨w, by simp [hw], q⟩
    · exact ⟨v, by simp, fun i e => hx ⟨i, by rw [e] at h1; exact rep_isInt h1⟩⟩
mutual
theorem repB_ok {K : PySem.W.Frag} : ∀ (d : D) (u : Value), repB K d u = true → ∃ v, RelV v u ∧ ∀ β H, Rep K β H d v
  | .int i, u, h => by
    unfold repB at h
    split at h
    · have := of_decide_eq_true h; subst this; exact ⟨.int i, ⟨_, rfl⟩, fun _ _ => rfl⟩
    · cases h
  | .bl i, u, h => by
    unfold repB at h
    split at h
    · have := of_decide_eq_true h; subst this; exact ⟨.bl i, rfl, fun _ _ => rfl⟩
    · cases h
  | .non, u, h => by
    unfold repB at h
    split at h
    · exact ⟨.non, rfl, fun _ _ => rfl⟩
    · cases h
  | .str i, u, h => by
    unfold repB at h
    split at h
    · have := of_decide_eq_true h; subst this; exact ⟨.str i, ⟨_, rfl⟩, fun _ _ => rfl⟩
    · cases h
  | .tup xs, u, h => by
    unfold repB at h
    split at h
    · rename_i a
      split at h
      · rename_i c od its n sl q
        simp only [Bool.and_eq_true, decide_eq_true_eq] at h
        obtain ⟨rfl, h2, h4, h3⟩ := h
        obtain ⟨vs, r1, r2⟩ := repBL_ok xs _ h3
        exact ⟨.ref a, rfl, fun β H => ⟨a, vs, rfl, .inr ⟨.inr ⟨_, its, n, q, rfl, rfl, h2, r1⟩, tk_no (by simpa using h4) (r2 β H)⟩, r2 β H⟩⟩
      · cases h
    · cases h
  | .rol xs, u, h => by
    unfold repB at h
    split at h
    · rename_i a
      split at h
      · rename_i c its n sl q
        simp only [Bool.and_eq_true, decide_eq_true_eq] at h
        obtain ⟨rfl, h2, h3⟩ := h
        obtain ⟨vs, r1, r2⟩ := repBL_ok xs _ h3
        exact ⟨.ref a, rfl, fun β H => ⟨a, vs, rfl, .inr ⟨_, its, n, q, rfl, rfl, rfl, h2, r1⟩, r2 β H⟩⟩
      · cases h
    · cases h
  | .ref _, u, h => by unfold repB at h; cases h
theorem repBL_ok {K : PySem.W.Frag} : ∀ (ds : List D) (us : List Value), repBL K ds us = true → ∃ vs, Vals vs us ∧ ∀ β H, RepL K β H ds vs
  | [], us, h => by
    unfold repBL at h
    rw [List.isEmpty_iff.mp h]
    exact ⟨[], .nil, fun _ _ => rfl⟩
  | d :: ds, us, h => by
    unfold repBL at h
    split at h
    · rename_i u us
      simp only [Bool.and_eq_true] at h
      obtain ⟨v, r1, r2⟩ := repB_ok d u h.1
      obtain ⟨vs, r3, r4⟩ := repBL_ok ds us h.2
      exact ⟨v :: vs, .cons r1 r3, fun β H => ⟨v, vs, rfl, r2 β H, r4 β H⟩⟩
    · cases h
end
def csIn (cs : List (Str × D)) (K : PySem.W.Frag) : Bool := cs.all fun p => match PySem.W.nsIn K mainGlobals p.1 with
  | some (some u) => repB K p.2 u
  | _ => false
def faCl (p : Str × List Str) : List He.Fa := .cls p.1 :: p.2.map (He.Fa.noat p.1)
def faMs (p : Str × Str × Str × Nat) : List He.Fa := [.cls p.2.1, .glo p.2.1, if p.2.2.1 = "__init__" then .mkr p.2.1 else .meth p.2.1 p.2.2.1]
def faEx (x : Str) : List He.Fa := [.glo x, .exc x]
def faXm (p : Str × Str) : List He.Fa := [.glo p.2, .exm p.1 p.2 true]
def faOf (fr : List Str) (fes : List Fe) (ci : Ci := {}) : List He.Fa := fr.map He.Fa.free ++ ((fes.filter fun e => e.cl.isNone).map (fun e => He.Fa.glo e.nm) ++ (ci.cl.flatMap faCl ++ ((msOf fes).flatMap faMs ++ (ci.ex.flatMap faEx ++ ci.xm.flatMap faXm))))
section
variable {P : Program} {w : World} {K : PySem.W.Frag} {h : Heap} {mg : Str → Option Value} {fr : List Str} {fes : List Fe} {cs : List (Str × D)} {n : Nat} {ci : Ci}
theorem csIn_ok (X : K.In h) (G : h.Ns mainGlobals mg) (c : csIn cs K = true) : ∀ p, p ∈ cs → ∃ (v : V) (u : Value), mg p.1 = some u ∧ RelV v u ∧ ∀ β H, Rep K β H p.2 v := fun p hp => by
  have h1 := List.all_eq_true.mp c p hp
  split at h1
  · rename_i u q
    obtain ⟨v, r1, r2⟩ := repB_ok _ _ h1
    exact ⟨v, u, PySem.W.mg_of X G q, r1, r2⟩
  · cases h1
theorem fa_in {f : He.Fa} (c : He.SaysD (faOf fr fes ci) (fes.map Fe.dd) K) (hf : f ∈ faOf fr fes ci) : f.ok K = true := c.facts hf
theorem all_ok (X : K.In h) (G : h.Ns mainGlobals mg) (c : He.SaysD (faOf fr fes ci) (fes.map Fe.dd) K) (cc : csIn cs K = true) (hix : IxOk K mg ci.ix) (hlm : ∀ p ∈ ci.lm, ((He.cT K p.1).2, lamQ p.2) ∈ Tbs.T ∧ ∀ r ∈ Tbs.T, r.1 = (He.cT K p.1).2 → r.2 = lamQ p.2)
    (nd : (fes.map (·.nm)).Nodup) (ck : (fes.all fun e => ckF fr (fnsOf fes) cs e (msOf fes) ci) = true) :
    ∀ (k : Nat) (e : Fe), e ∈ fes → ∃ fd, (e.cl = none → mg e.nm = some (.ref (He.fAd K e.at_))) ∧ PySem.W.keepIn K (.ref (He.fAd K e.at_)) = true ∧ Binds K fd e.ps [] ∧ (∀ base, (∀ p ∈ ci.lm, LamX.TabB base mg (He.cT K p.1).1 (He.cT K p.1).2) → FnG P w K mg base k (He.fAd K e.at_) fd e.ps (spG K (callF (tabOf fes) n k) e.nm e.ps.length)) ∧ e.ps.length = e.np ∧
      ∀ (s : Shared) (us : List Value), us.length = e.ps.length → BindsTo s fd ⟨us, []⟩ (e.ps.zip us) := by
  have F : ∀ e : Fe, e ∈ fes → ∃ fd, FunD K e.on e.qual (defArgs e.st) (defBody e.st) (defScope e.st) [] [] (He.fAd K e.at_) fd := fun e he =>
    c.defs (d := e.dd) (List.mem_map.mpr ⟨e, he, rfl⟩)
  have hfr : ∀ x, x ∈ fr → mg x = none := fun x hx => He.free_ok X G (fa_in c (f := .free x) (List.mem_append_left _ (List.mem_map.mpr ⟨x, hx, rfl⟩)))
  have hglo : ∀ e : Fe, e ∈ fes → e.cl = none → mg e.nm = some (.ref (He.fAd K e.at_)) := fun e he hc => by
    have z := He.glo_ok X G (fa_in c (f := .glo e.nm) (List.mem_append_right _ (List.mem_append_left _ (List.mem_map.mpr ⟨e, List.mem_filter.mpr ⟨he, by rw [hc]; rfl⟩, rfl⟩))))
    have e1 : e.at_ = (e.nm, none) := by unfold Fe.at_; rw [hc]
    rw [e1]
    exact z
  have inCl : ∀ f, f ∈ ci.cl.flatMap faCl → f ∈ faOf fr fes ci := fun f hf => List.mem_append_right _ (List.mem_append_right _ (List.mem_append_left _ hf))
  have inMs : ∀ f, f ∈ (msOf fes).flatMap faMs → f ∈ faOf fr fes ci := fun f hf => List.mem_append_right _ (List.mem_append_right _ (List.mem_append_right _ (List.mem_append_left _ hf)))
  have inEx : ∀ f, f ∈ ci.ex.flatMap faEx → f ∈ faOf fr fes ci := fun f hf => List.mem_append_right _ (List.mem_append_right _ (List.mem_append_right _ (List.mem_append_right _ (List.mem_append_left _ hf))))
  have inXm : ∀ f, f ∈ ci.xm.flatMap faXm → f ∈ faOf fr fes ci := fun f hf => List.mem_append_right _ (List.mem_append_right _ (List.mem_append_right _ (List.mem_append_right _ (List.mem_append_right _ hf))))
  have hcl : ∀ p, p ∈ ci.cl → Cls K (He.ga K p.1) ∧ ∀ f, f ∈ p.2 → NoAttr K (He.ga K p.1) f := fun p hp =>
    ⟨He.cls_ok (fa_in c (inCl (.cls p.1) (List.mem_flatMap.mpr ⟨p, hp, by simp [faCl]⟩))), fun f hf => He.noat_ok (fa_in c (inCl (.noat p.1 f) (List.mem_flatMap.mpr ⟨p, hp, by simp [faCl, hf]⟩)))⟩
  have hex : ∀ x, x ∈ ci.ex → mg x = some (.ref (He.ga K x)) ∧ PySem.W.excIn K (He.ga K x) He.veBase "ValueError.__new__" = true ∧ PySem.W.keepIn K (.ref (He.ga K x)) = true ∧ PySem.W.subIn K (.ref (He.ga K x)) (.type "BaseException") = some true ∧ PySem.W.typeIn K (.ref (He.ga K x)) = some (.type "type") := fun x hx =>
    ⟨He.glo_ok X G (fa_in c (inEx (.glo x) (List.mem_flatMap.mpr ⟨x, hx, by simp [faEx]⟩))), He.exc_ok (fa_in c (inEx (.exc x) (List.mem_flatMap.mpr ⟨x, hx, by simp [faEx]⟩)))⟩
  have hxm : ∀ p, p ∈ ci.xm → mg p.2 = some (.ref (He.ga K p.2)) ∧ PySem.W.exmOne K (.ref (He.ga K p.1)) (.ref (He.ga K p.2)) = some true := fun p hp =>
    ⟨He.glo_ok X G (fa_in c (inXm (.glo p.2) (List.mem_flatMap.mpr ⟨p, hp, by simp [faXm]⟩))), He.exm_ok (fa_in c (inXm (.exm p.1 p.2 true) (List.mem_flatMap.mpr ⟨p, hp, by simp [faXm]⟩)))⟩
  have hms : ∀ e : Fe, e ∈ fes → ∀ c0, e.cl = some c0 → Cls K (He.ga K c0) ∧ (if e.on = "__init__" then Mk K (He.ga K c0) (He.fAd K e.at_) ∧ mg c0 = some (.ref (He.ga K c0)) else Meth K (He.ga K c0) e.on (He.fAd K e.at_)) := fun e he c0 hc => by
    have hm : (e.nm, c0, e.on, e.np) ∈ msOf fes := List.mem_map.mpr ⟨e, List.mem_filter.mpr ⟨he, by rw [hc]; rfl⟩, by rw [hc]; rfl⟩
    have hat : e.at_ = (c0, some e.on) := by unfold Fe.at_; rw [hc]
    have h1 := He.cls_ok (fa_in c (inMs (.cls c0) (List.mem_flatMap.mpr ⟨_, hm, by simp [faMs]⟩)))
    have h2 := He.glo_ok X G (fa_in c (inMs (.glo c0) (List.mem_flatMap.mpr ⟨_, hm, by simp [faMs]⟩)))
    refine ⟨h1, ?_⟩
    rw [hat]
    by_cases hi : e.on = "__init__"
    · rw [if_pos hi]
      refine ⟨?_, h2⟩
      have h3 := He.mkr_ok (fa_in c (inMs (.mkr c0) (List.mem_flatMap.mpr ⟨_, hm, by simp [faMs, hi]⟩)))
      show Mk K (He.ga K c0) (He.ma K (He.ga K c0) e.on)
      rw [hi]
      exact h3
    · rw [if_neg hi]
      exact He.meth_ok (fa_in c (inMs (.meth c0 e.on) (List.mem_flatMap.mpr ⟨_, hm, by simp [faMs, hi]⟩)))
  have hub : ∀ e ∈ fes, unb e.nm = none := fun e he => by
    have hc := List.all_eq_true.mp ck e he
    simp only [ckF, Bool.and_eq_true, decide_eq_true_eq] at hc
    exact hc.1.2.2.2
  intro k
  induction k with
  | zero =>
    intro e he
    obtain ⟨fd, hF⟩ := F e he
    have hc := List.all_eq_true.mp ck e he
    obtain ⟨b1, b2⟩ := ckF_binds hc hF
    have hpl : e.ps.length = e.np := by
      simp only [ckF, Bool.and_eq_true, decide_eq_true_eq] at hc
      unfold Fe.ps
      rw [List.length_take]
      omega
    refine ⟨fd, hglo e he, hF.kp, b1, fun base _ => ⟨fun _ _ _ _ z => ?_, fun _ _ _ _ _ _ _ _ _ _ _ _ _ _ z => ?_⟩, hpl, b2⟩
    · rcases z with ⟨_, _, _, _, _, _, _, _, z, _⟩ | ⟨_, _, _, _, _, _, _, _, z, _⟩ <;> simp [callF] at z
    · rcases z with ⟨_, _, _, _, _, _, _, _, z, _⟩ | ⟨_, _, _, _, _, _, _, _, z, _⟩ <;> simp [callF] at z
  | succ k ih =>
    intro e he
    obtain ⟨fd, hF⟩ := F e he
    have hc := List.all_eq_true.mp ck e he
    obtain ⟨b1, b2⟩ := ckF_binds hc hF
    have hpl : e.ps.length = e.np := by
      simp only [ckF, Bool.and_eq_true, decide_eq_true_eq] at hc
      unfold Fe.ps
      rw [List.length_take]
      omega
    refine ⟨fd, hglo e he, hF.kp, b1, fun base hB => ckF_ok hc (lookup_tab nd he) (lookup_no hub) hF rfl (fun p hp => ⟨hB p hp, (hlm p hp).1, (hlm p hp).2⟩) hfr (fun p hp => ?_) (fun p hp => ?_) hcl hex hxm hix (csIn_ok X G cc), hpl, b2⟩
    · obtain ⟨e', he', rfl⟩ := List.mem_map.mp hp
      obtain ⟨he1, he2⟩ := List.mem_filter.mp he'
      obtain ⟨fd', q1, q2, q3, q4, q5, _⟩ := ih e' he1
      exact ⟨_, fd', e'.ps, q1 (by simpa using he2), q2, q3, q4 base hB, q5⟩
    · obtain ⟨e', he', rfl⟩ := List.mem_map.mp hp
      obtain ⟨he1, he2⟩ := List.mem_filter.mp he'
      obtain ⟨fd', q1, q2, q3, q4, q5, _⟩ := ih e' he1
      obtain ⟨c0, hc0⟩ := Option.isSome_iff_exists.mp he2
      obtain ⟨m1, m2⟩ := hms e' he1 c0 hc0
      refine ⟨_, fd', e'.ps, ?_, ?_, q3, q4 base hB, q5⟩
      · show Cls K (He.ga K (e'.cl.getD ""))
        rw [hc0]; exact m1
      · show if e'.on = "__init__" then Mk K (He.ga K (e'.cl.getD "")) _ ∧ mg (e'.cl.getD "") = some (.ref (He.ga K (e'.cl.getD ""))) else Meth K (He.ga K (e'.cl.getD "")) e'.on _
        rw [hc0]; exact m2
end
/-! ### the law -/
theorem rol_rep {K : PySem.W.Frag} {H : Hp} {a : Addr} {ns : List Int} (h : SqF K H a (ns.map V.int)) : Rep K [] H (.rol (ns.map .int)) (.ref a) := by
  refine ⟨a, _, rfl, h, ?_⟩
  clear h
  induction ns with
  | nil => rfl
  | cons x xs ih => exact ⟨.int x, _, rfl, rfl, ih⟩
theorem SqF.only {K : PySem.W.Frag} {H : Hp} {a : Addr} {ts : List (Addr × Addr)} {xs : List V} (hO : OnlyT ts H) (h : SqL K H a xs) : SqF K H a xs := by
  rcases h with (h | ⟨o, h⟩) | h
  · rcases hO.1 a with z | ⟨z, _⟩ | ⟨o, ys, z⟩
    · rw [h] at z; cases z
    · rw [h] at z; cases z
    · rw [h] at z; cases z
  · exact .inl ⟨o, h⟩
  · exact .inr h
def ciIn (cs : List (Str × D)) (ci : Ci) (K : PySem.W.Frag) : Bool := csIn cs K && (ixB ci.ix K && decide ((ci.lm.map fun p => (He.cT K p.1).2).Nodup))
/-- what is told of the top -/
abbrev hkOf (fr : List Str) (fes : List Fe) (cs : List (Str × D)) (ci : Ci := {}) : PySem.W.Hook := He.hookX 5 (faOf fr fes ci) (fes.map Fe.dd) [] (ci.lm.map (·.1)) (ciIn cs ci)
/-- what a law's def is to do, by the core alone -/
def LawOk (fes : List Fe) (n k m : Nat) : Prop := ∀ ns : List Int, ns.length ≤ m → ∃ st', callF (tabOf fes) n k (Str.ofString "law") [.rol (ns.map .int)] [] = some (.bl true, st')
theorem nodup_at {α β : Type} {f : α → β} : ∀ {xs : List α}, (xs.map f).Nodup → ∀ x ∈ xs, ∀ y ∈ xs, f x = f y → x = y
  | [], _, x, hx, _, _, _ => by cases hx
  | a :: as, nd, x, hx, y, hy, e => by
    rw [List.map_cons, List.nodup_cons] at nd
    rcases List.mem_cons.mp hx with h1 | h1 <;> rcases List.mem_cons.mp hy with h2 | h2
    · rw [h1, h2]
    · exact absurd (by rw [← h1, e]; exact List.mem_map_of_mem h2) nd.1
    · exact absurd (by rw [← h2, ← e]; exact List.mem_map_of_mem h1) nd.1
    · exact nodup_at nd.2 x h1 y h2 e
omit [Tbs] in
theorem law_F {P : Program} {fr : List Str} {fes : List Fe} {cs : List (Str × D)} {n k m : Nat} {x : Str} {e : Fe} {ci : Ci} (he : e ∈ fes) (hn : e.nm = Str.ofString "law") (hcl : e.cl = none) (hps : e.ps = [x]) (nd : (fes.map (·.nm)).Nodup) (ck : (fes.all fun e => ckF fr (fnsOf fes) cs e (msOf fes) ci) = true) (L : LawOk fes n k m) :
    ∀ (w : World) (mg : Str → Option Value) (fa : Addr) (h : Heap), (hkOf fr fes cs ci).says w h → h.Ns mainGlobals mg → mg (Str.ofString "law") = some (.ref fa) →
      ∃ (K : PySem.W.Frag) (fd : FuncData) (sp : Sp) (ts : List (Addr × Addr)), K.In h ∧ ((∀ p ∈ ts, h.get? p.2 = some { cls := .none, data := .fields #[] }) ∧ (∀ p ∈ ts, K.lookup p.2 = none) ∧ ∀ p ∈ ts, PySem.W.codeHdIn K p.1 p.2 = true) ∧ (∀ (s : Shared) (u : Value), BindsTo s fd ⟨[u], []⟩ [(x, u)]) ∧
        (∀ (H : Hp) (a : Addr) (ns : List Int), ns.length ≤ m → OnlyT ts H → SqL K H a (ns.map V.int) → sp [.ref a] H (fun v _ => v = .bl true) fun _ _ _ => False) ∧
        ∀ base : Heap, K.In base → base.Ns mainGlobals mg → (∀ p ∈ ts, LamX.TabB base mg p.1 p.2) → FnG P w K mg base k fa fd [x] sp := by
  intro w mg fa h ⟨K, KX, c⟩ G hmg
  letI : Tbs := ⟨ci.lm.map fun p => ((He.cT K p.1).2, lamQ p.2)⟩
  obtain ⟨c1, c2⟩ := Bool.and_eq_true_iff.mp c.more
  obtain ⟨c2, c3⟩ := Bool.and_eq_true_iff.mp c2
  have hlm : ∀ p ∈ ci.lm, ((He.cT K p.1).2, lamQ p.2) ∈ Tbs.T ∧ ∀ r ∈ Tbs.T, r.1 = (He.cT K p.1).2 → r.2 = lamQ p.2 := fun p hp => by
    refine ⟨List.mem_map.mpr ⟨p, hp, rfl⟩, fun r hr e => ?_⟩
    obtain ⟨p', hp', rfl⟩ := List.mem_map.mp hr
    rw [nodup_at (f := fun p : (Str × Option Str) × Str => (He.cT K p.1).2) (of_decide_eq_true c3) p' hp' p hp e]
  obtain ⟨fd, q1, _, _, q4, _, q6⟩ := all_ok (P := P) (w := w) (n := n) KX G c.t.d c1 (ixB_ok KX G c2) hlm nd ck k e he
  have ea : fa = He.fAd K e.at_ := by
    have := hmg.symm.trans (hn ▸ q1 hcl)
    cases this; rfl
  refine ⟨K, fd, spOf K (callF (tabOf fes) n k) e.nm 1, ci.lm.map fun p => He.cT K p.1, KX, ⟨fun p hp => ?_, fun p hp => ?_, fun p hp => ?_⟩, fun s u => ?_, fun H a ns hl hO hS => ?_, fun base _ _ hB => ?_⟩
  · obtain ⟨p', hp', rfl⟩ := List.mem_map.mp hp
    exact c.empty _ (List.mem_map_of_mem hp')
  · obtain ⟨p', hp', rfl⟩ := List.mem_map.mp hp
    exact c.out _ (List.mem_map_of_mem hp')
  · obtain ⟨p', hp', rfl⟩ := List.mem_map.mp hp
    exact c.hd _ (List.mem_map_of_mem hp')
  · have := q6 s [u] (by rw [hps]; rfl)
    rw [hps] at this
    exact this
  · obtain ⟨st', hc⟩ := L ns hl
    refine ⟨[], [], [.rol (ns.map .int)], .bl true, st', ⟨rfl, .nil, fun n a o h1 _ => by simp at h1, fun p hp => ?_⟩, ⟨_, _, rfl, rol_rep (SqF.only hO hS), rfl⟩, rfl, by rw [hn]; exact hc, fun v β' H' _ _ r => r⟩
    obtain ⟨p', hp', rfl⟩ := List.mem_map.mp hp
    exact LamX.TabS.nil (hO.2 _ (List.mem_map.mpr ⟨p', hp', rfl⟩))
  · have q := (q4 base fun p hp => hB _ (List.mem_map.mpr ⟨p, hp, rfl⟩)).imp (sp' := spOf K (callF (tabOf fes) n k) e.nm e.ps.length) fun _ _ _ _ => Or.inl
    rw [hps] at q
    rw [ea]
    exact q
end Mw

set_option Elab.async false
set_option linter.all false
set_option autoImplicit false
set_option maxRecDepth 100000
/-! PyW: what core text does, by its weakest precondition. -/
namespace Mw
open PySem
def dicOf (x y : RV) (st : Sto) : Option (RV × Sto) := match x with
  | .val d => if keyOk d then some (.val (.ref (mat y st).2.length), (mat y st).2 ++ [.dic false [(d, (mat y st).1)]]) else none
  | _ => none
def ditOf (x y : RV) (st : Sto) : Option (RV × Sto) := match x with
  | .val d => if tkOk d then some (.val (.ref (mat y st).2.length), (mat y st).2 ++ [.dit false [(d, (mat y st).1)]]) else none
  | _ => none
section
variable {C : Call} {ρ : Env} {st : Sto} {n : Nat}
def ok2 {α β : Type} (x : Option (α × β)) (Q : α → β → Prop) : Prop := match x with
  | some (a, b) => Q a b
  | none => False
def okO {α : Type} (x : Option α) (Q : α → Prop) : Prop := match x with
  | some a => Q a
  | none => False
@[simp] theorem okO_none {α : Type} {Q : α → Prop} : okO none Q ↔ False := Iff.rfl
@[simp] theorem okO_some {α : Type} {a : α} {Q : α → Prop} : okO (some a) Q ↔ Q a := Iff.rfl
@[simp] theorem okO_map {α β : Type} {x : Option α} {f : α → β} {Q : β → Prop} : okO (x.map f) Q ↔ okO x fun a => Q (f a) := by cases x <;> rfl
@[simp] theorem okO_ite {α : Type} {c : Prop} [Decidable c] {x : Option α} {Q : α → Prop} : okO (if c then x else none) Q ↔ c ∧ okO x Q := by
  by_cases h : c <;> simp [h]
def ok3 {α β γ : Type} (x : Option (α × β × γ)) (Q : α → β → γ → Prop) : Prop := match x with
  | some (a, b, c) => Q a b c
  | none => False
@[simp] theorem ok2_none {α β : Type} {Q : α → β → Prop} : ok2 none Q ↔ False := Iff.rfl
@[simp] theorem ok2_some {α β : Type} {a : α} {b : β} {Q : α → β → Prop} : ok2 (some (a, b)) Q ↔ Q a b := Iff.rfl
@[simp] theorem ok3_none {α β γ : Type} {Q : α → β → γ → Prop} : ok3 none Q ↔ False := Iff.rfl
@[simp] theorem ok3_some {α β γ : Type} {a : α} {b : β} {c : γ} {Q : α → β → γ → Prop} : ok3 (some (a, b, c)) Q ↔ Q a b c := Iff.rfl
theorem ok2_ex {α β : Type} {x : Option (α × β)} {Q : α → β → Prop} : ok2 x Q ↔ ∃ a b, x = some (a, b) ∧ Q a b := by
  rcases x with _ | ⟨a, b⟩
  · simp
  · constructor
    · exact fun q => ⟨a, b, rfl, q⟩
    · rintro ⟨_, _, ⟨⟩, q⟩; exact q
def wE (C : Call) (c : CE) (ρ : Env) (st : Sto) (Q : RV → Sto → Prop) : Prop := ok2 (ev C c ρ st) Q
def wA (C : Call) (c : CEs) (ρ : Env) (st : Sto) (Q : List D → Sto → Prop) : Prop := ok2 (evA C c ρ st) Q
def wR (C : Call) (c : CEs) (ρ : Env) (st : Sto) (Q : List RV → Sto → Prop) : Prop := ok2 (evR C c ρ st) Q
def wP (C : Call) (c : CEs) (ρ : Env) (st : Sto) (Q : Option Int → Sto → Prop) : Prop := ok2 (evP C c ρ st) Q
def wC (C : Call) (c : CEs) (ρ : Env) (st : Sto) (Q : Bool → Sto → Prop) : Prop := ok2 (evC C c ρ st) Q
def wV (C : Call) (c : Src) (ρ : Env) (st : Sto) (Q : SV → Sto → Prop) : Prop := ok2 (evS C c ρ st) Q
def wS (C : Call) (n : Nat) (c : CS) (ρ : Env) (st : Sto) (Q : Fl → Env → Sto → Prop) : Prop := ok3 (exS C n c ρ st) Q
def wB (C : Call) (n : Nat) (c : CSs) (ρ : Env) (st : Sto) (Q : Fl → Env → Sto → Prop) : Prop := ok3 (exs C n c ρ st) Q
@[simp] theorem wE_bad {Q} : wE C .bad ρ st Q ↔ False := by simp [wE, ev]
@[simp] theorem wE_var {i : Nat} {Q} : wE C (.var i) ρ st Q ↔ ∃ d, ρ[i]? = some (some d) ∧ Q (.val d) st := by
  unfold wE; simp only [ev]
  rcases ρ[i]? with _ | (_ | d) <;> simp
@[simp] theorem wE_cst {d : D} {Q} : wE C (.cst d) ρ st Q ↔ Q (.val d) st := by
  unfold wE; simp only [ev]; simp
@[simp] theorem wE_bin {o : Op} {a b : CE} {Q} : wE C (.bin o a b) ρ st Q ↔ wE C a ρ st fun x s1 => wE C b ρ s1 fun y s2 => okO (binApp s2 o x y) fun r => Q r s2 := by
  unfold wE; simp only [ev]
  rcases ev C a ρ st with _ | ⟨x, s1⟩ <;> simp
  rcases ev C b ρ s1 with _ | ⟨y, s2⟩ <;> simp
  rcases binApp s2 o x y with _ | r <;> simp
@[simp] theorem wE_neg {a : CE} {Q} : wE C (.neg a) ρ st Q ↔ wE C a ρ st fun x s1 => ∃ i, x = .val (.int i) ∧ Q (.val (.int (-i))) s1 := by
  unfold wE; simp only [ev]
  rcases ev C a ρ st with _ | ⟨x, s1⟩ <;> simp
  split <;> simp_all
@[simp] theorem wE_not {a : CE} {Q} : wE C (.not a) ρ st Q ↔ wE C a ρ st fun x s1 => okO (truth s1 x) fun b => Q (.val (.bl (!b))) s1 := by
  unfold wE; simp only [ev]
  rcases ev C a ρ st with _ | ⟨x, s1⟩ <;> simp
  rcases truth s1 x with _ | (_ | _) <;> simp
@[simp] theorem wE_cmp {o : Cm} {a b : CE} {Q} : wE C (.cmp o a b) ρ st Q ↔ wE C a ρ st fun x s1 => wE C b ρ s1 fun y s2 => okO (cmpApp s2 o x y) fun r => Q (.val (.bl r)) s2 := by
  unfold wE; simp only [ev]
  rcases ev C a ρ st with _ | ⟨x, s1⟩ <;> simp
  rcases ev C b ρ s1 with _ | ⟨y, s2⟩ <;> simp
  rcases cmpApp s2 o x y with _ | (_ | _) <;> simp
@[simp] theorem wE_chain {o o' : Cm} {a b c : CE} {Q} : wE C (.chain o o' a b c) ρ st Q ↔ wE C a ρ st fun x s1 => wE C b ρ s1 fun y s2 => okO (cmpApp s2 o x y) fun r => if r = true then wE C c ρ s2 fun z s3 => okO (cmpApp s3 o' y z) fun r2 => Q (.val (.bl r2)) s3 else Q (.val (.bl false)) s2 := by
  unfold wE; simp only [ev]
  rcases ev C a ρ st with _ | ⟨x, s1⟩ <;> simp
  rcases ev C b ρ s1 with _ | ⟨y, s2⟩ <;> simp
  rcases cmpApp s2 o x y with _ | (_ | _) <;> simp
  rcases ev C c ρ s2 with _ | ⟨z, s3⟩ <;> simp
  rcases cmpApp s3 o' y z with _ | (_ | _) <;> simp
@[simp] theorem wE_and {a b : CE} {Q} : wE C (.and a b) ρ st Q ↔ wE C a ρ st fun x s1 => okO (truth s1 x) fun t => if t = true then wE C b ρ s1 Q else Q x s1 := by
  unfold wE; simp only [ev]
  rcases ev C a ρ st with _ | ⟨x, s1⟩ <;> simp
  rcases truth s1 x with _ | (_ | _) <;> simp
@[simp] theorem wE_or {a b : CE} {Q} : wE C (.or a b) ρ st Q ↔ wE C a ρ st fun x s1 => okO (truth s1 x) fun t => if t = true then Q x s1 else wE C b ρ s1 Q := by
  unfold wE; simp only [ev]
  rcases ev C a ρ st with _ | ⟨x, s1⟩ <;> simp
  rcases truth s1 x with _ | (_ | _) <;> simp
@[simp] theorem wE_ite {c a b : CE} {Q} : wE C (.ite c a b) ρ st Q ↔ wE C c ρ st fun x s1 => okO (truth s1 x) fun t => if t = true then wE C a ρ s1 Q else wE C b ρ s1 Q := by
  unfold wE; simp only [ev]
  rcases ev C c ρ st with _ | ⟨x, s1⟩ <;> simp
  rcases truth s1 x with _ | (_ | _) <;> simp
@[simp] theorem wE_tup {es : CEs} {Q} : wE C (.tup es) ρ st Q ↔ wA C es ρ st fun ds s1 => Q (.val (.tup ds)) s1 := by
  unfold wE wA; simp only [ev]
  rcases evA C es ρ st with _ | ⟨x, s1⟩ <;> simp
@[simp] theorem wE_lst {es : CEs} {Q} : wE C (.lst es) ρ st Q ↔ wA C es ρ st fun ds s1 => Q (.tmp ds) s1 := by
  unfold wE wA; simp only [ev]
  rcases evA C es ρ st with _ | ⟨x, s1⟩ <;> simp
@[simp] theorem wE_dic0 {Q} : wE C .dic0 ρ st Q ↔ Q (.val (.ref st.length)) (st ++ [.dic false []]) := by
  unfold wE; simp only [ev, ok2_some]
@[simp] theorem wE_dit0 {Q} : wE C .dit0 ρ st Q ↔ Q (.val (.ref st.length)) (st ++ [.dit false []]) := by
  unfold wE; simp only [ev, ok2_some]
@[simp] theorem wE_dic1 {a b : CE} {Q} : wE C (.dic1 a b) ρ st Q ↔ wE C a ρ st fun x s1 => wE C b ρ s1 fun y s2 => okO (dicOf x y s2) fun r => Q r.1 r.2 := by
  unfold wE; simp only [ev]
  rcases ev C a ρ st with _ | ⟨x, s1⟩ <;> simp
  rcases ev C b ρ s1 with _ | ⟨y, s2⟩ <;> simp
  cases x with
  | tmp _ => simp [dicOf]
  | val d =>
    simp only [dicOf]
    split <;> simp
@[simp] theorem wE_dit1 {a b : CE} {Q} : wE C (.dit1 a b) ρ st Q ↔ wE C a ρ st fun x s1 => wE C b ρ s1 fun y s2 => okO (ditOf x y s2) fun r => Q r.1 r.2 := by
  unfold wE; simp only [ev]
  rcases ev C a ρ st with _ | ⟨x, s1⟩ <;> simp
  rcases ev C b ρ s1 with _ | ⟨y, s2⟩ <;> simp
  cases x with
  | tmp _ => simp [ditOf]
  | val d =>
    simp only [ditOf]
    split <;> simp
@[simp] theorem wE_idx {a b : CE} {Q} : wE C (.idx a b) ρ st Q ↔ wE C a ρ st fun x s1 => wE C b ρ s1 fun y s2 => okO (idxApp s2 x y) fun r => Q r s2 := by
  unfold wE; simp only [ev]
  rcases ev C a ρ st with _ | ⟨x, s1⟩ <;> simp
  rcases ev C b ρ s1 with _ | ⟨y, s2⟩ <;> simp
  rcases idxApp s2 x y with _ | r <;> simp
@[simp] theorem wE_sli {a : CE} {lo hi : CEs} {Q} : wE C (.sli a lo hi) ρ st Q ↔ wE C a ρ st fun x s1 => wP C lo ρ s1 fun l s2 => wP C hi ρ s2 fun h s3 => okO (sliApp s3 x l h) fun r => Q r s3 := by
  unfold wE wP; simp only [ev]
  rcases ev C a ρ st with _ | ⟨x, s1⟩ <;> simp
  rcases evP C lo ρ s1 with _ | ⟨l, s2⟩ <;> simp
  rcases evP C hi ρ s2 with _ | ⟨h, s3⟩ <;> simp
  rcases sliApp s3 x l h with _ | r <;> simp
@[simp] theorem wE_rev {a : CE} {Q} : wE C (.rev a) ρ st Q ↔ wE C a ρ st fun x s1 => okO (revApp s1 x) fun r => Q r s1 := by
  unfold wE; simp only [ev]
  rcases ev C a ρ st with _ | ⟨x, s1⟩ <;> simp
  rcases revApp s1 x with _ | r <;> simp
@[simp] theorem wE_stp {a b : CE} {Q} : wE C (.stp a b) ρ st Q ↔ wE C a ρ st fun x s1 => wE C b ρ s1 fun y s2 => okO (stpApp s2 x y) fun r => Q r s2 := by
  unfold wE; simp only [ev]
  rcases ev C a ρ st with _ | ⟨x, s1⟩ <;> simp
  rcases ev C b ρ s1 with _ | ⟨y, s2⟩ <;> simp
  rcases stpApp s2 x y with _ | r <;> simp
@[simp] theorem wE_srt {rv : Bool} {f : Str} {a : CE} {Q} : wE C (.srt rv f a) ρ st Q ↔ wE C a ρ st fun x s1 => okO (srtApp C s1 rv f x) fun r => Q r s1 := by
  unfold wE; simp only [ev]
  rcases ev C a ρ st with _ | ⟨x, s1⟩ <;> simp
  rcases srtApp C s1 rv f x with _ | r <;> simp
@[simp] theorem wE_sri {k : Nat} {a : CE} {Q} : wE C (.sri k a) ρ st Q ↔ wE C a ρ st fun x s1 => okO (sriApp s1 k x) fun r => Q r s1 := by
  unfold wE; simp only [ev]
  rcases ev C a ρ st with _ | ⟨x, s1⟩ <;> simp
  rcases sriApp s1 k x with _ | r <;> simp
@[simp] theorem wE_vals {a : CE} {Q} : wE C (.vals a) ρ st Q ↔ wE C a ρ st fun x s1 => okO (valsApp s1 x) fun r => Q r s1 := by
  unfold wE; simp only [ev]
  rcases ev C a ρ st with _ | ⟨x, s1⟩ <;> simp
  rcases valsApp s1 x with _ | r <;> simp
@[simp] theorem wE_mm {mx : Bool} {a b : CE} {Q} : wE C (.mm mx a b) ρ st Q ↔ wE C a ρ st fun x s1 => wE C b ρ s1 fun y s2 => okO (mmApp mx s2 x y) fun r => Q r s2 := by
  unfold wE; simp only [ev]
  rcases ev C a ρ st with _ | ⟨x, s1⟩ <;> simp
  rcases ev C b ρ s1 with _ | ⟨y, s2⟩ <;> simp
  rcases mmApp mx s2 x y with _ | r <;> simp
@[simp] theorem wE_los {tp : Bool} {a : CE} {Q} : wE C (.los tp a) ρ st Q ↔ wE C a ρ st fun rs s1 => okO (losOf tp rs) fun r => Q r s1 := by
  unfold wE; simp only [ev]
  rcases ev C a ρ st with _ | ⟨x, s1⟩ <;> simp
  rcases losOf tp x with _ | r <;> simp
@[simp] theorem wE_call {f : Str} {es : CEs} {Q} : wE C (.call f es) ρ st Q ↔ wA C es ρ st fun ds s1 => ok2 (C f ds s1) fun d s2 => Q (.val d) s2 := by
  unfold wE wA; simp only [ev]
  rcases evA C es ρ st with _ | ⟨x, s1⟩ <;> simp
  rcases C f x s1 with _ | ⟨r, s2⟩ <;> simp
@[simp] theorem wE_bi {b : BI} {es : CEs} {Q} : wE C (.bi b es) ρ st Q ↔ wR C es ρ st fun rs s1 => okO (biApp s1 b rs) fun r => Q r s1 := by
  unfold wE wR; simp only [ev]
  rcases evR C es ρ st with _ | ⟨x, s1⟩ <;> simp
  rcases biApp s1 b x with _ | r <;> simp
@[simp] theorem wE_mt {m : MT} {o : CE} {es : CEs} {Q} : wE C (.mt m o es) ρ st Q ↔ wE C o ρ st fun x s1 => wR C es ρ s1 fun rs s2 => kdOf s1 x = kdOf s2 x ∧ ok2 (mtApp s2 m x rs) Q := by
  unfold wE wR; simp only [ev]
  rcases ev C o ρ st with _ | ⟨x, s1⟩ <;> simp
  rcases evR C es ρ s1 with _ | ⟨rs, s2⟩ <;> simp
  split <;> simp_all
@[simp] theorem wE_isi {a : CE} {t : Ty} {Q} : wE C (.isi a t) ρ st Q ↔ wE C a ρ st fun x s1 => okO (isTy s1 t x) fun b => Q (.val (.bl b)) s1 := by
  unfold wE; simp only [ev]
  rcases ev C a ρ st with _ | ⟨x, s1⟩ <;> simp
  rcases isTy s1 t x with _ | (_ | _) <;> simp
@[simp] theorem wE_comp {t : Tgt} {s : Src} {c : CEs} {e : CE} {own : List Nat} {Q} : wE C (.comp t s c e own) ρ st Q ↔ wV C s ρ st fun v s1 => (v.big = false ∨ szOk v.xs.length = true) ∧ ok2 (compL v.ws (fun d => setT t d (wipeD ρ own)) (fun σ st => evC C c σ st) (fun σ st => ev C e σ st) v.xs s1) fun xs s2 => Q (.tmp xs) s2 := by
  unfold wE wV; simp only [ev]
  rcases evS C s ρ st with _ | ⟨v, s1⟩ <;> simp
  split
  · rename_i h
    simp only [h, true_and]
    cases compL v.ws (fun d => setT t d (wipeD ρ own)) (fun σ st => evC C c σ st) (fun σ st => ev C e σ st) v.xs s1 with
    | none => simp
    | some p => simp [ok2]
  · simp_all
@[simp] theorem wE_att {c f : Str} {a : CE} {Q} : wE C (.att c a f) ρ st Q ↔ wE C a ρ st fun x s1 => okO (attApp s1 c x f) fun d => Q (.val d) s1 := by
  unfold wE; simp only [ev]
  rcases ev C a ρ st with _ | ⟨x, s1⟩ <;> simp
  rcases attApp s1 c x f with _ | d <;> simp
@[simp] theorem wE_mcall {c m q : Str} {o : CE} {es : CEs} {Q} : wE C (.mcall c m q o es) ρ st Q ↔ wE C o ρ st fun x s1 => okO (insOf s1 c m x) fun i => wA C es ρ s1 fun ds s2 => ok2 (C q (.ref i :: ds) s2) fun d s3 => Q (.val d) s3 := by
  unfold wE wA; simp only [ev]
  rcases ev C o ρ st with _ | ⟨x, s1⟩ <;> simp
  rcases insOf s1 c m x with _ | i <;> simp
  rcases evA C es ρ s1 with _ | ⟨ds, s2⟩ <;> simp
  rcases C q (.ref i :: ds) s2 with _ | ⟨r, s3⟩ <;> simp
@[simp] theorem wE_make {c q : Str} {es : CEs} {Q} : wE C (.make c q es) ρ st Q ↔ wA C es ρ st fun ds s1 => ok2 (C q (.ref s1.length :: ds) (s1 ++ [.ins c []])) fun d s2 => d = .non ∧ Q (.val (.ref s1.length)) s2 := by
  unfold wE wA; simp only [ev]
  rcases evA C es ρ st with _ | ⟨ds, s1⟩ <;> simp
  split
  · rename_i h; simp [h]
  · rename_i h
    cases hc : C q (.ref s1.length :: ds) (s1 ++ [.ins c []]) with
    | none => simp
    | some r =>
      obtain ⟨d, s2⟩ := r
      simp only [ok2_none, ok2_some, false_iff, not_and]
      rintro rfl
      exact (h _ hc).elim
@[simp] theorem wE_isx {cs : List Str} {c : Str} {Q} : wE (exC C c) (.isx cs) ρ st Q ↔ Q (.val (.bl (decide (c ∈ cs)))) st := by
  unfold wE; simp only [ev, exC]; simp
@[simp] theorem wE_dicS {ks : List Str} {es : CEs} {Q} : wE C (.dicS ks es) ρ st Q ↔ wA C es ρ st fun ds s1 => (ks.length = ds.length ∧ ks.Nodup) ∧ Q (.val (.ref s1.length)) (s1 ++ [.dic false ((ks.map .str).zip ds)]) := by
  unfold wE wA; simp only [ev]
  rcases evA C es ρ st with _ | ⟨ds, s1⟩ <;> simp
  split <;> simp_all
@[simp] theorem wA_nil {Q} : wA C .nil ρ st Q ↔ Q [] st := by simp [wA, evA]
@[simp] theorem wA_cons {e : CE} {es : CEs} {Q} : wA C (.cons e es) ρ st Q ↔ wE C e ρ st fun r s1 => wA C es ρ (mat r s1).2 fun ds s2 => Q ((mat r s1).1 :: ds) s2 := by
  unfold wA wE; simp only [evA]
  rcases ev C e ρ st with _ | ⟨r, s1⟩ <;> simp
  rcases evA C es ρ (mat r s1).2 with _ | ⟨ds, s2⟩ <;> simp
@[simp] theorem wR_nil {Q} : wR C .nil ρ st Q ↔ Q [] st := by simp [wR, evR]
@[simp] theorem wR_cons {e : CE} {es : CEs} {Q} : wR C (.cons e es) ρ st Q ↔ wE C e ρ st fun r s1 => wR C es ρ s1 fun ds s2 => Q (r :: ds) s2 := by
  unfold wR wE; simp only [evR]
  rcases ev C e ρ st with _ | ⟨r, s1⟩ <;> simp
  rcases evR C es ρ s1 with _ | ⟨ds, s2⟩ <;> simp
@[simp] theorem wP_nil {Q} : wP C .nil ρ st Q ↔ Q none st := by simp [wP, evP]
@[simp] theorem wP_one {e : CE} {Q} : wP C (.cons e .nil) ρ st Q ↔ wE C e ρ st fun r s1 => ∃ i, r = .val (.int i) ∧ Q (some i) s1 := by
  unfold wP wE; simp only [evP]
  rcases ev C e ρ st with _ | ⟨r, s1⟩ <;> simp
  split <;> simp_all
@[simp] theorem wV_ex {e : CE} {Q} : wV C (.ex e) ρ st Q ↔ wE C e ρ st fun x s1 => okO (srcOf s1 x) fun v => Q v s1 := by
  unfold wV wE; simp only [evS]
  rcases ev C e ρ st with _ | ⟨r, s1⟩ <;> simp
  rcases srcOf s1 r with _ | v <;> simp
@[simp] theorem wV_rng {es : CEs} {Q} : wV C (.rng es) ρ st Q ↔ wR C es ρ st fun x s1 => okO (rngOf x) fun v => Q v s1 := by
  unfold wV wR; simp only [evS]
  rcases evR C es ρ st with _ | ⟨r, s1⟩ <;> simp
  rcases rngOf r with _ | v <;> simp
@[simp] theorem wV_enm {e : CE} {Q} : wV C (.enm e) ρ st Q ↔ wE C e ρ st fun x s1 => okO (srcSeq s1 x) fun v => Q ⟨enmD 0 v.xs, v.ws, false⟩ s1 := by
  unfold wV wE; simp only [evS]
  rcases ev C e ρ st with _ | ⟨r, s1⟩ <;> simp
  rcases srcSeq s1 r with _ | v <;> simp
@[simp] theorem wV_zp {es : CEs} {Q} : wV C (.zp es) ρ st Q ↔ wR C es ρ st fun x s1 => okO (zpOf s1 x) fun v => Q v s1 := by
  unfold wV wR; simp only [evS]
  rcases evR C es ρ st with _ | ⟨r, s1⟩ <;> simp
  rcases zpOf s1 r with _ | v <;> simp
@[simp] theorem wV_dk {e : CE} {Q} : wV C (.dk e) ρ st Q ↔ wE C e ρ st fun x s1 => okO (dkOf s1 x) fun v => Q v.1 v.2 := by
  unfold wV wE; simp only [evS]
  rcases ev C e ρ st with _ | ⟨r, s1⟩ <;> simp
  rcases dkOf s1 r with _ | ⟨v, s2⟩ <;> simp
/-! ### statements -/
@[simp] theorem wS_asg {t : Tgt} {e : CE} {Q} : wS C n (.asg t e) ρ st Q ↔ wE C e ρ st fun r s1 => ∃ ρ', setT t (mat r s1).1 ρ = some ρ' ∧ Q .nx ρ' (mat r s1).2 := by
  unfold wS wE; simp only [exS]
  rcases ev C e ρ st with _ | ⟨r, s1⟩ <;> simp
  rcases setT t (mat r s1).1 ρ with _ | r <;> simp
@[simp] theorem wS_expr {e : CE} {Q} : wS C n (.expr e) ρ st Q ↔ wE C e ρ st fun _ s1 => Q .nx ρ s1 := by
  unfold wS wE; simp only [exS]
  rcases ev C e ρ st with _ | ⟨r, s1⟩ <;> simp
@[simp] theorem wS_ret {e : CE} {Q} : wS C n (.ret e) ρ st Q ↔ wE C e ρ st fun r s1 => Q (.rt (mat r s1).1) ρ (mat r s1).2 := by
  unfold wS wE; simp only [exS]
  rcases ev C e ρ st with _ | ⟨r, s1⟩ <;> simp
@[simp] theorem wS_retN {Q} : wS C n .retN ρ st Q ↔ Q (.rt .non) ρ st := by simp [wS, exS]
@[simp] theorem wS_pass {Q} : wS C n .pass ρ st Q ↔ Q .nx ρ st := by simp [wS, exS]
@[simp] theorem wS_brk {Q} : wS C n .brk ρ st Q ↔ Q .bk ρ st := by simp [wS, exS]
@[simp] theorem wS_cont {Q} : wS C n .cont ρ st Q ↔ Q .ct ρ st := by simp [wS, exS]
@[simp] theorem wS_bad {Q} : wS C n .bad ρ st Q ↔ False := by simp [wS, exS]
@[simp] theorem wS_ite {c : CE} {a b : CSs} {Q} : wS C n (.ite c a b) ρ st Q ↔ wE C c ρ st fun r s1 => okO (truth s1 r) fun t => if t = true then wB C n a ρ s1 Q else wB C n b ρ s1 Q := by
  unfold wS wE wB; simp only [exS, evT]
  rcases ev C c ρ st with _ | ⟨r, s1⟩ <;> simp
  rcases truth s1 r with _ | (_ | _) <;> simp
@[simp] theorem wS_aug {i : Nat} {o : Op} {e : CE} {Q} : wS C n (.aug i o e) ρ st Q ↔ ∃ d, ρ[i]? = some (some d) ∧ wE C e ρ st fun y s1 => ∃ a b, d = .int a ∧ y = .val (.int b) ∧ ((o = .add ∧ Q .nx (ρ.set i (some (.int (a + b)))) s1) ∨ (o = .sub ∧ Q .nx (ρ.set i (some (.int (a - b)))) s1)) := by
  unfold wS wE; simp only [exS]
  rcases ρ[i]? with _ | (_ | d) <;> simp
  rcases ev C e ρ st with _ | ⟨y, s1⟩ <;> simp
  split
  · rename_i a b
    split <;> simp_all
  · rename_i h
    constructor
    · simp
    · rintro ⟨a, rfl, b, rfl, _⟩
      exact (h _ _ rfl rfl).elim
@[simp] theorem wS_put {o i e : CE} {Q} : wS C n (.put o i e) ρ st Q ↔ wE C e ρ st fun r s1 => wE C o ρ (mat r s1).2 fun x s2 => wE C i ρ s2 fun y s3 => okO (putApp s3 x y (mat r s1).1) fun s4 => Q .nx ρ s4 := by
  unfold wS wE; simp only [exS]
  rcases ev C e ρ st with _ | ⟨r, s1⟩ <;> simp
  rcases ev C o ρ (mat r s1).2 with _ | ⟨x, s2⟩ <;> simp
  rcases ev C i ρ s2 with _ | ⟨y, s3⟩ <;> simp
  rcases putApp s3 x y (mat r s1).1 with _ | s4 <;> simp
@[simp] theorem wS_for {t : Tgt} {s : Src} {b : CSs} {Q} : wS C n (.for t s b) ρ st Q ↔ wV C s ρ st fun v s1 => ok3 (forL v.ws (fun d σ => setT t d σ) (fun σ st => exs C n b σ st) v.xs ρ s1) Q := by
  unfold wS wV; simp only [exS]
  rcases evS C s ρ st with _ | ⟨v, s1⟩ <;> simp
@[simp] theorem wS_while {c : CE} {b : CSs} {Q} : wS C n (.while c b) ρ st Q ↔ ok3 (whileL (fun σ st => evT C c σ st) (fun σ st => exs C n b σ st) n ρ st) Q := by
  unfold wS; simp only [exS]
@[simp] theorem wS_sat {c f : Str} {o e : CE} {Q} : wS C n (.sat c o f e) ρ st Q ↔ wE C e ρ st fun r s1 => wE C o ρ (mat r s1).2 fun x s2 => okO (satApp s2 c x f (mat r s1).1) fun s3 => Q .nx ρ s3 := by
  unfold wS wE; simp only [exS]
  rcases ev C e ρ st with _ | ⟨r, s1⟩ <;> simp
  rcases ev C o ρ (mat r s1).2 with _ | ⟨x, s2⟩ <;> simp
  rcases satApp s2 c x f (mat r s1).1 with _ | s3 <;> simp
@[simp] theorem wS_ataug {c f : Str} {o e : CE} {Q} : wS C n (.ataug c o f e) ρ st Q ↔ wE C o ρ st fun x s1 => okO (attApp s1 c x f) fun d => wE C e ρ s1 fun y s2 => ∃ i j, d = .int i ∧ y = .val (.int j) ∧ okO (satApp s2 c x f (.int (i + j))) fun s3 => Q .nx ρ s3 := by
  unfold wS wE; simp only [exS]
  rcases ev C o ρ st with _ | ⟨x, s1⟩ <;> simp
  rcases attApp s1 c x f with _ | d <;> simp
  cases d <;> simp
  · rcases ev C e ρ s1 with _ | ⟨y, s2⟩ <;> simp
  · rcases ev C e ρ s1 with _ | ⟨y, s2⟩ <;> simp
  · rename_i i
    rcases ev C e ρ s1 with _ | ⟨y, s2⟩ <;> simp
    split
    · rename_i j s h
      simp only [Option.some.injEq, Prod.mk.injEq] at h
      obtain ⟨rfl, rfl⟩ := h
      cases hs : satApp s2 c x f (.int (i + j)) <;> simp [hs]
    · rename_i h
      simp only [ok3_none, false_iff, not_exists, not_and]
      rintro j rfl
      exact (h j s2 rfl).elim
  · rcases ev C e ρ s1 with _ | ⟨y, s2⟩ <;> simp
  · rcases ev C e ρ s1 with _ | ⟨y, s2⟩ <;> simp
  · rcases ev C e ρ s1 with _ | ⟨y, s2⟩ <;> simp
  · rcases ev C e ρ s1 with _ | ⟨y, s2⟩ <;> simp
@[simp] theorem wS_raise {c : Str} {Q} : wS C n (.raise c) ρ st Q ↔ Q (.ex c) ρ st := by simp [wS, exS]
@[simp] theorem wB_nil {Q} : wB C n .nil ρ st Q ↔ Q .nx ρ st := by simp [wB, exs]
theorem wB_cons {s : CS} {ss : CSs} {Q} : wB C n (.cons s ss) ρ st Q ↔ wS C n s ρ st fun f ρ1 s1 => match f with
    | .nx => wB C n ss ρ1 s1 Q
    | f => Q f ρ1 s1 := by
  unfold wB wS; simp only [exs]
  rcases exS C n s ρ st with _ | ⟨f, ρ1, s1⟩ <;> simp
  cases f <;> simp
end
end Mw

set_option Elab.async false
set_option linter.all false
set_option autoImplicit false
set_option maxRecDepth 100000
/-! PyW2: operators at values, the store behind a call, loops. -/
namespace Mw
open PySem
/-! ### plain values -/
mutual
def pd : D → PyData
  | .non => .none
  | .bl b => .bool b
  | .int i => .int i
  | .str s => .str s
  | .tup xs => .tuple (pdL xs)
  | .rol xs => .list (pdL xs)
  | .ref _ => .none
def pdL : List D → List PyData
  | [] => []
  | x :: xs => pd x :: pdL xs
end
def stOk (s : Str) : Bool := s.cps.all (· < 0x110000)
mutual
/-- plain within a depth -/
def pl : Nat → D → Bool
  | _, .non => true
  | _, .bl _ => true
  | _, .int _ => true
  | _, .str s => stOk s
  | k, .tup xs => match k with
    | 0 => false
    | k + 1 => plL k xs
  | k, .rol xs => match k with
    | 0 => false
    | k + 1 => plL k xs
  | _, .ref _ => false
def plL : Nat → List D → Bool
  | _, [] => true
  | k, x :: xs => pl k x && plL k xs
end
theorem pdL_map : ∀ xs : List D, pdL xs = xs.map pd
  | [] => rfl
  | x :: xs => by simp [pdL, pdL_map xs]
theorem plL_all : ∀ {k : Nat} {xs : List D}, plL k xs = true ↔ ∀ x ∈ xs, pl k x = true
  | k, [] => by simp [plL]
  | k, x :: xs => by simp [plL, plL_all (k := k) (xs := xs)]
mutual
theorem toPy_pd {st : Sto} : ∀ (k : Nat) (d : D), pl k d = true → toPy st k d = some (pd d)
  | 0, .non, h | k + 1, .non, h => by simp [toPy, pd]
  | 0, .bl _, h | k + 1, .bl _, h => by simp [toPy, pd]
  | 0, .int _, h | k + 1, .int _, h => by simp [toPy, pd]
  | 0, .str s, h | k + 1, .str s, h => by
    have : s.cps.all (· < 0x110000) = true := by simpa [pl, stOk] using h
    simp only [toPy, pd, this, if_true]
  | 0, .tup xs, h | 0, .rol xs, h => by simp [pl] at h
  | k + 1, .tup xs, h => by
    simp only [pl] at h
    simp only [toPy, pd, mapO_pd k xs h, Option.map_some]
  | k + 1, .rol xs, h => by
    simp only [pl] at h
    simp only [toPy, pd, mapO_pd k xs h, Option.map_some]
  | 0, .ref _, h | k + 1, .ref _, h => by simp [pl] at h
theorem mapO_pd {st : Sto} : ∀ (k : Nat) (xs : List D), plL k xs = true → mapO (toPy st k) xs = some (pdL xs)
  | k, [], h => rfl
  | k, x :: xs, h => by
    simp only [plL, Bool.and_eq_true] at h
    simp only [mapO, toPy_pd k x h.1, mapO_pd k xs h.2, pdL]
end
mutual
/-- no truth value within -/
def nb : D → Bool
  | .bl _ => false
  | .ref _ => false
  | .tup xs => nbL xs
  | .rol xs => nbL xs
  | _ => true
def nbL : List D → Bool
  | [] => true
  | x :: xs => nb x && nbL xs
end
theorem nbL_all : ∀ {xs : List D}, nbL xs = true ↔ ∀ x ∈ xs, nb x = true
  | [] => by simp [nbL]
  | x :: xs => by simp [nbL, nbL_all (xs := xs)]
theorem dec_eq {α : Type} [DecidableEq α] [BEq α] [LawfulBEq α] (a b : α) : (a == b) = decide (a = b) := by
  by_cases h : a = b
  · subst h; simp
  · rw [decide_eq_false h]; exact beq_eq_false_iff_ne.mpr h
mutual
theorem eqv_pd : ∀ (a b : D), nb a = true → nb b = true → PyData.eqv (pd a) (pd b) = decide (a = b)
  | .non, b, _, h => by
    cases b with
    | bl _ => cases h
    | ref _ => cases h
    | non => rfl
    | _ => simp [pd, PyData.eqv]
  | .bl _, b, h, _ => by cases h
  | .ref _, b, h, _ => by cases h
  | .int i, b, _, h => by
    cases b with
    | bl _ => cases h
    | ref _ => cases h
    | int j => simp only [pd, PyData.eqv, dec_eq, D.int.injEq]
    | _ => simp [pd, PyData.eqv]
  | .str s, b, _, h => by
    cases b with
    | bl _ => cases h
    | ref _ => cases h
    | str j => simp only [pd, PyData.eqv, dec_eq, D.str.injEq]
    | _ => simp [pd, PyData.eqv]
  | .tup xs, b, h1, h => by
    cases b with
    | bl _ => cases h
    | ref _ => cases h
    | tup ys =>
      simp only [nb] at h h1
      simp only [pd, PyData.eqv, eqvAll_pd xs ys h1 h, D.tup.injEq]
    | _ => simp [pd, PyData.eqv]
  | .rol xs, b, h1, h => by
    cases b with
    | bl _ => cases h
    | ref _ => cases h
    | rol ys =>
      simp only [nb] at h h1
      simp only [pd, PyData.eqv, eqvAll_pd xs ys h1 h, D.rol.injEq]
    | _ => simp [pd, PyData.eqv]
theorem eqvAll_pd : ∀ (a b : List D), nbL a = true → nbL b = true → PyData.eqvAll (pdL a) (pdL b) = decide (a = b)
  | [], b, _, h => by cases b <;> simp [pdL, PyData.eqvAll]
  | x :: xs, b, h1, h => by
    cases b with
    | nil => simp [pdL, PyData.eqvAll]
    | cons y ys =>
      simp only [nbL, Bool.and_eq_true] at h h1
      simp only [pdL, PyData.eqvAll, eqv_pd x y h1.1 h.1, eqvAll_pd xs ys h1.2 h.2, List.cons.injEq]
      by_cases e : x = y <;> by_cases e2 : xs = ys <;> simp [e, e2]
end
/-! ### operators -/
section
variable {st : Sto}
theorem pyEq_val {a b : D} (h1 : pl 60 a = true) (h2 : pl 60 b = true) (n1 : nb a = true) (n2 : nb b = true) : pyEq st (.val a) (.val b) = some (decide (a = b)) := by
  simp only [pyEq, pyEqD, orE, rvPy, toPy_pd 60 a h1, toPy_pd 60 b h2, eqv_pd a b n1 n2]
@[simp] theorem pyEq_int {a b : Int} : pyEq st (.val (.int a)) (.val (.int b)) = some (decide (a = b)) := by
  rw [pyEq_val rfl rfl rfl rfl]; simp
@[simp] theorem pyEq_bl {a b : Bool} : pyEq st (.val (.bl a)) (.val (.bl b)) = some (a == b) := by
  simp [pyEq, pyEqD, orE, rvPy, toPy, PyData.eqv]
theorem pyEq_str {a b : Str} (h1 : stOk a = true) (h2 : stOk b = true) : pyEq st (.val (.str a)) (.val (.str b)) = some (decide (a = b)) := by
  rw [pyEq_val (by simpa [pl] using h1) (by simpa [pl] using h2) rfl rfl]; simp
theorem toPy_ref {k n : Nat} {xs : List D} (h : st[n]? = some (.lst xs)) : toPy st (k + 1) (.ref n) = (mapO (toPy st k) xs).map .list := by
  simp only [toPy, h]
theorem rvPy_list {x : RV} {xs : List D} (h : listOf st x = some xs) (hp : plL 59 xs = true) : rvPy st x = some (.list (pdL xs)) := by
  unfold listOf at h
  split at h
  · simp only [Option.some.injEq] at h; subst h
    simp only [rvPy, mapO_pd 59 _ hp, Option.map_some]
  · simp only [Option.some.injEq] at h; subst h
    exact toPy_pd 60 (.rol _) (by simpa [pl] using hp)
  · split at h
    · rename_i e
      simp only [Option.some.injEq] at h; subst h
      exact (toPy_ref e).trans (by rw [mapO_pd 59 _ hp]; rfl)
    · cases h
  · cases h
theorem pyEq_list {x y : RV} {xs ys : List D} (h : listOf st x = some xs) (h' : listOf st y = some ys) (hp : plL 59 xs = true) (hp' : plL 59 ys = true) (n1 : nbL xs = true) (n2 : nbL ys = true) : pyEq st x y = some (decide (xs = ys)) := by
  simp only [pyEq, pyEqD, orE, rvPy_list h hp, rvPy_list h' hp', PyData.eqv, eqvAll_pd xs ys n1 n2]
theorem any_pd {d : D} {xs : List D} (n1 : nb d = true) (n2 : nbL xs = true) : ((pdL xs).any fun q => PyData.eqv q (pd d)) = decide (d ∈ xs) := by
  rw [pdL_map, List.any_map]
  have n2' := nbL_all.mp n2
  clear n2
  induction xs with
  | nil => rfl
  | cons x xs ih =>
    rw [List.any_cons, ih fun y hy => n2' y (List.mem_cons_of_mem _ hy)]
    simp only [Function.comp_apply, eqv_pd x d (n2' x (List.mem_cons_self ..)) n1, List.mem_cons]
    by_cases e : x = d
    · simp [e]
    · have : d ≠ x := Ne.symm e
      simp [e, this]
theorem in_tup {d : D} {xs : List D} (h1 : pl 60 d = true) (h2 : plL 59 xs = true) (n1 : nb d = true) (n2 : nbL xs = true) : inApp st (.val d) (.val (.tup xs)) = some (decide (d ∈ xs)) := by
  simp only [inApp, rvPy, toPy_pd 60 d h1, mapO_pd 59 xs h2, any_pd n1 n2]
@[simp] theorem bin_add {a b : Int} : binApp st .add (.val (.int a)) (.val (.int b)) = some (.val (.int (a + b))) := rfl
@[simp] theorem bin_sub {a b : Int} : binApp st .sub (.val (.int a)) (.val (.int b)) = some (.val (.int (a - b))) := rfl
@[simp] theorem bin_mul {a b : Int} : binApp st .mul (.val (.int a)) (.val (.int b)) = if mulOk a b = true then some (.val (.int (a * b))) else none := rfl
@[simp] theorem bin_mod {a b : Int} : binApp st .mod (.val (.int a)) (.val (.int b)) = if 0 < b then some (.val (.int (a % b))) else none := by
  show (intOp .mod a b).map _ = _
  unfold intOp
  by_cases h : 0 < b <;> simp [h]
theorem bin_fdivW {a b : Int} (h1 : 0 < b) (h2 : b < 1000000000000000000000000000000) : binApp st .fdiv (.val (.int a)) (.val (.int b)) = some (.val (.int (a / b))) := by
  show (intOp .fdiv a b).map _ = _
  unfold intOp
  simp [h1, h2]
@[simp] theorem bin_fdiv {a b : Int} (h1 : 0 < b) (h2 : b < 1073741824) : binApp st .fdiv (.val (.int a)) (.val (.int b)) = some (.val (.int (a / b))) := bin_fdivW h1 (by omega)
@[simp] theorem bin_pow {a b : Int} : binApp st .pow (.val (.int a)) (.val (.int b)) = if powOk a b = true then some (.val (.int (a ^ b.toNat))) else none := by
  show (intOp .pow a b).map _ = _
  unfold intOp
  by_cases h : powOk a b = true <;> simp [h]
@[simp] theorem bin_addS {a b : Str} : binApp st .add (.val (.str a)) (.val (.str b)) = if szOk (a.length + b.length) = true then some (.val (.str (a ++ b))) else none := rfl
@[simp] theorem bin_addT {a b : List D} : binApp st .add (.val (.tup a)) (.val (.tup b)) = if szOk (a.length + b.length) = true then some (.val (.tup (a ++ b))) else none := rfl
@[simp] theorem cmp_lt {a b : Int} : cmpApp st .lt (.val (.int a)) (.val (.int b)) = some (decide (a < b)) := rfl
@[simp] theorem cmp_le {a b : Int} : cmpApp st .le (.val (.int a)) (.val (.int b)) = some (decide (a ≤ b)) := rfl
@[simp] theorem cmp_gt {a b : Int} : cmpApp st .gt (.val (.int a)) (.val (.int b)) = some (decide (b < a)) := rfl
@[simp] theorem cmp_ge {a b : Int} : cmpApp st .ge (.val (.int a)) (.val (.int b)) = some (decide (b ≤ a)) := rfl
@[simp] theorem cmp_eq {x y : RV} : cmpApp st .eq x y = pyEq st x y := rfl
@[simp] theorem cmp_ne {x y : RV} : cmpApp st .ne x y = (pyEq st x y).map (!·) := rfl
@[simp] theorem cmp_in {x y : RV} : cmpApp st .isin x y = inApp st x y := rfl
@[simp] theorem cmp_notin {x y : RV} : cmpApp st .notin x y = (inApp st x y).map (!·) := rfl
@[simp] theorem cmp_isN {x : RV} : cmpApp st .isN x (.val .non) = some (isNon x) := rfl
@[simp] theorem cmp_notN {x : RV} : cmpApp st .notN x (.val .non) = some (!isNon x) := rfl
@[simp] theorem cmp_isB {a b : Bool} : cmpApp st .isN (.val (.bl a)) (.val (.bl b)) = some (decide (a = b)) := rfl
@[simp] theorem cmp_notB {a b : Bool} : cmpApp st .notN (.val (.bl a)) (.val (.bl b)) = some (!decide (a = b)) := rfl
@[simp] theorem truth_bl {b : Bool} : truth st (.val (.bl b)) = some b := rfl
@[simp] theorem truth_int {i : Int} : truth st (.val (.int i)) = some (i != 0) := rfl
@[simp] theorem truth_tmp {xs : List D} : truth st (.tmp xs) = some (!xs.isEmpty) := rfl
@[simp] theorem truth_tup {xs : List D} : truth st (.val (.tup xs)) = some (!xs.isEmpty) := rfl
@[simp] theorem mat_val {d : D} : mat (.val d) st = (d, st) := rfl
@[simp] theorem mat_tmp {xs : List D} : mat (.tmp xs) st = (.ref st.length, st ++ [.lst xs]) := rfl
@[simp] theorem idx_tup {xs : List D} {i : Int} : idxApp st (.val (.tup xs)) (.val (.int i)) = (L2.atI xs i).map .val := rfl
@[simp] theorem idx_tmp {xs : List D} {i : Int} : idxApp st (.tmp xs) (.val (.int i)) = (L2.atI xs i).map .val := rfl
@[simp] theorem idx_rol {xs : List D} {i : Int} : idxApp st (.val (.rol xs)) (.val (.int i)) = (L2.atI xs i).map .val := rfl
theorem idx_ref {xs : List D} {i : Int} {n : Nat} (h : st[n]? = some (.lst xs)) : idxApp st (.val (.ref n)) (.val (.int i)) = (L2.atI xs i).map .val := by
  simp only [idxApp, h]
theorem listOf_ref {xs : List D} {n : Nat} (h : st[n]? = some (.lst xs)) : listOf st (.val (.ref n)) = some xs := by simp only [listOf, h]
theorem len_ref {xs : List D} {n : Nat} (h : st[n]? = some (.lst xs)) : biApp st .len [.val (.ref n)] = some (.val (.int xs.length)) := by simp only [biApp, biLen, h]
@[simp] theorem len_tup {xs : List D} : biApp st .len [.val (.tup xs)] = some (.val (.int xs.length)) := rfl
@[simp] theorem len_tmp {xs : List D} : biApp st .len [.tmp xs] = some (.val (.int xs.length)) := rfl
@[simp] theorem len_rol {xs : List D} : biApp st .len [.val (.rol xs)] = some (.val (.int xs.length)) := rfl
@[simp] theorem int_bl {b : Bool} : biApp st .int [.val (.bl b)] = some (.val (.int (if b then 1 else 0))) := rfl
@[simp] theorem int_int {b : Int} : biApp st .int [.val (.int b)] = some (.val (.int b)) := rfl
@[simp] theorem tup_tmp {xs : List D} : biApp st .tuple [.tmp xs] = some (.val (.tup xs)) := rfl
theorem tup_ref {xs : List D} {n : Nat} (h : st[n]? = some (.lst xs)) : biApp st .tuple [.val (.ref n)] = some (.val (.tup xs)) := by simp only [biApp, biTuple, seqOf, h, Option.map_some]
@[simp] theorem max_int {i j : Int} : biApp st .max [.val (.int i), .val (.int j)] = some (.val (.int (if j > i then j else i))) := rfl
@[simp] theorem min_int {i j : Int} : biApp st .min [.val (.int i), .val (.int j)] = some (.val (.int (if j < i then j else i))) := rfl
@[simp] theorem isTy_int {t : Ty} {i : Int} : isTy st t (.val (.int i)) = some (t == .int) := rfl
@[simp] theorem isTy_bl {t : Ty} {i : Bool} : isTy st t (.val (.bl i)) = some (t == .bool || t == .int) := rfl
@[simp] theorem isTy_str {t : Ty} {i : Str} : isTy st t (.val (.str i)) = some (t == .str) := rfl
@[simp] theorem isTy_tup {t : Ty} {i : List D} : isTy st t (.val (.tup i)) = some (t == .tuple) := rfl
@[simp] theorem isTy_non {t : Ty} : isTy st t (.val .non) = some false := rfl
theorem app_ref {xs : List D} {n : Nat} {r : RV} (h : st[n]? = some (.lst xs)) (hl : xs.length < 16777216) : mtApp st .append (.val (.ref n)) [r] = some (.val .non, (mat r st).2.set n (.lst (xs ++ [(mat r st).1]))) := by
  simp [mtApp, mtAppend, h, hl]
@[simp] theorem src_tup {xs : List D} : srcOf st (.val (.tup xs)) = some ⟨xs, [], false⟩ := rfl
@[simp] theorem src_tmp {xs : List D} : srcOf st (.tmp xs) = some ⟨xs, [], false⟩ := rfl
@[simp] theorem src_rol {xs : List D} : srcOf st (.val (.rol xs)) = some ⟨xs, [], false⟩ := rfl
@[simp] theorem seq_tup {xs : List D} : srcSeq st (.val (.tup xs)) = some ⟨xs, [], false⟩ := rfl
@[simp] theorem seq_tmp {xs : List D} : srcSeq st (.tmp xs) = some ⟨xs, [], false⟩ := rfl
@[simp] theorem seq_rol {xs : List D} : srcSeq st (.val (.rol xs)) = some ⟨xs, [], false⟩ := rfl
theorem src_ref {xs : List D} {n : Nat} (h : st[n]? = some (.lst xs)) : srcOf st (.val (.ref n)) = some ⟨xs, [(n, .lst xs)], false⟩ := by simp only [srcOf, srcSeq, h]
@[simp] theorem sli_tup {xs : List D} {lo hi : Option Int} : sliApp st (.val (.tup xs)) lo hi = some (.val (.tup (cutD xs lo hi))) := rfl
@[simp] theorem sli_tmp {xs : List D} {lo hi : Option Int} : sliApp st (.tmp xs) lo hi = some (.tmp (cutD xs lo hi)) := rfl
@[simp] theorem sli_rol {xs : List D} {lo hi : Option Int} : sliApp st (.val (.rol xs)) lo hi = some (.tmp (cutD xs lo hi)) := rfl
@[simp] theorem chk_nil : chk [] st = true := rfl
end
/-! ### a call's end -/
/-- what was there is there, or names only what was there -/
def Sta (st s2 : Sto) : Prop := s2.length = st.length ∧ ∀ i, i < st.length → s2[i]? = st[i]? ∨ ∃ o, s2[i]? = some o ∧ o.low st.length = true
theorem Sta.refl {st : Sto} : Sta st st := ⟨rfl, fun _ _ => .inl rfl⟩
theorem Sta.set {st s2 : Sto} (h : Sta st s2) {r : Nat} {o : O} (ho : o.low st.length = true) : Sta st (s2.set r o) := by
  refine ⟨by rw [List.length_set]; exact h.1, fun i hi => ?_⟩
  by_cases e : r = i
  · subst e
    exact .inr ⟨o, by rw [List.getElem?_set_self (by rw [h.1]; exact hi)], ho⟩
  · rw [List.getElem?_set_ne e]; exact h.2 i hi
theorem gcOld_ok {st s2 g : Sto} (h : Sta st s2) : gcOld st (s2 ++ g) = true := by
  simp only [gcOld, Bool.and_eq_true, decide_eq_true_eq, List.all_eq_true, List.mem_range, Bool.or_eq_true]
  refine ⟨by rw [List.length_append, h.1]; omega, fun i hi => ?_⟩
  rw [List.getElem?_append_left (by rw [h.1]; exact hi)]
  rcases h.2 i hi with e | ⟨o, e, ho⟩
  · exact .inl e
  · refine .inr ?_
    rw [e]; exact ho
theorem gc_val {st s2 g : Sto} {d : D} (h : Sta st s2) (hd : d.low st.length = true) : gc st d (s2 ++ g) = (d, s2) := by
  unfold gc
  rw [if_pos (gcOld_ok h), if_pos hd, ← h.1, List.take_left']
  rfl
theorem gc_val' {st s2 : Sto} {d : D} (h : Sta st s2) (hd : d.low st.length = true) : gc st d s2 = (d, s2) := by
  have := gc_val (g := []) h hd
  rwa [List.append_nil] at this
@[simp] theorem gc_self {st : Sto} {d : D} (hd : d.low st.length = true) : gc st d st = (d, st) := gc_val' .refl hd
@[simp] theorem low_non {m : Nat} : D.low m .non = true := id rfl
@[simp] theorem low_bl {m : Nat} {b : Bool} : D.low m (.bl b) = true := id rfl
@[simp] theorem low_int {m : Nat} {b : Int} : D.low m (.int b) = true := id rfl
@[simp] theorem low_str {m : Nat} {b : Str} : D.low m (.str b) = true := id rfl
@[simp] theorem low_tup {m : Nat} {b : List D} : D.low m (.tup b) = D.lowL m b := id rfl
@[simp] theorem low_rol {m : Nat} {b : List D} : D.low m (.rol b) = D.lowL m b := id rfl
@[simp] theorem low_ref {m n : Nat} : D.low m (.ref n) = decide (n < m) := id rfl
@[simp] theorem lowL_nil {m : Nat} : D.lowL m [] = true := id rfl
@[simp] theorem lowL_cons {m : Nat} {x : D} {b : List D} : D.lowL m (x :: b) = (D.low m x && D.lowL m b) := id rfl
theorem gc_new {st s2 g : Sto} {j : Nat} {o : O} (h : Sta st s2) (hj : g[j]? = some o) (ho : o.low st.length = true) : gc st (.ref (st.length + j)) (s2 ++ g) = (.ref st.length, s2 ++ [o]) := by
  unfold gc
  rw [if_pos (gcOld_ok h), if_neg (by simp [D.low])]
  have : (s2 ++ g)[st.length + j]? = some o := by
    rw [List.getElem?_append_right (by rw [h.1]; omega), h.1, Nat.add_sub_cancel_left]; exact hj
  simp only [this, ho, if_true]
  rw [← h.1, List.take_left']
  rfl
theorem lowL_all : ∀ {m : Nat} {xs : List D}, D.lowL m xs = true ↔ ∀ x ∈ xs, D.low m x = true
  | m, [] => by simp [D.lowL]
  | m, x :: xs => by simp [D.lowL, lowL_all (m := m) (xs := xs)]
/-- a call, by its body -/
theorem callF_w {T : Tab} {n k : Nat} {f : Str} {ds : List D} {st : Sto} {Q : D → Sto → Prop} {fd : Fd} (hT : T.lookup f = some fd) (hl : ds.length = fd.np)
    (h : wB (callF T n k) n fd.body (ds.map some ++ List.replicate (fd.ns - fd.np) none) st fun fl _ s' => match fl with
      | .rt d => Q (gc st d s').1 (gc st d s').2
      | .nx => Q (gc st .non s').1 (gc st .non s').2
      | _ => False) : ok2 (callF T n (k + 1) f ds st) Q := by
  simp only [callF, hT]
  rw [if_pos hl]
  unfold wB at h
  rcases e : exs (callF T n k) n fd.body (ds.map some ++ List.replicate (fd.ns - fd.np) none) st with _ | ⟨fl, ρ', s'⟩
  · rw [e] at h; exact h.elim
  · rw [e] at h
    cases fl with
    | nx => exact h
    | rt d => exact h
    | bk => exact h.elim
    | ct => exact h.elim
    | ex c => exact h.elim
/-- what a body is to reach -/
def fin (st : Sto) (P : D → Sto → Prop) : Fl → Env → Sto → Prop := fun fl _ s' => match fl with
  | .rt d => P (gc st d s').1 (gc st d s').2
  | .nx => P (gc st .non s').1 (gc st .non s').2
  | _ => False
@[simp] theorem fin_rt {st s' : Sto} {P : D → Sto → Prop} {d : D} {ρ : Env} : fin st P (.rt d) ρ s' ↔ P (gc st d s').1 (gc st d s').2 := Iff.rfl
@[simp] theorem fin_nx {st s' : Sto} {P : D → Sto → Prop} {ρ : Env} : fin st P .nx ρ s' ↔ P (gc st .non s').1 (gc st .non s').2 := Iff.rfl
@[simp] theorem fin_bk {st s' : Sto} {P : D → Sto → Prop} {ρ : Env} : fin st P .bk ρ s' ↔ False := Iff.rfl
@[simp] theorem fin_ct {st s' : Sto} {P : D → Sto → Prop} {ρ : Env} : fin st P .ct ρ s' ↔ False := Iff.rfl
theorem callF_f {T : Tab} {n k : Nat} {f : Str} {ds : List D} {st : Sto} {Q : D → Sto → Prop} {fd : Fd} (hT : T.lookup f = some fd) (hl : ds.length = fd.np)
    (h : wB (callF T n k) n fd.body (ds.map some ++ List.replicate (fd.ns - fd.np) none) st (fin st Q)) : ok2 (callF T n (k + 1) f ds st) Q := callF_w hT hl h
theorem callF_eq {T : Tab} {n k : Nat} {f : Str} {ds : List D} {st s2 : Sto} {d : D} (h : ok2 (callF T n k f ds st) fun d' s' => d' = d ∧ s' = s2) : callF T n k f ds st = some (d, s2) := by
  rcases e : callF T n k f ds st with _ | ⟨d', s'⟩
  · rw [e] at h; exact h.elim
  · rw [e] at h
    obtain ⟨rfl, rfl⟩ := h
    rfl
@[simp] theorem setT_nm {i : Nat} {d : D} {ρ : Env} : setT (.nm i) d ρ = some (ρ.set i (some d)) := rfl
@[simp] theorem setT_tp {ts : Tgts} {xs : List D} {ρ : Env} : setT (.tp ts) (.tup xs) ρ = setTs ts xs ρ := rfl
@[simp] theorem setTs_nil {ρ : Env} : setTs .nil [] ρ = some ρ := rfl
@[simp] theorem setTs_nm {i : Nat} {ts : Tgts} {d : D} {ds : List D} {ρ : Env} : setTs (.cons (.nm i) ts) (d :: ds) ρ = setTs ts ds (ρ.set i (some d)) := rfl
@[simp] theorem setTs_tp {t : Tgts} {ts : Tgts} {d : List D} {ds : List D} {ρ : Env} : setTs (.cons (.tp t) ts) (.tup d :: ds) ρ = (match setTs t d ρ with | some ρ' => setTs ts ds ρ' | none => none) := rfl
theorem atI_n {α : Type} {xs : List α} {j : Nat} {x : α} (h : xs[j]? = some x) : L2.atI xs (j : Int) = some x := L2.atI_nat h
@[simp] theorem atI_0 {α : Type} {x : α} {xs : List α} : L2.atI (x :: xs) 0 = some x := atI_n (j := 0) rfl
@[simp] theorem atI_1 {α : Type} {x y : α} {xs : List α} : L2.atI (x :: y :: xs) 1 = some y := atI_n (j := 1) rfl
@[simp] theorem atI_2 {α : Type} {x y z : α} {xs : List α} : L2.atI (x :: y :: z :: xs) 2 = some z := atI_n (j := 2) rfl
@[simp] theorem atI_3 {α : Type} {x y z w : α} {xs : List α} : L2.atI (x :: y :: z :: w :: xs) 3 = some w := atI_n (j := 3) rfl
@[simp] theorem atI_4 {α : Type} {x y z w v : α} {xs : List α} : L2.atI (x :: y :: z :: w :: v :: xs) 4 = some v := atI_n (j := 4) rfl
/-! ### loops -/
theorem forL_nil {ws t b} {ρ : Env} {st : Sto} {Q : Fl → Env → Sto → Prop} (hc : chk ws st = true) (h : Q .nx ρ st) : ok3 (forL ws t b [] ρ st) Q := by
  simp only [forL, hc, if_true]; exact h
@[simp] theorem exs_w {C : Call} {n : Nat} {c : CSs} {ρ : Env} {st : Sto} {Q : Fl → Env → Sto → Prop} : ok3 (exs C n c ρ st) Q ↔ wB C n c ρ st Q := Iff.rfl
@[simp] theorem forL_n {ws : List (Nat × O)} {t : D → Env → Option Env} {b : Env → Sto → Option (Fl × Env × Sto)} {ρ : Env} {st : Sto} {Q : Fl → Env → Sto → Prop} : ok3 (forL ws t b [] ρ st) Q ↔ chk ws st = true ∧ Q .nx ρ st := by
  simp only [forL]
  by_cases hc : chk ws st = true <;> simp [hc]
/-- a loop by an invariant over what is behind and what is ahead -/
theorem forL_w {ws : List (Nat × O)} {t : D → Env → Option Env} {b : Env → Sto → Option (Fl × Env × Sto)} {Q : Fl → Env → Sto → Prop} (I : List D → Env → Sto → Prop)
    (hend : ∀ ρ st, I [] ρ st → chk ws st = true ∧ Q .nx ρ st)
    (hstep : ∀ x xs ρ st, I (x :: xs) ρ st → chk ws st = true ∧ ∃ ρ1, t x ρ = some ρ1 ∧ ok3 (b ρ1 st) fun f ρ2 s2 => match f with
      | .nx => I xs ρ2 s2
      | .ct => I xs ρ2 s2
      | .bk => Q .nx ρ2 s2
      | .rt d => Q (.rt d) ρ2 s2
      | .ex c => Q (.ex c) ρ2 s2) :
    ∀ (xs : List D) (ρ : Env) (st : Sto), I xs ρ st → ok3 (forL ws t b xs ρ st) Q := by
  intro xs
  induction xs with
  | nil => intro ρ st h; exact forL_nil (hend ρ st h).1 (hend ρ st h).2
  | cons x xs ih =>
    intro ρ st h
    obtain ⟨hc, ρ1, ht, hb⟩ := hstep x xs ρ st h
    simp only [forL, hc, if_true, ht]
    rcases e : b ρ1 st with _ | ⟨f, ρ2, s2⟩
    · rw [e] at hb; exact hb.elim
    · rw [e] at hb
      cases f with
      | nx => exact ih ρ2 s2 hb
      | ct => exact ih ρ2 s2 hb
      | bk => exact hb
      | rt d => exact hb
      | ex c => exact hb
theorem ev_eq {C : Call} {c : CE} {ρ : Env} {st st' : Sto} {x : RV} (h : wE C c ρ st fun r s => r = x ∧ s = st') : ev C c ρ st = some (x, st') := by
  unfold wE at h
  rcases e : ev C c ρ st with _ | ⟨d', s'⟩
  · rw [e] at h; exact h.elim
  · rw [e] at h
    obtain ⟨rfl, rfl⟩ := h
    rfl
@[simp] theorem evC_nil {C : Call} {ρ : Env} {st : Sto} : evC C .nil ρ st = some (true, st) := by simp [evC]
/-- a comprehension over a mapped list that changes nothing -/
theorem compL_all {α : Type} {ws : List (Nat × O)} {t : D → Option Env} {c : Env → Sto → Option (Bool × Sto)} {e : Env → Sto → Option (RV × Sto)} {st : Sto} (g f : α → D) (hc : chk ws st = true) :
    ∀ (zs : List α), (∀ z ∈ zs, ∃ ρ1, t (g z) = some ρ1 ∧ c ρ1 st = some (true, st) ∧ e ρ1 st = some (.val (f z), st)) → compL ws t c e (zs.map g) st = some (zs.map f, st)
  | [], _ => by simp [compL, hc]
  | x :: xs, h => by
    obtain ⟨ρ1, h1, h2, h3⟩ := h x (List.mem_cons_self ..)
    have ih := compL_all g f hc xs fun y hy => h y (List.mem_cons_of_mem _ hy)
    simp [compL, hc, h1, h2, h3, ih, mat]
theorem compL_ok {α : Type} {ws : List (Nat × O)} {t : D → Option Env} {c : Env → Sto → Option (Bool × Sto)} {e : Env → Sto → Option (RV × Sto)} {st : Sto} {Q : List D → Sto → Prop} (zs : List α) (g f : α → D) (hc : chk ws st = true)
    (h : ∀ z ∈ zs, ∃ ρ1, t (g z) = some ρ1 ∧ c ρ1 st = some (true, st) ∧ e ρ1 st = some (.val (f z), st)) (q : Q (zs.map f) st) : ok2 (compL ws t c e (zs.map g) st) Q := by
  rw [compL_all g f hc zs h]; exact q
theorem blsOf_map : ∀ bs : List Bool, blsOf (bs.map .bl) = some bs
  | [] => rfl
  | b :: bs => by
    have ih := blsOf_map bs
    unfold blsOf at ih ⊢
    simp only [List.map_cons, mapO, ih]
theorem all_bls {st : Sto} (bs : List Bool) : biApp st .all [.tmp (bs.map .bl)] = some (.val (.bl (bs.all id))) := by
  simp [biApp, biAll, listOf, blsOf_map]
/-- the last cell of the store -/
@[simp] theorem get_last {st : Sto} {o : O} : (st ++ [o])[st.length]? = some o := by
  rw [List.getElem?_append_right (Nat.le_refl _)]; simp
@[simp] theorem set_last {st : Sto} {o o' : O} : (st ++ [o]).set st.length o' = st ++ [o'] := by
  rw [List.set_append_right _ _ (Nat.le_refl _)]; simp
theorem get_old {st g : Sto} {r : Nat} {o : O} (h : st[r]? = some o) : (st ++ g)[r]? = some o := by
  rw [List.getElem?_append_left (List.getElem?_eq_some_iff.mp h).1]; exact h
theorem gc_app {st g : Sto} {d : D} (hd : d.low st.length = true) : gc st d (st ++ g) = (d, st) := gc_val .refl hd
theorem gc_one {st : Sto} {o : O} (ho : o.low st.length = true) : gc st (.ref st.length) (st ++ [o]) = (.ref st.length, st ++ [o]) := gc_new (j := 0) (g := [o]) .refl rfl ho
theorem enmD_cons {k : Nat} {x : D} {xs : List D} : enmD k (x :: xs) = .tup [.int k, x] :: enmD (k + 1) xs := rfl
end Mw

set_option Elab.async false
set_option linter.all false
set_option autoImplicit false
set_option maxRecDepth 100000
/-! PyF: what the shared defs do. -/
namespace Mw
open PySem
def cis_whole : CSs := (.cons (.ret (.and (.isi (.var 0) .int) (.not (.isi (.var 0) .bool)))) .nil)
def fis_whole : Fd := ⟨1, 1, cis_whole⟩
def cis_place : CSs := (.cons (.ret (.and (.call "is_whole" (.cons (.var 1) .nil)) (.chain .le .lt (.cst (.int 0)) (.var 1) (.var 0)))) .nil)
def fis_place : Fd := ⟨2, 2, cis_place⟩
def cis_meeting : CSs := (.cons (.ite (.or (.not (.isi (.var 1) .tuple)) (.cmp .ne (.bi .len (.cons (.var 1) .nil)) (.cst (.int 5)))) (.cons (.ret (.cst (.bl false))) .nil) .nil) (.cons (.asg (.tp (.cons (.nm 2) (.cons (.nm 3) (.cons (.nm 4) (.cons (.nm 5) (.cons (.nm 6) .nil)))))) (.var 1)) (.cons (.ite (.or (.not (.isi (.var 2) .str)) (.cmp .notin (.var 2) (.cst (.tup [(.str "to"), (.str "both")])))) (.cons (.ret (.cst (.bl false))) .nil) .nil) (.cons (.ite (.or (.not (.call "is_place" (.cons (.var 0) (.cons (.var 3) .nil)))) (.or (.not (.call "is_place" (.cons (.var 0) (.cons (.var 4) .nil)))) (.cmp .eq (.var 3) (.var 4)))) (.cons (.ret (.cst (.bl false))) .nil) .nil) (.cons (.ret (.and (.call "is_whole" (.cons (.var 5) .nil)) (.and (.cmp .ge (.var 5) (.cst (.int 0))) (.and (.call "is_whole" (.cons (.var 6) .nil)) (.cmp .ge (.var 6) (.cst (.int 1))))))) .nil)))))
def fis_meeting : Fd := ⟨2, 7, cis_meeting⟩
def cis_net : CSs := (.cons (.ite (.or (.not (.isi (.var 0) .tuple)) (.cmp .ne (.bi .len (.cons (.var 0) .nil)) (.cst (.int 2)))) (.cons (.ret (.cst (.bl false))) .nil) .nil) (.cons (.asg (.tp (.cons (.nm 1) (.cons (.nm 2) .nil))) (.var 0)) (.cons (.ite (.or (.not (.call "is_whole" (.cons (.var 1) .nil))) (.or (.cmp .lt (.var 1) (.cst (.int 1))) (.not (.isi (.var 2) .tuple)))) (.cons (.ret (.cst (.bl false))) .nil) .nil) (.cons (.ret (.bi .all (.cons (.comp (.nm 3) (.ex (.var 2)) .nil (.call "is_meeting" (.cons (.var 1) (.cons (.var 3) .nil))) [3]) .nil))) .nil))))
def fis_net : Fd := ⟨1, 4, cis_net⟩
def csteps_of : CSs := (.cons (.asg (.nm 1) (.lst .nil)) (.cons (.for (.tp (.cons (.nm 2) (.cons (.nm 3) .nil))) (.enm (.idx (.var 0) (.cst (.int 1)))) (.cons (.asg (.tp (.cons (.nm 4) (.cons (.nm 5) (.cons (.nm 6) (.cons (.nm 7) (.cons (.nm 8) .nil)))))) (.var 3)) (.cons (.expr (.mt .append (.var 1) (.cons (.tup (.cons (.var 2) (.cons (.var 5) (.cons (.var 6) (.cons (.var 7) (.cons (.bin .add (.var 7) (.var 8)) .nil)))))) .nil))) (.cons (.ite (.cmp .eq (.var 4) (.cst (.str "both"))) (.cons (.expr (.mt .append (.var 1) (.cons (.tup (.cons (.var 2) (.cons (.var 6) (.cons (.var 5) (.cons (.var 7) (.cons (.bin .add (.var 7) (.var 8)) .nil)))))) .nil))) .nil) .nil) .nil)))) (.cons (.ret (.bi .tuple (.cons (.var 1) .nil))) .nil)))
def fsteps_of : Fd := ⟨1, 9, csteps_of⟩
abbrev Has (T : Tab) (f : Str) (fd : Fd) : Prop := T.lookup f = some fd
section
variable {T : Tab} {n k : Nat} {st : Sto}
theorem is_whole_int (hT : Has T "is_whole" fis_whole) {i : Int} : callF T n (k + 1) "is_whole" [.int i] st = some (.bl true, st) := by
  refine callF_eq (callF_w hT rfl ?_)
  simp [fis_whole, cis_whole, wB_cons]
theorem is_place_int (h1 : Has T "is_whole" fis_whole) (hT : Has T "is_place" fis_place) {m i : Int} : callF T n (k + 2) "is_place" [.int m, .int i] st = some (.bl (decide (0 ≤ i ∧ i < m)), st) := by
  refine callF_eq (callF_w hT rfl ?_)
  simp [fis_place, cis_place, wB_cons, is_whole_int h1]
  by_cases h : 0 ≤ i <;> simp [h]
/-! ### meetings and nets -/
structure Mt where
  bo : Bool
  a : Int
  b : Int
  t : Int
  l : Int
def wdD (b : Bool) : D := .str (if b then "both" else "to")
def mtD (m : Mt) : D := .tup [wdD m.bo, .int m.a, .int m.b, .int m.t, .int m.l]
def netD (n : Int) (ms : List Mt) : D := .tup [.int n, .tup (ms.map mtD)]
def Mt.ok (n : Int) (m : Mt) : Prop := 0 ≤ m.a ∧ m.a < n ∧ 0 ≤ m.b ∧ m.b < n ∧ m.a ≠ m.b ∧ 0 ≤ m.t ∧ 1 ≤ m.l
theorem wd_in {b : Bool} : inApp st (.val (wdD b)) (.val (.tup [.str "to", .str "both"])) = some true := by
  unfold wdD
  rw [in_tup (by cases b <;> decide +kernel) (by decide +kernel) rfl rfl]
  cases b <;> simp
theorem is_meeting_ok (h1 : Has T "is_whole" fis_whole) (h2 : Has T "is_place" fis_place) (hT : Has T "is_meeting" fis_meeting) {m : Int} {x : Mt} (h : x.ok m) : callF T n (k + 3) "is_meeting" [.int m, mtD x] st = some (.bl true, st) := by
  obtain ⟨q1, q2, q3, q4, q5, q6, q7⟩ := h
  refine callF_eq (callF_w hT rfl ?_)
  have hw : inApp st (.val (.str (if x.bo then "both" else "to"))) (.val (.tup [.str "to", .str "both"])) = some true := wd_in
  simp [fis_meeting, cis_meeting, wB_cons, is_whole_int h1, is_place_int h1 h2, mtD, wdD, hw, *]
theorem is_net_ok (h1 : Has T "is_whole" fis_whole) (h2 : Has T "is_place" fis_place) (h3 : Has T "is_meeting" fis_meeting) (hT : Has T "is_net" fis_net) {m : Int} {ms : List Mt} (hm : 1 ≤ m) (h : ∀ x ∈ ms, x.ok m) : callF T n (k + 4) "is_net" [netD m ms] st = some (.bl true, st) := by
  refine callF_eq (callF_w hT rfl ?_)
  have ha := all_bls (st := st) (ms.map fun _ => true)
  have hm' : ¬ m < 1 := by omega
  simp only [List.map_map, Function.comp_def] at ha
  simp [fis_net, cis_net, wB_cons, is_whole_int h1, netD, hm']
  refine compL_ok ms mtD (fun _ => .bl true) rfl (fun x hx => ⟨_, rfl, rfl, ev_eq ?_⟩) ?_
  · simp [wipeD, is_meeting_ok h1 h2 h3 (h x hx)]
  · simp [ha]
/-! ### steps -/
structure Sp where
  k : Nat
  a : Int
  b : Int
  t : Int
  u : Int
def spD (s : Sp) : D := .tup [.int s.k, .int s.a, .int s.b, .int s.t, .int s.u]
def stepsF : Nat → List Mt → List Sp
  | _, [] => []
  | k, m :: ms => ⟨k, m.a, m.b, m.t, m.t + m.l⟩ :: ((if m.bo then [⟨k, m.b, m.a, m.t, m.t + m.l⟩] else []) ++ stepsF (k + 1) ms)
theorem steps_len : ∀ (k : Nat) (ms : List Mt), (stepsF k ms).length ≤ 2 * ms.length
  | _, [] => by simp [stepsF]
  | k, m :: ms => by
    have := steps_len (k + 1) ms
    simp only [stepsF, List.length_cons, List.length_append]
    split <;> simp <;> omega
theorem wd_both {b : Bool} : pyEq st (.val (wdD b)) (.val (.str "both")) = some b := by
  unfold wdD
  rw [pyEq_str (by cases b <;> decide +kernel) (by decide +kernel)]
  cases b <;> decide
theorem lowL_sp {m : Nat} (l : List Sp) : D.lowL m (l.map spD) = true := by
  rw [lowL_all]
  intro x hx
  obtain ⟨s, _, rfl⟩ := List.mem_map.mp hx
  simp [spD]
def stepsI (st : Sto) (net : D) (ms : List Mt) (xs : List D) (ρ : Env) (s : Sto) : Prop :=
  ∃ k' ms' done r2 r3 r4 r5 r6 r7 r8, xs = enmD k' (List.map mtD ms') ∧ s = st ++ [.lst (List.map spD done)] ∧ done ++ stepsF k' ms' = stepsF 0 ms ∧ ρ = [some net, some (.ref st.length), r2, r3, r4, r5, r6, r7, r8]
theorem steps_ok (hT : Has T "steps_of" fsteps_of) {m : Int} {ms : List Mt} (hl : ms.length ≤ 1000000) : callF T n (k + 1) "steps_of" [netD m ms] st = some (.tup ((stepsF 0 ms).map spD), st) := by
  refine callF_eq (callF_w hT rfl ?_)
  simp [fsteps_of, csteps_of, wB_cons, netD]
  have hlen := steps_len 0 ms
  refine forL_w (stepsI st (.tup [.int m, .tup (ms.map mtD)]) ms) ?_ ?_ _ _ _ ⟨0, ms, [], none, none, none, none, none, none, none, rfl, rfl, rfl, rfl⟩
  · rintro ρ s ⟨k', ms', done, r2, r3, r4, r5, r6, r7, r8, e, rfl, hd, rfl⟩
    cases ms' with
    | cons _ _ => simp [enmD] at e
    | nil =>
      simp [stepsF] at hd
      refine ⟨rfl, ?_⟩
      simp [tup_ref get_last, hd, gc_app, lowL_sp]
  · rintro x xs ρ s ⟨k', ms', done, r2, r3, r4, r5, r6, r7, r8, e, rfl, hd, rfl⟩
    cases ms' with
    | nil => simp [enmD] at e
    | cons y ms' =>
      simp only [List.map_cons, enmD_cons, List.cons.injEq] at e
      obtain ⟨rfl, rfl⟩ := e
      refine ⟨rfl, _, rfl, ?_⟩
      have hle : done.length + (stepsF k' (y :: ms')).length = (stepsF 0 ms).length := by rw [← List.length_append, hd]
      simp only [stepsF, List.length_cons, List.length_append] at hle
      have hd' : done.length < 16777216 := by omega
      have hd2 : done.length + 1 < 16777216 := by omega
      show wB _ _ _ _ _ _
      simp [wB_cons, mtD, app_ref get_last, hd', hd2, wd_both]
      cases hb : y.bo
      · simp
        exact ⟨k' + 1, ms', done ++ [⟨k', y.a, y.b, y.t, y.t + y.l⟩], _, _, _, _, _, _, _, rfl, by simp [spD], by rw [← hd]; simp [stepsF, hb], rfl⟩
      · simp
        exact ⟨k' + 1, ms', done ++ [⟨k', y.a, y.b, y.t, y.t + y.l⟩, ⟨k', y.b, y.a, y.t, y.t + y.l⟩], _, _, _, _, _, _, _, rfl, by simp [spD], by rw [← hd]; simp [stepsF, hb], rfl⟩
end
end Mw

set_option Elab.async false
set_option linter.all false
set_option autoImplicit false
/-! PyM1: earliest comings, plain. -/
namespace Mw
/-- places and moments that ways come to -/
inductive Rch (S : List Sp) (p0 m0 : Int) : Int → Int → Prop
  | here : Rch S p0 m0 p0 m0
  | go {s : Sp} {m : Int} : Rch S p0 m0 s.a m → s ∈ S → m ≤ s.t → Rch S p0 m0 s.b s.u
abbrev Tbf := Int → Option Int
def Snd (S : List Sp) (p0 m0 : Int) (f : Tbf) : Prop := ∀ p m, f p = some m → Rch S p0 m0 p m
def Cls (S : List Sp) (f : Tbf) : Prop := ∀ s ∈ S, ∀ m, f s.a = some m → m ≤ s.t → ∃ m', f s.b = some m' ∧ m' ≤ s.u
structure Right (S : List Sp) (p0 m0 : Int) (f : Tbf) : Prop where
  snd : Snd S p0 m0 f
  low : ∀ p m, Rch S p0 m0 p m → ∃ m', f p = some m' ∧ m' ≤ m
section
variable {S S' : List Sp} {p0 m0 : Int} {f g : Tbf}
theorem Rch.mono (h : ∀ s ∈ S, s ∈ S') {p m : Int} (r : Rch S p0 m0 p m) : Rch S' p0 m0 p m := by
  induction r with
  | here => exact .here
  | go _ hs hm ih => exact .go ih (h _ hs) hm
theorem Right.of (h : Snd S p0 m0 f) (h0 : ∃ m, f p0 = some m ∧ m ≤ m0) (c : Cls S f) : Right S p0 m0 f := by
  refine ⟨h, fun p m r => ?_⟩
  induction r with
  | here => exact h0
  | go _ hs hm ih =>
    obtain ⟨m', e, hl⟩ := ih
    exact c _ hs m' e (Int.le_trans hl hm)
theorem Right.mem (h : Right S p0 m0 f) (e : ∀ s, s ∈ S ↔ s ∈ S') : Right S' p0 m0 f :=
  ⟨fun p m q => (h.snd p m q).mono fun s hs => (e s).mp hs, fun p m r => h.low p m (r.mono fun s hs => (e s).mpr hs)⟩
/-! ### lowering -/
def lowers (f : Tbf) (s : Sp) : Bool := match f s.a with
  | none => false
  | some m => decide (m ≤ s.t) && (match f s.b with
    | none => true
    | some m' => decide (s.u < m'))
def lowT (f : Tbf) (s : Sp) : Tbf := fun p => if p = s.b then some s.u else f p
theorem lowers_iff {s : Sp} : lowers f s = true ↔ ∃ m, f s.a = some m ∧ m ≤ s.t ∧ ∀ m', f s.b = some m' → s.u < m' := by
  unfold lowers
  cases f s.a with
  | none => simp
  | some m =>
    cases f s.b with
    | none => simp
    | some m' => simp
/-- how much can be lowered still -/
def opn (o : Option Int) (u : Int) : Bool := match o with
  | none => true
  | some m => decide (u < m)
theorem filter_le {α : Type} {p q : α → Bool} (h : ∀ x, p x = true → q x = true) : ∀ l : List α, (l.filter p).length ≤ (l.filter q).length
  | [] => Nat.le_refl _
  | x :: xs => by
    have ih := filter_le h xs
    rw [List.filter_cons, List.filter_cons]
    by_cases hp : p x = true
    · rw [if_pos hp, if_pos (h x hp)]; simpa using ih
    · rw [if_neg hp]
      by_cases hq : q x = true
      · rw [if_pos hq]; exact Nat.le_succ_of_le ih
      · rw [if_neg hq]; exact ih
theorem filter_lt {α : Type} {p q : α → Bool} (h : ∀ x, p x = true → q x = true) {s : α} (h0 : p s = false) (h1 : q s = true) : ∀ l : List α, s ∈ l → (l.filter p).length < (l.filter q).length
  | [], hs => nomatch hs
  | x :: xs, hs => by
    rw [List.filter_cons, List.filter_cons]
    rcases List.mem_cons.mp hs with rfl | hs
    · rw [if_neg (by simp [h0]), if_pos h1]
      exact Nat.lt_succ_of_le (filter_le h xs)
    · have ih := filter_lt h h0 h1 xs hs
      by_cases hp : p x = true
      · rw [if_pos hp, if_pos (h x hp)]; simpa using ih
      · rw [if_neg hp]
        by_cases hq : q x = true
        · rw [if_pos hq]; exact Nat.lt_succ_of_lt ih
        · rw [if_neg hq]; exact ih
/-! ### tables -/
def tf (l : List (Option Int)) : Tbf := fun p => if 0 ≤ p then (l[p.toNat]?).join else none
end
end Mw

set_option Elab.async false
set_option linter.all false
set_option autoImplicit false
set_option maxRecDepth 100000
/-! PyF2: draws. -/
namespace Mw
open PySem
/-! ### decks -/
def deckO (a b c : Int) : O := .lst [.int a, .int b, .int c]
structure Dk (B : Nat) (st : Sto) (r : Nat) : Prop where
  ex : ∃ a b c, st[r]? = some (deckO a b c) ∧ 0 ≤ b ∧ b < 2 ^ 40 ∧ 0 ≤ c ∧ c ≤ B
/-- a deck drawn from, all else as it was -/
def Upd (r : Nat) (st st' : Sto) : Prop := st' = st ∨ ∃ a b c, st' = st.set r (deckO a b c)
section
variable {st st' s2 g : Sto} {r B : Nat}
theorem Upd.refl : Upd r st st := .inl rfl
theorem Upd.trans (h : Upd r st st') (h2 : Upd r st' s2) : Upd r st s2 := by
  rcases h with rfl | ⟨a, b, c, rfl⟩
  · exact h2
  · rcases h2 with rfl | ⟨a', b', c', rfl⟩
    · exact .inr ⟨a, b, c, rfl⟩
    · exact .inr ⟨a', b', c', List.set_set ..⟩
theorem Upd.len (h : Upd r st st') : st'.length = st.length := by
  rcases h with rfl | ⟨a, b, c, rfl⟩ <;> simp
theorem Upd.get (h : Upd r st st') {j : Nat} (hj : j ≠ r) : st'[j]? = st[j]? := by
  rcases h with rfl | ⟨a, b, c, rfl⟩
  · rfl
  · rw [List.getElem?_set_ne (Ne.symm hj)]
theorem deck_low {a b c : Int} {m : Nat} : (deckO a b c).low m = true := by simp [deckO, O.low]
theorem Dk.lt (h : Dk B st r) : r < st.length := by
  obtain ⟨a, b, c, e, _⟩ := h.ex
  exact (List.getElem?_eq_some_iff.mp e).1
theorem Dk.mono {B' : Nat} (h : Dk B st r) (hb : B ≤ B') : Dk B' st r := by
  obtain ⟨a, b, c, e, h1, h2, h3, h4⟩ := h.ex
  exact ⟨a, b, c, e, h1, h2, h3, by omega⟩
@[simp] theorem gc_deck {d : D} {a b c : Int} (hd : d.low st.length = true) : gc st d (st.set r (.lst [.int a, .int b, .int c])) = (d, st.set r (deckO a b c)) := gc_val' (Sta.refl.set (deck_low (a := a) (b := b) (c := c))) hd
theorem put_ref {xs : List D} {i : Int} {v : D} {n : Nat} (h : st[n]? = some (.lst xs)) : putApp st (.val (.ref n)) (.val (.int i)) v = (L2.ixN xs.length i).map fun j => st.set n (.lst (xs.set j v)) := by
  simp only [putApp, h]
theorem mulOk_l {i j : Int} (h : -(2 ^ 64) < i) (h2 : i < 2 ^ 64) : mulOk i j = true := decide_eq_true (.inl ⟨h, h2⟩)
theorem mulOk_r {i j : Int} (h : -(2 ^ 64) < j) (h2 : j < 2 ^ 64) : mulOk i j = true := decide_eq_true (.inr ⟨h, h2⟩)
end
section
variable {T : Tab} {n k : Nat} {st : Sto} {r B : Nat}
end
section
variable {T : Tab} {n k : Nat} {st : Sto} {r B : Nat}
theorem plL_mt {l : List Mt} : plL 59 (l.map mtD) = true := by
  rw [plL_all]
  intro x hx
  obtain ⟨m, _, rfl⟩ := List.mem_map.mp hx
  cases hb : m.bo <;> simp [mtD, wdD, pl, plL, hb] <;> decide +kernel
theorem nbL_mt {l : List Mt} : nbL (l.map mtD) = true := by
  rw [nbL_all]
  intro x hx
  obtain ⟨m, _, rfl⟩ := List.mem_map.mp hx
  simp [mtD, wdD, nb, nbL]
def Mt.sm (m : Mt) : Prop := m.t ≤ 10 ^ 13 ∧ m.l ≤ 10 ^ 13
end
end Mw

set_option Elab.async false
set_option linter.all false
set_option autoImplicit false
set_option maxRecDepth 100000
/-! PyF3: nets drawn. -/
namespace Mw
open PySem
section
variable {T : Tab} {n k : Nat} {st : Sto} {r B : Nat}
@[simp] theorem rangeD_len {lo : Int} {n : Nat} : (rangeD lo n).length = n := by simp [rangeD]
end
end Mw

set_option Elab.async false
set_option linter.all false
set_option autoImplicit false
set_option maxRecDepth 100000
/-! PyF4: sameness; the law's own steps. -/
namespace Mw
open PySem
mutual
/-- what sameness is asked of: tuples to a depth -/
def sv : Nat → D → Bool
  | _, .int _ => true
  | _, .non => true
  | _, .str s => stOk s
  | k, .tup xs => match k with
    | 0 => false
    | k + 1 => svL k xs
  | _, _ => false
def svL : Nat → List D → Bool
  | _, [] => true
  | k, x :: xs => sv k x && svL k xs
end
section
variable {T : Tab} {n k : Nat} {st : Sto} {r B : Nat}
end
end Mw

set_option Elab.async false
set_option linter.all false
set_option autoImplicit false
set_option maxRecDepth 100000
/-! PyF5: texts of nets, read. -/
namespace Mw
open PySem
def cis_number_word : CSs := (.cons (.ite (.or (.cmp .eq (.var 0) (.cst (.str ""))) (.not (.bi .all (.cons (.comp (.nm 1) (.ex (.var 0)) .nil (.cmp .isin (.var 1) (.cst (.str "0123456789"))) [1]) .nil)))) (.cons (.ret (.cst (.bl false))) .nil) .nil) (.cons (.ret (.or (.cmp .ne (.idx (.var 0) (.cst (.int 0))) (.cst (.str "0"))) (.cmp .eq (.var 0) (.cst (.str "0"))))) .nil))
def fis_number_word : Fd := ⟨1, 2, cis_number_word⟩
def cread_number : CSs := (.cons (.ite (.not (.call "is_number_word" (.cons (.var 0) .nil))) (.cons .bad .nil) .nil) (.cons (.ret (.bi .int (.cons (.var 0) .nil))) .nil))
def fread_number : Fd := ⟨1, 1, cread_number⟩
def cread_meeting : CSs := (.cons (.asg (.nm 1) (.mt .split (.var 0) (.cons (.cst (.str " ")) .nil))) (.cons (.ret (.bin .add (.tup (.cons (.idx (.var 1) (.cst (.int 0))) .nil)) (.bi .tuple (.cons (.comp (.nm 2) (.ex (.sli (.var 1) (.cons (.cst (.int 1)) .nil) .nil)) .nil (.call "read_number" (.cons (.var 2) .nil)) [2]) .nil)))) .nil))
def fread_meeting : Fd := ⟨1, 3, cread_meeting⟩
def cread_net : CSs := (.cons (.ite (.not (.isi (.var 0) .str)) (.cons .bad .nil) .nil) (.cons (.asg (.nm 1) (.mt .split (.var 0) (.cons (.cst (.str "\n")) .nil))) (.cons (.asg (.nm 2) (.mt .split (.idx (.var 1) (.cst (.int 0))) (.cons (.cst (.str " ")) .nil))) (.cons (.ite (.or (.cmp .ne (.bi .len (.cons (.var 2) .nil)) (.cst (.int 2))) (.cmp .ne (.idx (.var 2) (.cst (.int 0))) (.cst (.str "places")))) (.cons .bad .nil) .nil) (.cons (.asg (.nm 3) (.tup (.cons (.call "read_number" (.cons (.idx (.var 2) (.cst (.int 1))) .nil)) (.cons (.bi .tuple (.cons (.comp (.nm 4) (.ex (.sli (.var 1) (.cons (.cst (.int 1)) .nil) .nil)) .nil (.call "read_meeting" (.cons (.var 4) .nil)) [4]) .nil)) .nil)))) (.cons (.ite (.not (.call "is_net" (.cons (.var 3) .nil))) (.cons .bad .nil) .nil) (.cons (.ret (.var 3)) .nil)))))))
def fread_net : Fd := ⟨1, 5, cread_net⟩
/-! ### figures -/
def numS (n : Nat) : Str := Str.ofString (toString (n : Int))
theorem numS_tl (n : Nat) : TL.tl (numS n) = TL.numL n := TL.tl_num n
theorem numL_ok (n : Nat) : ∀ c ∈ TL.numL n, 48 ≤ c ∧ c ≤ 57 := TL.numL_digits n
theorem head_ne0 : ∀ {n : Nat}, 0 < n → ∀ {c : Nat} {r : List Nat}, TL.numL n = c :: r → c ≠ 48 := by
  intro n
  induction n using Nat.strongRecOn with
  | _ n ih =>
    intro hn c r h
    by_cases hl : n < 10
    · rw [TL.numL_lt hl] at h
      cases h; omega
    · rw [TL.numL_step (by omega)] at h
      cases hq : TL.numL (n / 10) with
      | nil => exact absurd hq (TL.numL_ne _)
      | cons d s =>
        rw [hq] at h
        cases h
        exact ih (n / 10) (by omega) (by omega) hq
theorem sign_in {st : Sto} {c : Nat} (h : 48 ≤ c ∧ c ≤ 57) : inApp st (.val (.str ⟨#[c]⟩)) (.val (.str "0123456789")) = some true := by
  obtain rfl | rfl | rfl | rfl | rfl | rfl | rfl | rfl | rfl | rfl : c = 48 ∨ c = 49 ∨ c = 50 ∨ c = 51 ∨ c = 52 ∨ c = 53 ∨ c = 54 ∨ c = 55 ∨ c = 56 ∨ c = 57 := by omega
  all_goals
    simp only [inApp]
    decide +kernel
theorem stOk_of {w : Str} (h : ∀ c ∈ TL.tl w, c < 1114112) : stOk w = true := by
  unfold stOk
  rw [← Array.all_toList, List.all_eq_true]
  intro c hc
  exact decide_eq_true (h c hc)
section
variable {T : Tab} {n k : Nat} {st : Sto}
theorem isnum_ok (hT : Has T "is_number_word" fis_number_word) {w : Str} {c0 : Nat} {r : List Nat} (hw : TL.tl w = c0 :: r) (hd : ∀ c ∈ TL.tl w, 48 ≤ c ∧ c ≤ 57) (h0 : c0 ≠ 48 ∨ w = "0") (hl : w.length ≤ 1000) : callF T n (k + 1) "is_number_word" [.str w] st = some (.bl true, st) := by
  refine callF_eq (callF_f hT rfl ?_)
  have hok : stOk w = true := stOk_of fun c hc => by have := hd c hc; omega
  have hne : w ≠ "" := fun e => by rw [e] at hw; cases hw
  have e1 : ∀ s, pyEq s (.val (.str w)) (.val (.str "")) = some false := fun s => by rw [pyEq_str hok (by decide +kernel)]; simp [hne]
  have hcs : w.cps.toList = c0 :: r := hw
  have hz : szOk w.length = true := decide_eq_true (by omega)
  have e2 : ∀ s, pyEq s (.val (.str ⟨#[c0]⟩)) (.val (.str "0")) = some (decide (c0 = 48)) := fun s => by
    have hc0 := hd c0 (by rw [hw]; exact List.mem_cons_self ..)
    rw [pyEq_str (stOk_of fun c hc => by rw [show TL.tl ⟨#[c0]⟩ = [c0] from rfl] at hc; rw [List.mem_singleton.mp hc]; omega) (by decide +kernel)]
    congr 1
    refine decide_eq_decide.mpr ⟨fun e => ?_, fun e => by rw [e]; rfl⟩
    have := congrArg TL.tl e
    have h2 : TL.tl ⟨#[c0]⟩ = [48] := this
    have h3 : [c0] = [48] := h2
    cases h3; rfl
  have e3 : ∀ s, pyEq s (.val (.str w)) (.val (.str "0")) = some (decide (w = "0")) := fun s => pyEq_str hok (by decide +kernel)
  simp [fis_number_word, cis_number_word, wB_cons, e1, srcOf, hz]
  refine ⟨hz, compL_ok w.cps.toList _ (fun _ => .bl true) rfl (fun c hc => ⟨_, rfl, rfl, ev_eq ?_⟩) ?_⟩
  · simp [wipeD, sign_in (hd c hc)]
  · have ha := all_bls (st := st) (w.cps.toList.map fun _ => true)
    simp only [List.map_map, Function.comp_def, hcs, List.map_cons] at ha
    simp [ha, idxApp, hz, hcs, e2, e3]
    rcases h0 with h0 | h0
    · simp [h0]
    · by_cases h1 : c0 = 48
      · simp [h1, h0]
      · simp [h1]
theorem readnum_ok (hT : Has T "is_number_word" fis_number_word) (hR : Has T "read_number" fread_number) {v : Nat} (hv : v < 10 ^ 300) : callF T n (k + 2) "read_number" [.str (numS v)] st = some (.int v, st) := by
  have hlen : (TL.numL v).length ≤ 300 := TL.numL_len (by decide) hv
  have hl : (numS v).length ≤ 300 := by rw [TL.len_tl, numS_tl]; exact hlen
  have hi : intText? (numS v) = some (v : Int) := TL.int_num (by omega)
  have hb : biApp st .int [.val (.str (numS v))] = some (.val (.int v)) := by
    simp only [biApp, biInt]
    rw [if_pos (decide_eq_true (by omega)), hi]; rfl
  obtain ⟨c0, r, hc⟩ : ∃ c0 r, TL.numL v = c0 :: r := by
    cases h : TL.numL v with
    | nil => exact absurd h (TL.numL_ne v)
    | cons c r => exact ⟨c, r, rfl⟩
  have h0 : c0 ≠ 48 ∨ numS v = "0" := by
    by_cases hz : v = 0
    · subst hz; exact .inr (by decide +kernel)
    · exact .inl (head_ne0 (by omega) hc)
  refine callF_eq (callF_f hR rfl ?_)
  have h1 := isnum_ok (k := k) (n := n) (st := st) hT (w := numS v) (by rw [numS_tl]; exact hc) (by rw [numS_tl]; exact numL_ok v) h0 (by omega)
  simp [fread_number, cread_number, wB_cons, h1, hb]
theorem cutD_from {xs : List D} {k : Nat} : cutD xs (some (k : Int)) none = xs.drop k := by
  unfold cutD
  rw [HT.sIx_nat, HT.sIx_none]
  by_cases h : k ≤ xs.length
  · rw [Nat.min_eq_left h, List.take_of_length_le (by rw [List.length_drop]; omega)]
  · rw [Nat.min_eq_right (by omega), List.drop_eq_nil_of_le (Nat.le_refl _), List.drop_eq_nil_of_le (by omega)]; simp
theorem cutD_to {xs : List D} {k : Nat} : cutD xs none (some (k : Int)) = xs.take k := by
  unfold cutD
  rw [HT.sIx_nat, HT.sIx_none, List.drop_zero, Nat.sub_zero]
  by_cases h : k ≤ xs.length
  · rw [Nat.min_eq_left h]
  · rw [Nat.min_eq_right (by omega), List.take_of_length_le (Nat.le_refl _), List.take_of_length_le (by omega)]
theorem sli_ref {xs : List D} {q : Nat} {lo hi : Option Int} (h : st[q]? = some (.lst xs)) : sliApp st (.val (.ref q)) lo hi = some (.tmp (cutD xs lo hi)) := by
  simp [sliApp, listOf, h]
theorem joinL_mem {S : List Nat} {c : Nat} : ∀ {ps : List (List Nat)}, c ∈ TL.joinL S ps → c ∈ S ∨ ∃ p ∈ ps, c ∈ p
  | [], h => by simp [TL.joinL] at h
  | [p], h => .inr ⟨p, List.mem_cons_self .., h⟩
  | p :: q :: r, h => by
    have h : c ∈ p ++ (S ++ TL.joinL S (q :: r)) := h
    rcases List.mem_append.mp h with h | h
    · exact .inr ⟨p, List.mem_cons_self .., h⟩
    · rcases List.mem_append.mp h with h | h
      · exact .inl h
      · rcases joinL_mem h with h | ⟨x, hx, h⟩
        · exact .inl h
        · exact .inr ⟨x, List.mem_cons_of_mem _ hx, h⟩
theorem joinL_len {S : List Nat} {B : Nat} : ∀ {ps : List (List Nat)}, (∀ p ∈ ps, p.length ≤ B) → (TL.joinL S ps).length ≤ ps.length * (B + S.length)
  | [], _ => by simp [TL.joinL]
  | [p], h => by
    have := h p (List.mem_cons_self ..)
    show p.length ≤ 1 * (B + S.length)
    omega
  | p :: q :: r, h => by
    have h1 := h p (List.mem_cons_self ..)
    have ih := joinL_len (S := S) (B := B) (ps := q :: r) fun x hx => h x (List.mem_cons_of_mem _ hx)
    show (p ++ (S ++ TL.joinL S (q :: r))).length ≤ _
    rw [List.length_append, List.length_append, List.length_cons (a := p), Nat.succ_mul]
    omega
theorem join_tl (y : Str) (ps : List Str) : TL.tl (Txt.join y ps) = TL.joinL (TL.tl y) (ps.map TL.tl) := by rw [TL.join_eq, TL.tl_join]
theorem mt_split {s b : Str} (h1 : (b.length == 0) = false) (h2 : s.length + 2 ≤ 16777216) : mtApp st .split (.val (.str s)) [.val (.str b)] = some (.tmp ((Txt.split s b).map .str), st) := by
  simp only [mtApp, mtSplit]
  rw [if_pos ⟨h1, decide_eq_true h2⟩]
def wdS (b : Bool) : Str := if b then "both" else "to"
def lineP (m : Mt) : List Str := [wdS m.bo, numS m.a.toNat, numS m.b.toNat, numS m.t.toNat, numS m.l.toNat]
def lineS (m : Mt) : Str := Txt.join " " (lineP m)
/-- numbers that are written and read -/
def Mt.tx (m : Mt) : Prop := (0 ≤ m.a ∧ m.a.toNat < 10 ^ 300) ∧ (0 ≤ m.b ∧ m.b.toNat < 10 ^ 300) ∧ (0 ≤ m.t ∧ m.t.toNat < 10 ^ 300) ∧ (0 ≤ m.l ∧ m.l.toNat < 10 ^ 300)
theorem wdS_free {b : Bool} {c : Nat} (h : c < 97) : c ∉ TL.tl (wdS b) := by
  intro hc
  have : ∀ b : Bool, (TL.tl (wdS b)).all (fun c => decide (97 ≤ c)) = true := by decide +kernel
  have := List.all_eq_true.mp (this b) c hc
  simp at this; omega
theorem lineP_free {m : Mt} {c : Nat} (h : c < 48) : ∀ p ∈ lineP m, c ∉ TL.tl p := by
  intro p hp
  simp only [lineP, List.mem_cons, List.not_mem_nil, or_false] at hp
  rcases hp with rfl | rfl | rfl | rfl | rfl
  · exact wdS_free (by omega)
  all_goals
    rw [numS_tl]; exact TL.numL_free (.inl h)
theorem lineP_len {m : Mt} (h : m.tx) : ∀ p ∈ lineP m, (TL.tl p).length ≤ 300 := by
  intro p hp
  simp only [lineP, List.mem_cons, List.not_mem_nil, or_false] at hp
  obtain ⟨h1, h2, h3, h4⟩ := h
  rcases hp with rfl | rfl | rfl | rfl | rfl
  · cases m.bo <;> decide +kernel
  · rw [numS_tl]; exact TL.numL_len (by decide) h1.2
  · rw [numS_tl]; exact TL.numL_len (by decide) h2.2
  · rw [numS_tl]; exact TL.numL_len (by decide) h3.2
  · rw [numS_tl]; exact TL.numL_len (by decide) h4.2
theorem lineS_len {m : Mt} (h : m.tx) : (lineS m).length ≤ 1505 := by
  rw [TL.len_tl, lineS, join_tl]
  refine Nat.le_trans (joinL_len (B := 300) fun p hp => ?_) ?_
  · obtain ⟨q, hq, rfl⟩ := List.mem_map.mp hp
    exact lineP_len h q hq
  · rw [List.length_map, show (TL.tl (Str.ofString " ")).length = 1 from by decide +kernel]
    simp [lineP]
theorem line_split {m : Mt} : Txt.split (lineS m) " " = lineP m := TL.split_join (s := 32) (S := []) (by decide +kernel) (by decide +kernel) (by simp [lineP]) (lineP_free (by decide))
theorem read_meeting_ok (hI : Has T "is_number_word" fis_number_word) (hR : Has T "read_number" fread_number) (hT : Has T "read_meeting" fread_meeting) {m : Mt} (h : m.tx) : callF T n (k + 3) "read_meeting" [.str (lineS m)] st = some (mtD m, st) := by
  refine callF_eq (callF_f hT rfl ?_)
  have hl := lineS_len h
  have hs : ∀ s : Sto, mtApp s .split (.val (.str (lineS m))) [.val (.str " ")] = some (.tmp ((lineP m).map .str), s) := fun s => by rw [mt_split (by decide +kernel) (by omega), line_split]
  obtain ⟨h1, h2, h3, h4⟩ := h
  have hc : ∀ a b c d e : D, cutD [a, b, c, d, e] (some 1) none = [b, c, d, e] := fun a b c d e => cutD_from (k := 1)
  simp [fread_meeting, cread_meeting, wB_cons, hs, idx_ref get_last, sli_ref get_last, lineP, hc]
  refine compL_ok [m.a.toNat, m.b.toNat, m.t.toNat, m.l.toNat] (fun v => .str (numS v)) (fun v => .int v) rfl (fun v hv => ⟨_, rfl, rfl, ev_eq ?_⟩) ?_
  · have hv' : v < 10 ^ 300 := by
      simp only [List.mem_cons, List.not_mem_nil, or_false] at hv
      rcases hv with rfl | rfl | rfl | rfl
      · exact h1.2
      · exact h2.2
      · exact h3.2
      · exact h4.2
    simp [wipeD, readnum_ok hI hR hv']
  · have hg := gc_app (st := st) (g := [.lst [.str (wdS m.bo), .str (numS m.a.toNat), .str (numS m.b.toNat), .str (numS m.t.toNat), .str (numS m.l.toNat)]]) (d := .tup [.str (wdS m.bo), .int m.a, .int m.b, .int m.t, .int m.l]) (by simp)
    simp only [List.map_cons, List.map_nil, Int.toNat_of_nonneg h1.1, Int.toNat_of_nonneg h2.1, Int.toNat_of_nonneg h3.1, Int.toNat_of_nonneg h4.1]
    refine ⟨by simp [szOk], ?_⟩
    rw [hg]
    exact ⟨rfl, rfl⟩
def headP (m : Nat) : List Str := ["places", numS m]
def netP (m : Nat) (ms : List Mt) : List Str := Txt.join " " (headP m) :: ms.map lineS
def netS (m : Nat) (ms : List Mt) : Str := Txt.join "\n" (netP m ms)
theorem headP_free {m c : Nat} (h : c < 48) : ∀ p ∈ headP m, c ∉ TL.tl p := by
  intro p hp
  simp only [headP, List.mem_cons, List.not_mem_nil, or_false] at hp
  rcases hp with rfl | rfl
  · intro hc
    have : (TL.tl (Str.ofString "places")).all (fun c => decide (97 ≤ c)) = true := by decide +kernel
    have := List.all_eq_true.mp this c hc
    simp at this; omega
  · rw [numS_tl]; exact TL.numL_free (.inl h)
theorem netP_free {m : Nat} {ms : List Mt} : ∀ p ∈ netP m ms, 10 ∉ TL.tl p := by
  have hsp : TL.tl (Str.ofString " ") = [32] := by decide +kernel
  intro p hp hc
  rcases List.mem_cons.mp hp with rfl | hp
  · rw [join_tl, hsp] at hc
    rcases joinL_mem hc with h | ⟨q, hq, h⟩
    · simp at h
    · obtain ⟨z, hz, rfl⟩ := List.mem_map.mp hq
      exact headP_free (by decide) z hz h
  · obtain ⟨x, _, rfl⟩ := List.mem_map.mp hp
    rw [lineS, join_tl, hsp] at hc
    rcases joinL_mem hc with h | ⟨q, hq, h⟩
    · simp at h
    · obtain ⟨z, hz, rfl⟩ := List.mem_map.mp hq
      exact lineP_free (by decide) z hz h
theorem head_len {m : Nat} (h : m < 10 ^ 300) : (Txt.join " " (headP m)).length ≤ 1505 := by
  rw [TL.len_tl, join_tl]
  refine Nat.le_trans (joinL_len (B := 300) fun p hp => ?_) ?_
  · obtain ⟨q, hq, rfl⟩ := List.mem_map.mp hp
    simp only [headP, List.mem_cons, List.not_mem_nil, or_false] at hq
    rcases hq with rfl | rfl
    · decide +kernel
    · rw [numS_tl]; exact TL.numL_len (by decide) h
  · rw [List.length_map, show (TL.tl (Str.ofString " ")).length = 1 from by decide +kernel]
    simp [headP]
theorem netS_len {m : Nat} {ms : List Mt} (h : m < 10 ^ 300) (hm : ∀ x ∈ ms, x.tx) : (netS m ms).length ≤ (ms.length + 1) * 1506 := by
  rw [TL.len_tl, netS, join_tl]
  refine Nat.le_trans (joinL_len (B := 1505) fun p hp => ?_) ?_
  · obtain ⟨q, hq, rfl⟩ := List.mem_map.mp hp
    rw [← TL.len_tl]
    rcases List.mem_cons.mp hq with rfl | hq
    · exact head_len h
    · obtain ⟨x, hx, rfl⟩ := List.mem_map.mp hq
      exact lineS_len (hm x hx)
  · rw [List.length_map, show (TL.tl (Str.ofString "\n")).length = 1 from by decide +kernel]
    simp [netP]
theorem net_split {m : Nat} {ms : List Mt} : Txt.split (netS m ms) "\n" = netP m ms := TL.split_join (s := 10) (S := []) (by decide +kernel) (by decide +kernel) (by simp [netP]) netP_free
theorem head_split {m : Nat} : Txt.split (Txt.join " " (headP m)) " " = headP m := TL.split_join (s := 32) (S := []) (by decide +kernel) (by decide +kernel) (by simp [headP]) (headP_free (by decide))
theorem read_net_ok (hI : Has T "is_number_word" fis_number_word) (hR : Has T "read_number" fread_number) (hM : Has T "read_meeting" fread_meeting) (h1 : Has T "is_whole" fis_whole) (h2 : Has T "is_place" fis_place) (h3 : Has T "is_meeting" fis_meeting) (h4 : Has T "is_net" fis_net) (hT : Has T "read_net" fread_net)
    {m : Nat} {ms : List Mt} (hm : 1 ≤ m) (hm2 : m < 10 ^ 300) (hl : ms.length ≤ 10000) (htx : ∀ x ∈ ms, x.tx) (hok : ∀ x ∈ ms, x.ok m) : callF T n (k + 5) "read_net" [.str (netS m ms)] st = some (netD m ms, st) := by
  refine callF_eq (callF_f hT rfl ?_)
  have hlen := netS_len hm2 htx
  have hhl := head_len hm2
  have hs : ∀ s : Sto, mtApp s .split (.val (.str (netS m ms))) [.val (.str "\n")] = some (.tmp ((netP m ms).map .str), s) := fun s => by rw [mt_split (by decide +kernel) (by omega), net_split]
  have hs2 : ∀ s : Sto, mtApp s .split (.val (.str (Txt.join " " (headP m)))) [.val (.str " ")] = some (.tmp ((headP m).map .str), s) := fun s => by rw [mt_split (by decide +kernel) (by omega), head_split]
  have hp : ∀ s : Sto, pyEq s (.val (.str "places")) (.val (.str "places")) = some true := fun s => by rw [pyEq_str (by decide +kernel) (by decide +kernel)]; simp
  have hn := fun s => is_net_ok (k := k) (n := n) (st := s) (m := (m : Int)) (ms := ms) h1 h2 h3 h4 (by omega) hok
  have g0 : ∀ a b : O, (st ++ [a, b])[st.length]? = some a := fun a b => by rw [List.getElem?_append_right (Nat.le_refl _)]; simp
  have g1 : ∀ a b : O, (st ++ [a, b])[st.length + 1]? = some b := fun a b => by rw [List.getElem?_append_right (by omega)]; simp
  simp only [headP] at hs2
  have hc : ∀ (a : D) (l : List D), cutD (a :: l) (some 1) none = l := fun a l => cutD_from (k := 1)
  have hr := fun s => readnum_ok (k := k + 2) (n := n) (st := s) hI hR hm2
  simp [fread_net, cread_net, wB_cons, hs, idx_ref get_last, netP, hs2, idx_ref (g0 _ _), idx_ref (g1 _ _), sli_ref (g0 _ _), len_ref (g1 _ _), headP, hp, hr, hc]
  refine compL_ok ms _ mtD rfl (fun x hx => ⟨_, rfl, rfl, ev_eq ?_⟩) ?_
  · have := fun s => read_meeting_ok (k := k + 1) (n := n) (st := s) hI hR hM (htx x hx)
    simp [wipeD, this]
  · simp only [netD] at hn ⊢
    simp [hn]
    rw [gc_app]
    · exact ⟨rfl, rfl⟩
    · simp
      rw [lowL_all]
      intro x hx
      obtain ⟨y, _, rfl⟩ := List.mem_map.mp hx
      simp [mtD, wdD]
end
end Mw

set_option Elab.async false
set_option linter.all false
set_option autoImplicit false
set_option maxRecDepth 100000
/-! PyF6: small things for the laws themselves. -/
namespace Mw
open PySem
section
variable {st : Sto}
@[simp] theorem bin_addL {a b : List D} : binApp st .add (.tmp a) (.tmp b) = if szOk (a.length + b.length) = true then some (.tmp (a ++ b)) else none := rfl
theorem gc_fst_bl {s : Sto} {b : Bool} : (gc st (.bl b) s).1 = .bl b := by
  unfold gc
  split
  · simp
  · rfl
theorem join_app {s : Sto} {y : Str} {ys : List Str} (h : (ys.map (·.length)).sum + ys.length * y.length ≤ 16777216) : mtApp s .join (.val (.str y)) [.tmp (ys.map .str)] = some (.val (.str (Txt.join y ys)), s) := by
  have h1 : strsOf (ys.map D.str) = some ys := by
    clear h
    induction ys with
    | nil => rfl
    | cons x xs ih =>
      unfold strsOf at ih ⊢
      simp only [List.map_cons, mapO, ih]
  simp only [mtApp, mtJoin, seqOf, h1]
  rw [if_pos (decide_eq_true h)]
theorem sum_le {B : Nat} : ∀ {l : List Str}, (∀ x ∈ l, x.length ≤ B) → (l.map (·.length)).sum ≤ l.length * B
  | [], _ => by simp
  | x :: xs, h => by
    have h1 := h x (List.mem_cons_self ..)
    have ih := sum_le fun y hy => h y (List.mem_cons_of_mem x hy)
    simp only [List.map_cons, List.sum_cons, List.length_cons, Nat.succ_mul]
    omega
end
end Mw

set_option Elab.async false
set_option linter.all false
set_option autoImplicit false
set_option maxRecDepth 100000
/-! PyF7: nets written. -/
namespace Mw
open PySem
theorem pow300 : 10 ^ 300 ≤ 2 ^ 1200 := by
  have h := Nat.pow_le_pow_left (show 10 ≤ 2 ^ 4 by decide) 300
  rw [← Nat.pow_mul] at h
  exact h
section
variable {T : Tab} {n k : Nat} {st : Sto}
theorem str_nat {v : Nat} (h : v < 10 ^ 300) : biApp st .str [.val (.int (v : Int))] = some (.val (.str (numS v))) := by
  have hl : v.log2 < 1920 := by
    by_cases h0 : v = 0
    · subst h0; decide
    · exact Nat.lt_of_lt_of_le ((Nat.log2_lt h0).mpr (Nat.lt_of_lt_of_le h pow300)) (by decide)
  simp only [biApp, biStr, strInt]
  rw [if_pos (by simpa using hl)]
  rfl
theorem str_z {z : Int} (h : 0 ≤ z ∧ z.toNat < 10 ^ 300) : biApp st .str [.val (.int z)] = some (.val (.str (numS z.toNat))) := by
  have := str_nat (st := st) h.2
  rwa [Int.toNat_of_nonneg h.1] at this
theorem head_txt (m : Nat) : Str.ofString "places " ++ numS m = Txt.join " " (headP m) := by
  refine TL.ext_tl ?_
  rw [TL.tl_append, join_tl]
  have h1 : TL.tl (Str.ofString "places ") = TL.tl (Str.ofString "places") ++ [32] := by decide +kernel
  have h2 : TL.tl (Str.ofString " ") = [32] := by decide +kernel
  rw [h1, h2]
  simp [headP, TL.joinL]
/-- the parts of a meeting, written -/
def partsM (m : Mt) : List (D × Str) := [(wdD m.bo, wdS m.bo), (.int m.a, numS m.a.toNat), (.int m.b, numS m.b.toNat), (.int m.t, numS m.t.toNat), (.int m.l, numS m.l.toNat)]
theorem line_join {m : Mt} (h : m.tx) : mtApp st .join (.val (.str " ")) [.tmp ((partsM m).map fun z => .str z.2)] = some (.val (.str (lineS m)), st) := by
  have e : ((partsM m).map fun z => D.str z.2) = (lineP m).map .str := rfl
  have hl : ∀ x ∈ lineP m, x.length ≤ 300 := fun x hx => by rw [TL.len_tl]; exact lineP_len h x hx
  have hs := sum_le hl
  have h5 : (lineP m).length = 5 := rfl
  have h1 : (Str.ofString " ").length = 1 := by decide +kernel
  rw [e, join_app (by rw [h1]; omega)]
  rfl
end
end Mw

set_option Elab.async false
set_option linter.all false
set_option autoImplicit false
set_option maxRecDepth 100000
/-! PyF8: texts are texts; sameness of nets. -/
namespace Mw
open PySem
theorem lowL_mt {j : Nat} {ms : List Mt} : D.lowL j (ms.map mtD) = true := by
  rw [lowL_all]
  intro x hx
  obtain ⟨y, _, rfl⟩ := List.mem_map.mp hx
  simp [mtD, wdD]
section
variable {T : Tab} {n k : Nat} {st : Sto} {r B : Nat}
end
end Mw

set_option Elab.async false
set_option linter.all false
set_option autoImplicit false
set_option maxRecDepth 100000
/-! PyW3: sorted rows of whole numbers; shown data. -/
namespace Mw
open PySem
section
variable {st : Sto}
theorem alike_ints : ∀ xs ys : List Int, PySem.W.alikeAll (xs.map PyData.int) (ys.map PyData.int) = true
  | [], _ => by simp [PySem.W.alikeAll]
  | _ :: _, [] => by simp [PySem.W.alikeAll]
  | x :: xs, y :: ys => by simp [PySem.W.alikeAll, PySem.W.alike, alike_ints xs ys]
theorem pl_ints : ∀ (k : Nat) (xs : List Int), plL k (xs.map D.int) = true
  | _, [] => rfl
  | k, x :: xs => by
    have := pl_ints k xs
    cases k <;> simp_all [plL, pl]
theorem mapO_of {α γ : Type} {f : α → Option γ} {g : α → γ} : ∀ {l : List α}, (∀ a ∈ l, f a = some (g a)) → mapO f l = some (l.map g)
  | [], _ => rfl
  | x :: xs, h => by
    simp only [mapO, h x List.mem_cons_self, mapO_of fun a ha => h a (List.mem_cons_of_mem _ ha), List.map_cons]
/-! ### shown -/
theorem repr_val {d : D} (h : pl 60 d = true) (h2 : (pd d).showable = true) (h3 : (pd d).shown.length ≤ 16777216) : biApp st .repr [.val d] = some (.val (.str (pd d).shown)) := by
  simp [biApp, biRepr, rvPy, toPy_pd 60 d h, h2, h3]
end
end Mw

set_option Elab.async false
set_option linter.all false
set_option autoImplicit false
set_option maxRecDepth 100000
/-! PyW4: plain values are shown. -/
namespace Mw
open PySem
mutual
def shOk : D → Bool
  | .non | .bl _ => true
  | .int i => decide (i.natAbs < 10 ^ 300)
  | .str s => decide (s = Str.ofString "to") || decide (s = Str.ofString "both")
  | .tup xs => shOkL xs
  | .rol _ | .ref _ => false
def shOkL : List D → Bool
  | [] => true
  | x :: xs => shOk x && shOkL xs
end
mutual
def wt : D → Nat
  | .tup xs => 3 + wtL xs
  | _ => 1200
def wtL : List D → Nat
  | [] => 0
  | x :: xs => wt x + 2 + wtL xs
end
def asc (s : Str) : Prop := ∀ c ∈ TL.tl s, c < 1114112
theorem asc_app {a b : Str} (h : asc a) (g : asc b) : asc (a ++ b) := fun c hc => by
  rw [TL.tl_append] at hc
  rcases List.mem_append.mp hc with q | q
  · exact h c q
  · exact g c q
theorem asc_lit {s : Str} (h : (TL.tl s).all (fun c => decide (c < 1114112)) = true) : asc s := fun c hc => by
  simpa using List.all_eq_true.mp h c hc
theorem asc_join {y : Str} (hy : asc y) : ∀ {ps : List Str}, (∀ p ∈ ps, asc p) → asc (Str.join y ps)
  | [], _ => asc_lit (s := Str.empty) (by decide +kernel)
  | [x], h => h x (by simp)
  | x :: z :: r, h => asc_app (asc_app (h x (by simp)) hy) (asc_join hy fun p hp => h p (by simp [hp]))
theorem len_join {y : Str} (hy : y.length ≤ 2) : ∀ {ps : List Str}, (Str.join y ps).length ≤ (ps.map fun p => p.length + 2).sum
  | [] => by show (Str.empty).length ≤ 0; decide
  | [x] => by show x.length ≤ _; simp
  | x :: z :: r => by
    have := len_join hy (ps := z :: r)
    show (x ++ y ++ Str.join y (z :: r)).length ≤ _
    rw [strLen_append, strLen_append]
    simp only [List.map_cons, List.sum_cons] at this ⊢
    omega
theorem pow300' : (10 : Nat) ^ 300 < 2 ^ 1000 := by decide +kernel
theorem int_shown {i : Int} (h : i.natAbs < 10 ^ 300) : i.natAbs.log2 < 1920 ∧ (Str.ofString (toString i)).length ≤ 1001 ∧ asc (Str.ofString (toString i)) := by
  have hp := pow300'
  have key : ∀ n : Nat, n < 10 ^ 300 → (Str.ofString (toString (n : Int))).length ≤ 1000 ∧ asc (Str.ofString (toString (n : Int))) := fun n hn => by
    refine ⟨?_, fun c hc => ?_⟩
    · have e : (toString (n : Int) : String) = Nat.repr n := rfl
      rw [e, ofString_length]
      exact nat_repr_length_le (by decide) (Nat.lt_trans hn hp)
    · have := numL_ok n c (by rw [← numS_tl]; exact hc)
      omega
  refine ⟨?_, ?_⟩
  · by_cases h0 : i.natAbs = 0
    · rw [h0]; decide
    · exact Nat.lt_of_lt_of_le ((Nat.log2_lt h0).mpr (Nat.lt_trans h hp)) (by decide)
  · cases i with
    | ofNat n =>
      obtain ⟨a, b⟩ := key n h
      exact ⟨Nat.le_succ_of_le a, b⟩
    | negSucc n =>
      have hn : n + 1 < 10 ^ 300 := h
      obtain ⟨a, b⟩ := key (n + 1) hn
      have e : Str.ofString (toString (Int.negSucc n)) = Str.ofString "-" ++ Str.ofString (toString ((n + 1 : Nat) : Int)) := by
        have : (toString (Int.negSucc n) : String) = "-" ++ toString ((n + 1 : Nat) : Int) := rfl
        rw [this]
        refine TL.ext_tl ?_
        rw [TL.tl_append, TL.tl_ofString, TL.tl_ofString, TL.tl_ofString, String.toList_append, List.map_append]
      rw [e]
      refine ⟨?_, asc_app (asc_lit (by decide +kernel)) b⟩
      rw [strLen_append]
      have : (Str.ofString "-").length = 1 := by decide +kernel
      omega
mutual
theorem sh_ok : ∀ d : D, shOk d = true → (pd d).showable = true ∧ (pd d).shown.length ≤ wt d ∧ asc (pd d).shown
  | .non, _ => ⟨rfl, by show (Str.ofString "None").length ≤ _; decide +kernel, asc_lit (by decide +kernel)⟩
  | .bl b, _ => by
    refine ⟨rfl, ?_, ?_⟩
    · cases b
      · show (Str.ofString "False").length ≤ _; decide +kernel
      · show (Str.ofString "True").length ≤ _; decide +kernel
    · cases b
      · exact asc_lit (s := Str.ofString "False") (by decide +kernel)
      · exact asc_lit (s := Str.ofString "True") (by decide +kernel)
  | .int i, h => by
    obtain ⟨a, b, c⟩ := int_shown (i := i) (of_decide_eq_true h)
    exact ⟨by simpa [pd, PyData.showable] using a, Nat.le_trans b (by show 1001 ≤ 1200; decide), c⟩
  | .str s, h => by
    simp only [shOk, Bool.or_eq_true, decide_eq_true_eq] at h
    refine ⟨rfl, ?_, ?_⟩
    · rcases h with rfl | rfl <;> (show (reprText _).length ≤ _; decide +kernel)
    · rcases h with rfl | rfl <;> exact asc_lit (s := reprText _) (by decide +kernel)
  | .tup xs, h => by
    obtain ⟨a, b, c⟩ := sh_okL xs h
    refine ⟨a, ?_, ?_⟩
    · show (tupleText (PyData.shownAll (pdL xs))).length ≤ 3 + wtL xs
      unfold tupleText
      rw [strLen_append, strLen_append]
      have h1 := len_join (y := ", ") (by decide +kernel) (ps := PyData.shownAll (pdL xs))
      have h2 : (Str.ofString "(").length = 1 := by decide +kernel
      have h3 : (Str.ofString (if (PyData.shownAll (pdL xs)).length == 1 then ",)" else ")")).length ≤ 2 := by split <;> decide +kernel
      have h4 : (("(" : String) : Str) = Str.ofString "(" := rfl
      omega
    · show asc (tupleText (PyData.shownAll (pdL xs)))
      unfold tupleText
      refine asc_app (asc_app (asc_lit (by decide +kernel)) (asc_join (asc_lit (by decide +kernel)) c)) ?_
      split <;> exact asc_lit (by decide +kernel)
theorem sh_okL : ∀ xs : List D, shOkL xs = true → PyData.showableAll (pdL xs) = true ∧ ((PyData.shownAll (pdL xs)).map fun p => p.length + 2).sum ≤ wtL xs ∧ ∀ p ∈ PyData.shownAll (pdL xs), asc p
  | [], _ => ⟨rfl, Nat.le_refl _, fun p hp => nomatch hp⟩
  | x :: xs, h => by
    simp only [shOkL, Bool.and_eq_true] at h
    obtain ⟨a, b, c⟩ := sh_ok x h.1
    obtain ⟨a', b', c'⟩ := sh_okL xs h.2
    refine ⟨?_, ?_, ?_⟩
    · simp [pdL, PyData.showableAll, a, a']
    · simp only [pdL, PyData.shownAll, List.map_cons, List.sum_cons, wtL]
      omega
    · intro p hp
      simp only [pdL, PyData.shownAll, List.mem_cons] at hp
      rcases hp with rfl | hp
      · exact c
      · exact c' p hp
end
section
variable {st : Sto}
theorem repr_sh {d : D} (h : shOk d = true) (h2 : pl 60 d = true) (h3 : wt d ≤ 16777216) : biApp st .repr [.val d] = some (.val (.str (pd d).shown)) :=
  repr_val h2 (sh_ok d h).1 (Nat.le_trans (sh_ok d h).2.1 h3)
theorem eq_sh {d : D} (h : shOk d = true) : pyEq st (.val (.str (pd d).shown)) (.val (.str (pd d).shown)) = some true := by
  rw [pyEq_str (stOk_of (sh_ok d h).2.2) (stOk_of (sh_ok d h).2.2)]; simp
theorem shOkL_all : ∀ {xs : List D}, shOkL xs = true ↔ ∀ x ∈ xs, shOk x = true
  | [] => by simp [shOkL]
  | x :: xs => by simp [shOkL, shOkL_all (xs := xs)]
theorem wtL_le {m : Nat} : ∀ {xs : List D}, (∀ x ∈ xs, wt x ≤ m) → wtL xs ≤ xs.length * (m + 2)
  | [], _ => by simp [wtL]
  | x :: xs, h => by
    have h1 := h x List.mem_cons_self
    have h2 := wtL_le fun y hy => h y (List.mem_cons_of_mem _ hy)
    simp only [wtL, List.length_cons, Nat.succ_mul]
    omega
end
end Mw

set_option Elab.async false
set_option linter.all false
set_option autoImplicit false
set_option maxRecDepth 100000
/-! PyH1: earliest comings, by the program. -/
namespace Mw
open PySem
section
variable {st g : Sto} {o : O} {i : Nat}
@[simp] theorem geta {l : List O} : (st ++ l)[st.length + i]? = l[i]? := by rw [List.getElem?_append_right (by omega)]; congr 1; omega
@[simp] theorem geta0 {l : List O} : (st ++ l)[st.length]? = l[0]? := geta (i := 0)
@[simp] theorem seta {l : List O} : (st ++ l).set (st.length + i) o = st ++ l.set i o := by rw [List.set_append_right _ _ (by omega)]; congr 2; omega
@[simp] theorem seta0 {l : List O} : (st ++ l).set st.length o = st ++ l.set 0 o := seta (i := 0)
theorem atI_i {α : Type} {xs : List α} {i : Int} {x : α} (h0 : 0 ≤ i) (h : xs[i.toNat]? = some x) : L2.atI xs i = some x := by
  have := atI_n h
  rwa [Int.toNat_of_nonneg h0] at this
theorem ixN_i {n : Nat} {i : Int} (h0 : 0 ≤ i) (h1 : i.toNat < n) : L2.ixN n i = some i.toNat := by
  unfold L2.ixN
  rw [if_pos h0, if_pos (by omega)]
theorem put_ref' {xs : List D} {i : Int} {v : D} {n : Nat} (h : st[n]? = some (.lst xs)) (h0 : 0 ≤ i) (h1 : i.toNat < xs.length) : putApp st (.val (.ref n)) (.val (.int i)) v = some (st.set n (.lst (xs.set i.toNat v))) := by
  simp only [putApp, h, ixN_i h0 h1, Option.map_some]
theorem idx_ref' {xs : List D} {i : Int} {n : Nat} {d : D} (h : st[n]? = some (.lst xs)) (h0 : 0 ≤ i) (h1 : xs[i.toNat]? = some d) : idxApp st (.val (.ref n)) (.val (.int i)) = some (.val d) := by
  rw [idx_ref h, atI_i h0 h1]; rfl
end
section
variable {T : Tab} {n k : Nat} {st : Sto}
/-! ### by_begins -/
/-! ### comings -/
structure Cg where
  m : Int
  nm : Option (Int × Int)
def mo (c : Option Cg) : Option Int := c.map (·.m)
def oiD : Option Int → D
  | none => .non
  | some i => .int i
def tfc (F : List (Option Cg)) : Tbf := tf (F.map mo)
def comStep (F : List (Option Cg)) (s : Sp) : List (Option Cg) := if lowers (tfc F) s then F.set s.b.toNat (some ⟨s.u, some (s.k, s.a)⟩) else F
def SpIn (m : Nat) (s : Sp) : Prop := 0 ≤ s.a ∧ s.a.toNat < m ∧ 0 ≤ s.b ∧ s.b.toNat < m ∧ s.t < s.u
theorem binApp_mul {x y : RV} : binApp st .mul x y = mulApp st x y := by unfold binApp; rfl
theorem mul_nons {m : Nat} (hm : m ≤ 1000) : mulApp st (.tmp [.non]) (.val (.int m)) = some (.tmp (List.replicate m .non)) := by
  have e : repD [D.non] (m : Int) = List.replicate m .non := by
    unfold repD
    induction m with
    | zero => rfl
    | succ m ih =>
      have := ih (by omega)
      simp only [Int.toNat_natCast] at this ⊢
      rw [List.replicate_succ, List.flatten_cons, this]; rfl
  unfold mulApp
  simp only [mutOf]
  have h1 : decide (-(2 : Int) ^ 62 ≤ (m : Int) ∧ (m : Int) < 2 ^ 62) = true := decide_eq_true (by omega)
  have h2 : szOk (([D.non] : List D).length * (m : Int).toNat) = true := decide_eq_true (by simp; omega)
  rw [h1, h2, e]
  rfl
end
end Mw

set_option Elab.async false
set_option linter.all false
set_option autoImplicit false
set_option maxRecDepth 100000
/-! PyH2: earliest, as it should be. -/
namespace Mw
open PySem
section
variable {T : Tab} {n k : Nat} {st : Sto}
@[simp] theorem isNon_oi {o : Option Int} : isNon (.val (oiD o)) = o.isNone := by cases o <;> rfl
theorem stepsF_in {m : Nat} : ∀ {k : Nat} {ms : List Mt}, (∀ x ∈ ms, x.ok m) → ∀ s ∈ stepsF k ms, SpIn m s
  | _, [], _, s, hs => nomatch hs
  | k, x :: ms, h, s, hs => by
    obtain ⟨h1, h2, h3, h4, h5, h6, h7⟩ := h x List.mem_cons_self
    simp only [stepsF, List.mem_cons, List.mem_append] at hs
    rcases hs with rfl | hs | hs
    · exact ⟨h1, by simp only; omega, h3, by simp only; omega, by simp only; omega⟩
    · split at hs
      · rw [List.mem_singleton.mp hs]
        exact ⟨h3, by simp only; omega, h1, by simp only; omega, by simp only; omega⟩
      · cases hs
    · exact stepsF_in (fun y hy => h y (List.mem_cons_of_mem _ hy)) s hs
/-! ### right -/
end
end Mw

set_option Elab.async false
set_option linter.all false
set_option autoImplicit false
set_option maxRecDepth 100000
/-! PyN1: draws from a deck; the deck of the laws of earliest comings. -/
namespace Mw
open PySem
/-- a deck from which so many can be drawn still -/
def okd (N : Nat) (o : O) : Prop := ∃ a b c : Int, o = deckO a b c ∧ 0 ≤ b ∧ b + N ≤ 2 ^ 60 ∧ 0 ≤ c ∧ c + N ≤ 2 ^ 60
theorem okd.mono {N M : Nat} {o : O} (h : okd N o) (hm : M ≤ N) : okd M o := by
  obtain ⟨a, b, c, e, h1, h2, h3, h4⟩ := h
  exact ⟨a, b, c, e, h1, by omega, h3, by omega⟩
theorem okd.low {N : Nat} {o : O} (h : okd N o) {m : Nat} : o.low m = true := by
  obtain ⟨a, b, c, rfl, _⟩ := h
  exact deck_low
/-- the def that draws -/
def DrawOk (T : Tab) (n : Nat) : Prop := ∀ (k : Nat) (st : Sto) (r N : Nat) (o : O) (m : Int), r < st.length → okd (N + 1) o → 0 < m → m < 1073741824 →
  ∃ x o', callF T n (k + 1) "_law_draw" [.ref r, .int m] (st.set r o) = some (.int x, st.set r o') ∧ 0 ≤ x ∧ x < m ∧ okd N o'
section
variable {T : Tab} {n k : Nat} {st g : Sto} {r N : Nat} {o o' : O}
theorem dr_w (W : DrawOk T n) (hr : r < st.length) (h : okd (N + 1) o) {m : Int} (h1 : 0 < m) (h2 : m < 1073741824) {Q : D → Sto → Prop}
    (q : ∀ x o', 0 ≤ x → x < m → okd N o' → Q (.int x) (st.set r o')) : ok2 (callF T n (k + 1) "_law_draw" [.ref r, .int m] (st.set r o)) Q := by
  obtain ⟨x, o', e, a, b, c⟩ := W k st r N o m hr h h1 h2
  rw [e]
  exact q x o' a b c
theorem pull (hr : r < st.length) {l : Sto} : st.set r o ++ l = (st ++ l).set r o := (List.set_append_left _ _ hr).symm
theorem gc_d (hr : r < st.length) (ho : okd N o') {d : D} (hd : d.low st.length = true) : gc (st.set r o) d (st.set r o') = (d, st.set r o') := by
  have e : st.set r o' = (st.set r o).set r o' := by rw [List.set_set]
  rw [e]
  exact gc_val' (Sta.refl.set ho.low) (by simpa using hd)
theorem gc_da (hr : r < st.length) (ho : okd N o') {d : D} (hd : d.low st.length = true) : gc (st.set r o) d ((st ++ g).set r o') = (d, st.set r o') := by
  rw [← pull hr]
  have e : st.set r o' = (st.set r o).set r o' := by rw [List.set_set]
  rw [e]
  exact gc_val (Sta.refl.set ho.low) (by simpa using hd)
/-- the objects besides the deck -/
theorem get_d {i : Nat} (h : i ≠ r) : (st.set r o)[i]? = st[i]? := List.getElem?_set_ne (Ne.symm h)
end
def cC_law_text : CSs := (.cons (.asg (.nm 1) (.comp (.nm 2) (.ex (.idx (.var 0) (.cst (.int 1)))) .nil (.mt .join (.cst (.str " ")) (.cons (.comp (.nm 3) (.ex (.var 2)) .nil (.bi .str (.cons (.var 3) .nil)) [3]) .nil)) [2])) (.cons (.ret (.mt .join (.cst (.str "\n")) (.cons (.bin .add (.lst (.cons (.bin .add (.cst (.str "places ")) (.bi .str (.cons (.idx (.var 0) (.cst (.int 0))) .nil))) .nil)) (.var 1)) .nil))) .nil))
def fC_law_text : Fd := ⟨1, 4, cC_law_text⟩
section
variable {T : Tab} {n k : Nat} {st : Sto} {r N : Nat} {o : O}
end
section
variable {T : Tab} {n k : Nat} {st g : Sto} {r N : Nat} {o o' q : O} {i : Nat}
theorem getd (hr : r < st.length) : ((st ++ g).set r o)[st.length + i]? = g[i]? := by
  rw [List.getElem?_set_ne (by omega)]; exact geta
theorem getd0 (hr : r < st.length) : ((st ++ g).set r o)[st.length]? = g[0]? := getd (i := 0) hr
theorem setd (hr : r < st.length) : ((st ++ g).set r o).set (st.length + i) q = (st ++ g.set i q).set r o := by
  rw [List.set_comm _ _ (by omega), seta]
theorem setd0 (hr : r < st.length) : ((st ++ g).set r o).set st.length q = (st ++ g.set 0 q).set r o := setd (i := 0) hr
/-- a place in a row of numbers -/
theorem atI_int {ys : List Int} {i : Int} (h0 : 0 ≤ i) (h1 : i < ys.length) : ∃ y, y ∈ ys ∧ L2.atI (ys.map D.int) i = some (.int y) := by
  have hl : i.toNat < ys.length := by omega
  refine ⟨ys[i.toNat], List.getElem_mem hl, atI_i h0 ?_⟩
  rw [List.getElem?_map, List.getElem?_eq_getElem hl]; rfl
end
end Mw

set_option Elab.async false
set_option linter.all false
set_option autoImplicit false
set_option maxRecDepth 100000
/-! PyN2: loops; the nets of the laws of earliest comings. -/
namespace Mw
open PySem
section
variable {ws : List (Nat × O)} {t : D → Env → Option Env} {b : Env → Sto → Option (Fl × Env × Sto)} {Q : Fl → Env → Sto → Prop}
def nxt (I : Env → Sto → Prop) (Q : Fl → Env → Sto → Prop) : Fl → Env → Sto → Prop := fun f ρ s => match f with
  | .nx => I ρ s
  | .ct => I ρ s
  | .bk => Q .nx ρ s
  | .rt d => Q (.rt d) ρ s
  | .ex c => Q (.ex c) ρ s
@[simp] theorem nxt_ex {I : Env → Sto → Prop} {ρ : Env} {s : Sto} {c : Str} : nxt I Q (.ex c) ρ s ↔ Q (.ex c) ρ s := Iff.rfl
@[simp] theorem nxt_nx {I : Env → Sto → Prop} {ρ : Env} {s : Sto} : nxt I Q .nx ρ s ↔ I ρ s := Iff.rfl
@[simp] theorem nxt_ct {I : Env → Sto → Prop} {ρ : Env} {s : Sto} : nxt I Q .ct ρ s ↔ I ρ s := Iff.rfl
@[simp] theorem nxt_bk {I : Env → Sto → Prop} {ρ : Env} {s : Sto} : nxt I Q .bk ρ s ↔ Q .nx ρ s := Iff.rfl
@[simp] theorem nxt_rt {I : Env → Sto → Prop} {ρ : Env} {s : Sto} {d : D} : nxt I Q (.rt d) ρ s ↔ Q (.rt d) ρ s := Iff.rfl
theorem for_map {α : Type} (f : α → D) (I : List α → Env → Sto → Prop) (hend : ∀ ρ s, I [] ρ s → chk ws s = true ∧ Q .nx ρ s)
    (hstep : ∀ z zs ρ s, I (z :: zs) ρ s → chk ws s = true ∧ ∃ ρ1, t (f z) ρ = some ρ1 ∧ ok3 (b ρ1 s) (nxt (I zs) Q)) (zs : List α) (ρ : Env) (s : Sto) (h : I zs ρ s) : ok3 (forL ws t b (zs.map f) ρ s) Q := by
  refine forL_w (fun xs ρ s => ∃ zs, xs = zs.map f ∧ I zs ρ s) ?_ ?_ _ _ _ ⟨zs, rfl, h⟩
  · rintro ρ s ⟨zs, e, hI⟩
    cases zs with
    | nil => exact hend ρ s hI
    | cons _ _ => simp at e
  · rintro x xs ρ s ⟨zs, e, hI⟩
    cases zs with
    | nil => simp at e
    | cons z zs =>
      simp only [List.map_cons, List.cons.injEq] at e
      obtain ⟨rfl, rfl⟩ := e
      obtain ⟨hc, ρ1, h1, h2⟩ := hstep z zs ρ s hI
      refine ⟨hc, ρ1, h1, ?_⟩
      rcases e : b ρ1 s with _ | ⟨fl, ρ2, s2⟩
      · rw [e] at h2; exact h2.elim
      · rw [e] at h2
        cases fl with
        | nx => exact ⟨zs, rfl, h2⟩
        | ct => exact ⟨zs, rfl, h2⟩
        | bk => exact h2
        | rt d => exact h2
        | ex c => exact h2
theorem for_d (I : List D → Env → Sto → Prop) (hend : ∀ ρ s, I [] ρ s → chk ws s = true ∧ Q .nx ρ s)
    (hstep : ∀ z zs ρ s, I (z :: zs) ρ s → chk ws s = true ∧ ∃ ρ1, t z ρ = some ρ1 ∧ ok3 (b ρ1 s) (nxt (I zs) Q)) (zs : List D) (ρ : Env) (s : Sto) (h : I zs ρ s) : ok3 (forL ws t b zs ρ s) Q := by
  have := for_map id I hend hstep zs ρ s h
  rwa [List.map_id] at this
theorem for_rng {n : Nat} (I : Nat → Env → Sto → Prop) (hend : ∀ ρ s, I n ρ s → Q .nx ρ s)
    (hstep : ∀ i ρ s, i < n → I i ρ s → ∃ ρ1, t (.int (i : Int)) ρ = some ρ1 ∧ ok3 (b ρ1 s) (nxt (I (i + 1)) Q)) (ρ : Env) (s : Sto) (h : I 0 ρ s) : ok3 (forL [] t b (rangeD 0 n) ρ s) Q := by
  have e : rangeD 0 n = (List.range n).map fun (i : Nat) => D.int (i : Int) := by simp [rangeD]
  rw [e]
  refine for_map _ (fun zs ρ s => ∃ i, zs = List.range' i (n - i) ∧ i ≤ n ∧ I i ρ s) ?_ ?_ _ _ _ ⟨0, by simp [List.range_eq_range'], Nat.zero_le _, h⟩
  · rintro ρ s ⟨i, e, hi, hI⟩
    have : n - i = 0 := by
      cases hq : n - i with
      | zero => rfl
      | succ j => rw [hq, List.range'_succ] at e; cases e
    have : i = n := by omega
    subst this
    exact ⟨rfl, hend ρ s hI⟩
  · rintro z zs ρ s ⟨i, e, hi, hI⟩
    cases hq : n - i with
    | zero => rw [hq] at e; simp at e
    | succ j =>
      rw [hq, List.range'_succ] at e
      obtain ⟨rfl, rfl⟩ := List.cons.inj e
      obtain ⟨ρ1, h1, h2⟩ := hstep z ρ s (by omega) hI
      refine ⟨rfl, ρ1, h1, ?_⟩
      have hj : j = n - (z + 1) := by omega
      subst hj
      rcases e2 : b ρ1 s with _ | ⟨fl, ρ2, s2⟩
      · rw [e2] at h2; exact h2.elim
      · rw [e2] at h2
        cases fl with
        | nx => exact ⟨z + 1, rfl, by omega, h2⟩
        | ct => exact ⟨z + 1, rfl, by omega, h2⟩
        | bk => exact h2
        | rt d => exact h2
        | ex c => exact h2
theorem rng1 {st : Sto} {j : Int} (h : -(2 ^ 62) ≤ j) (h2 : j < 2 ^ 62) : rngOf [.val (.int j)] = some ⟨rangeD 0 j.toNat, [], true⟩ := by
  simp only [rngOf]
  rw [if_pos (show i62 j = true from i62_iff.mpr ⟨h, h2⟩)]
theorem rngN {j : Nat} (h : j < 2 ^ 62) : rngOf [.val (.int (j : Int))] = some ⟨rangeD 0 j, [], true⟩ := by
  have := rng1 (st := []) (j := (j : Int)) (by omega) (by omega)
  simpa using this
end
section
variable {C : Call} {n : Nat} {c : CE} {a b : CSs} {ρ : Env} {st : Sto} {Q : Fl → Env → Sto → Prop}
/-- a statement first, then what follows it -/
theorem st_cut {s : CS} (P : Fl → Env → Sto → Prop) (h : wS C n s ρ st P) (h' : ∀ f ρ1 s1, P f ρ1 s1 → Q f ρ1 s1) : wS C n s ρ st Q := by
  unfold wS at h ⊢
  rcases e : exS C n s ρ st with _ | ⟨f, ρ1, s1⟩
  · rw [e] at h; exact h
  · rw [e] at h; exact h' f ρ1 s1 h
end
section
variable {C : Call} {e : CE} {es : CEs} {ρ : Env} {st : Sto} {Q : Bool → Sto → Prop}
@[simp] theorem wC_nil : wC C .nil ρ st Q ↔ Q true st := by simp [wC, evC]
@[simp] theorem wC_cons : wC C (.cons e es) ρ st Q ↔ wE C e ρ st fun x s1 => okO (truth s1 x) fun t => if t = true then wC C es ρ s1 Q else Q false s1 := by
  unfold wC wE; simp only [evC]
  rcases ev C e ρ st with _ | ⟨x, s1⟩ <;> simp
  rcases truth s1 x with _ | (_ | _) <;> simp
end
/-- nets as they are drawn -/
theorem chk_one {st : Sto} {j : Nat} {o : O} (h : st[j]? = some o) : chk [(j, o)] st = true := by
  simp only [chk, List.all_cons, List.all_nil, Bool.and_true]
  exact decide_eq_true h
structure NetOk (B : Int) (m : Nat) (ms : List Mt) : Prop where
  m1 : 1 ≤ m
  m2 : m ≤ 10
  ok : ∀ x ∈ ms, x.ok m
  len : ms.length ≤ 40
  bd : ∀ x ∈ ms, x.t + x.l ≤ B
section
variable {T : Tab} {n k : Nat} {st g : Sto} {r N : Nat} {o o' q : O} {i : Nat}
@[simp] theorem eqv_int {a b : Int} : PyData.eqv (.int a) (.int b) = decide (a = b) := by
  simp only [PyData.eqv]
  exact dec_eq a b
theorem atI_map {α : Type} {f : α → D} {ys : List α} {i : Int} (h0 : 0 ≤ i) (h1 : i < ys.length) : ∃ y, y ∈ ys ∧ L2.atI (ys.map f) i = some (f y) := by
  have hl : i.toNat < ys.length := by omega
  refine ⟨ys[i.toNat], List.getElem_mem hl, atI_i h0 ?_⟩
  rw [List.getElem?_map, List.getElem?_eq_getElem hl]; rfl
end
end Mw

set_option Elab.async false
set_option linter.all false
set_option autoImplicit false
set_option maxRecDepth 100000
/-! PyN3: moments drawn; the earliest as the laws reckon it. -/
namespace Mw
open PySem
section
variable {c : Env → Sto → Option (Bool × Sto)} {b : Env → Sto → Option (Fl × Env × Sto)} {Q : Fl → Env → Sto → Prop}
/-- a loop by a measure -/
theorem while_w (I : Nat → Env → Sto → Prop)
    (h : ∀ j ρ s, I j ρ s → ∃ t, c ρ s = some (t, s) ∧ (t = false → Q .nx ρ s) ∧ (t = true → ok3 (b ρ s) (nxt (fun ρ s => ∃ j', j' < j ∧ I j' ρ s) Q))) :
    ∀ (n j : Nat) (ρ : Env) (s : Sto), j < n → I j ρ s → ok3 (whileL c b n ρ s) Q := by
  intro n
  induction n with
  | zero => intro j ρ s hj; omega
  | succ n ih =>
    intro j ρ s hj hI
    obtain ⟨t, e1, h1, h2⟩ := h j ρ s hI
    simp only [whileL, e1]
    cases t with
    | false => exact h1 rfl
    | true =>
      have h3 := h2 rfl
      rcases e2 : b ρ s with _ | ⟨fl, ρ2, s2⟩
      · rw [e2] at h3; exact h3.elim
      · rw [e2] at h3
        simp only [e2]
        cases fl with
        | nx => obtain ⟨j', hl, hI'⟩ := h3; exact ih j' ρ2 s2 (by omega) hI'
        | ct => obtain ⟨j', hl, hI'⟩ := h3; exact ih j' ρ2 s2 (by omega) hI'
        | bk => exact h3
        | rt d => exact h3
        | ex c => exact h3
end
section
variable {T : Tab} {n k : Nat} {st g : Sto} {r N : Nat} {o o' q : O} {i : Nat}
/-! ### the law's own going round -/
end
end Mw

set_option Elab.async false
set_option linter.all false
set_option autoImplicit false
set_option maxRecDepth 100000
/-! PyN4: texts of nets by the laws (second kind). -/
namespace Mw
open PySem
section
variable {T : Tab} {n k : Nat} {st g : Sto} {r N : Nat} {o o' q : O} {i : Nat}
structure HR (T : Tab) : Prop where
  text : Has T "_law_text" fC_law_text
  isn : Has T "is_number_word" fis_number_word
  rnum : Has T "read_number" fread_number
  rmee : Has T "read_meeting" fread_meeting
  whole : Has T "is_whole" fis_whole
  place : Has T "is_place" fis_place
  meet : Has T "is_meeting" fis_meeting
  net : Has T "is_net" fis_net
  rnet : Has T "read_net" fread_net
structure EarOk (m : Nat) (ms : List Mt) : Prop where
  ok : ∀ x ∈ ms, x.ok m
  m1 : 1 ≤ m
  m2 : m ≤ 1000
  len : ms.length ≤ 5000
  bd : ∀ x ∈ ms, x.t + x.l < 10 ^ 200
theorem steps_bd {B : Int} : ∀ {j : Nat} {ms : List Mt}, (∀ x ∈ ms, 0 ≤ x.t ∧ 1 ≤ x.l ∧ x.t + x.l < B) → ∀ s ∈ stepsF j ms, 0 ≤ s.u ∧ s.u < B
  | _, [], _, s, hs => nomatch hs
  | j, x :: ms, h, s, hs => by
    obtain ⟨h1, h2, h3⟩ := h x List.mem_cons_self
    simp only [stepsF, List.mem_cons, List.mem_append] at hs
    rcases hs with rfl | hs | hs
    · exact ⟨by simp only; omega, h3⟩
    · split at hs
      · rw [List.mem_singleton.mp hs]; exact ⟨by simp only; omega, h3⟩
      · cases hs
    · exact steps_bd (fun y hy => h y (List.mem_cons_of_mem _ hy)) s hs
theorem rch_bd {S : List Sp} {p0 m0 B : Int} (h0 : 0 ≤ m0 ∧ m0 < B) (h : ∀ s ∈ S, 0 ≤ s.u ∧ s.u < B) {p m : Int} (r : Rch S p0 m0 p m) : 0 ≤ m ∧ m < B := by
  cases r with
  | here => exact h0
  | go _ hs _ => exact h _ hs
/-- rows of numbers and none are shown -/
theorem oi_sh {l : List (Option Int)} (hl : l.length ≤ 1000) (h : ∀ v, some v ∈ l → 0 ≤ v ∧ v < 10 ^ 200) : shOk (.tup (l.map oiD)) = true ∧ pl 60 (.tup (l.map oiD)) = true ∧ wt (.tup (l.map oiD)) ≤ 16777216 := by
  refine ⟨?_, ?_, ?_⟩
  · show shOkL _ = true
    rw [shOkL_all]
    intro x hx
    obtain ⟨c, hc, rfl⟩ := List.mem_map.mp hx
    cases c with
    | none => rfl
    | some v =>
      have := h v hc
      have e : (10 : Nat) ^ 200 ≤ 10 ^ 300 := Nat.pow_le_pow_right (by decide) (by decide)
      refine decide_eq_true ?_
      omega
  · show plL 59 _ = true
    rw [plL_all]
    intro x hx
    obtain ⟨c, hc, rfl⟩ := List.mem_map.mp hx
    cases c <;> rfl
  · show 3 + wtL _ ≤ _
    have := wtL_le (m := 1200) (xs := l.map oiD) fun x hx => by
      obtain ⟨c, hc, rfl⟩ := List.mem_map.mp hx
      cases c <;> exact Nat.le_refl _
    rw [List.length_map] at this
    have : l.length * (1200 + 2) ≤ 1000 * 1202 := Nat.mul_le_mul_right _ hl
    omega
theorem NetOk.ear {B : Int} {m : Nat} {ms : List Mt} (h : NetOk B m ms) (hB : B < 10 ^ 200) : EarOk m ms := by
  have := h.m1; have := h.m2; have := h.len
  exact ⟨h.ok, by omega, by omega, by omega, fun x hx => by have := h.bd x hx; omega⟩
theorem kdw_ref {xs : List D} {j : Nat} (h : st[j]? = some (.lst xs)) : kdOf st (.val (.ref j)) = .lst := by simp only [kdOf, h]
end
end Mw

set_option Elab.async false
set_option linter.all false
set_option autoImplicit false
set_option maxRecDepth 100000
/-! PyN5: floors. -/
namespace Mw
open PySem
@[simp] theorem isNon_non : isNon (.val .non) = true := id rfl
@[simp] theorem isNon_i {i : Int} : isNon (.val (.int i)) = false := id rfl
@[simp] theorem isNon_b {i : Bool} : isNon (.val (.bl i)) = false := id rfl
@[simp] theorem isNon_s {i : Str} : isNon (.val (.str i)) = false := id rfl
@[simp] theorem isNon_t {i : List D} : isNon (.val (.tup i)) = false := id rfl
/-- a value whose kind can be asked -/
def tyOk (st : Sto) (d : D) : Bool := match d with
  | .ref n => match st[n]? with
    | some (.lst _) => true
    | some (.dic _ _) => true
    | _ => false
  | _ => true
def thOk (st : Sto) (d : D) : Bool := tyOk st d && match d with
  | .tup xs => xs.all (tyOk st)
  | _ => true
section
variable {T : Tab} {n k : Nat} {st : Sto}
theorem isTyD_int {d : D} (h : tyOk st d = true) : isTy st .int (.val d) = some (match d with | .int _ => true | .bl _ => true | _ => false) := by
  cases d with
  | ref n =>
    simp only [tyOk] at h
    rcases e : st[n]? with _ | (xs | kvs | kvt | ⟨c, fs⟩)
    · rw [e] at h; cases h
    · simp only [isTy, e]; rfl
    · simp only [isTy, e]; rfl
    · rw [e] at h; cases h
    · rw [e] at h; cases h
  | _ => rfl
theorem isTyD_bool {d : D} (h : tyOk st d = true) : isTy st .bool (.val d) = some (match d with | .bl _ => true | _ => false) := by
  cases d with
  | ref n =>
    simp only [tyOk] at h
    rcases e : st[n]? with _ | (xs | kvs | kvt | ⟨c, fs⟩)
    · rw [e] at h; cases h
    · simp only [isTy, e]; rfl
    · simp only [isTy, e]; rfl
    · rw [e] at h; cases h
    · rw [e] at h; cases h
  | _ => rfl
theorem isTyD_tuple {d : D} (h : tyOk st d = true) : isTy st .tuple (.val d) = some (match d with | .tup _ => true | _ => false) := by
  cases d with
  | ref n =>
    simp only [tyOk] at h
    rcases e : st[n]? with _ | (xs | kvs | kvt | ⟨c, fs⟩)
    · rw [e] at h; cases h
    · simp only [isTy, e]; rfl
    · simp only [isTy, e]; rfl
    · rw [e] at h; cases h
    · rw [e] at h; cases h
  | _ => rfl
def whole (d : D) : Bool := match d with
  | .int _ => true
  | _ => false
theorem is_whole_any (hT : Has T "is_whole" fis_whole) {d : D} (h : tyOk st d = true) : callF T n (k + 1) "is_whole" [d] st = some (.bl (whole d), st) := by
  refine callF_eq (callF_w hT rfl ?_)
  simp [fis_whole, cis_whole, wB_cons, isTyD_int h, isTyD_bool h]
  cases d <;> simp [whole]
end
end Mw

set_option Elab.async false
set_option linter.all false
set_option autoImplicit false
set_option maxRecDepth 100000
/-! PyN6: floors by a law's hand. -/
namespace Mw
open PySem
section
variable {T : Tab} {n k : Nat} {st g : Sto} {r N : Nat} {o o' q : O}
end
end Mw

set_option Elab.async false
set_option linter.all false
set_option autoImplicit false
set_option maxRecDepth 100000
/-! PyN7: ways. -/
namespace Mw
open PySem
def cstep_from : CSs := (.cons (.asg (.tp (.cons (.nm 3) (.cons (.nm 4) (.cons (.nm 5) (.cons (.nm 6) (.cons (.nm 7) .nil)))))) (.idx (.idx (.var 0) (.cst (.int 1))) (.var 1))) (.cons (.ite (.cmp .eq (.var 2) (.var 4)) (.cons (.ret (.tup (.cons (.var 1) (.cons (.var 4) (.cons (.var 5) (.cons (.var 6) (.cons (.bin .add (.var 6) (.var 7)) .nil))))))) .nil) .nil) (.cons (.ite (.and (.cmp .eq (.var 3) (.cst (.str "both"))) (.cmp .eq (.var 2) (.var 5))) (.cons (.ret (.tup (.cons (.var 1) (.cons (.var 5) (.cons (.var 4) (.cons (.var 6) (.cons (.bin .add (.var 6) (.var 7)) .nil))))))) .nil) .nil) (.cons (.ret (.cst .non)) .nil))))
def fstep_from : Fd := ⟨3, 8, cstep_from⟩
def cnext_step : CSs := (.cons (.ite (.or (.not (.call "is_whole" (.cons (.var 3) .nil))) (.not (.chain .le .lt (.cst (.int 0)) (.var 3) (.bi .len (.cons (.idx (.var 0) (.cst (.int 1))) .nil))))) (.cons (.ret (.cst .non)) .nil) .nil) (.cons (.asg (.nm 4) (.call "step_from" (.cons (.var 0) (.cons (.var 3) (.cons (.var 1) .nil))))) (.cons (.ite (.or (.cmp .isN (.var 4) (.cst .non)) (.cmp .lt (.idx (.var 4) (.cst (.int 3))) (.var 2))) (.cons (.ret (.cst .non)) .nil) .nil) (.cons (.ret (.var 4)) .nil))))
def fnext_step : Fd := ⟨4, 5, cnext_step⟩
def cis_way : CSs := (.cons (.ite (.not (.isi (.var 3) .tuple)) (.cons (.ret (.cst (.bl false))) .nil) .nil) (.cons (.asg (.nm 4) (.var 1)) (.cons (.asg (.nm 5) (.var 2)) (.cons (.for (.nm 6) (.ex (.var 3)) (.cons (.asg (.nm 7) (.call "next_step" (.cons (.var 0) (.cons (.var 4) (.cons (.var 5) (.cons (.var 6) .nil)))))) (.cons (.ite (.cmp .isN (.var 7) (.cst .non)) (.cons (.ret (.cst (.bl false))) .nil) .nil) (.cons (.asg (.nm 4) (.idx (.var 7) (.cst (.int 2)))) (.cons (.asg (.nm 5) (.idx (.var 7) (.cst (.int 4)))) .nil))))) (.cons (.ret (.cst (.bl true))) .nil)))))
def fis_way : Fd := ⟨4, 8, cis_way⟩
def cplaces_on : CSs := (.cons (.asg (.nm 3) (.lst (.cons (.var 1) .nil))) (.cons (.for (.nm 4) (.ex (.var 2)) (.cons (.expr (.mt .append (.var 3) (.cons (.idx (.call "step_from" (.cons (.var 0) (.cons (.var 4) (.cons (.idx (.var 3) (.neg (.cst (.int 1)))) .nil)))) (.cst (.int 2))) .nil))) .nil)) (.cons (.ret (.bi .tuple (.cons (.var 3) .nil))) .nil)))
def fplaces_on : Fd := ⟨3, 5, cplaces_on⟩
def ccomes_at : CSs := (.cons (.ite (.cmp .eq (.var 2) (.tup .nil)) (.cons (.ret (.var 1)) .nil) .nil) (.cons (.asg (.tp (.cons (.nm 3) (.cons (.nm 4) (.cons (.nm 5) (.cons (.nm 6) (.cons (.nm 7) .nil)))))) (.idx (.idx (.var 0) (.cst (.int 1))) (.idx (.var 2) (.neg (.cst (.int 1)))))) (.cons (.ret (.bin .add (.var 6) (.var 7))) .nil)))
def fcomes_at : Fd := ⟨3, 8, ccomes_at⟩
/-- the step of a meeting from a place -/
def sFrom (ms : List Mt) (i : Nat) (p : Int) : Option Sp := match ms[i]? with
  | some x => if p = x.a then some ⟨i, x.a, x.b, x.t, x.t + x.l⟩ else if x.bo = true ∧ p = x.b then some ⟨i, x.b, x.a, x.t, x.t + x.l⟩ else none
  | none => none
def nextS (ms : List Mt) (p t : Int) (d : D) : Option Sp := match d with
  | .int i => if 0 ≤ i ∧ i < ms.length then match sFrom ms i.toNat p with
      | some s => if s.t < t then none else some s
      | none => none
    else none
  | _ => none
def wayGo (ms : List Mt) : Int → Int → List D → Option (List Sp)
  | _, _, [] => some []
  | p, t, d :: ds => match nextS ms p t d with
    | some s => (wayGo ms s.b s.u ds).map (s :: ·)
    | none => none
def isWayB (ms : List Mt) (p t : Int) (x : D) : Bool := match x with
  | .tup ds => (wayGo ms p t ds).isSome
  | _ => false
def endP : Int → List Sp → Int
  | p, [] => p
  | _, s :: ss => endP s.b ss
def endT : Int → List Sp → Int
  | t, [] => t
  | _, s :: ss => endT s.u ss
def Chn (ms : List Mt) : Int → List Sp → Prop
  | _, [] => True
  | p, s :: ss => sFrom ms s.k p = some s ∧ Chn ms s.b ss
section
variable {T : Tab} {n k : Nat} {st : Sto}
theorem idx_net1 {m : Int} {ms : List Mt} : idxApp st (.val (netD m ms)) (.val (.int 1)) = some (.val (.tup (ms.map mtD))) := rfl
theorem idx_net0 {m : Int} {ms : List Mt} : idxApp st (.val (netD m ms)) (.val (.int 0)) = some (.val (.int m)) := rfl
def osD : Option Sp → D
  | none => .non
  | some s => spD s
theorem step_from_ok (hT : Has T "step_from" fstep_from) {m : Int} {ms : List Mt} {i : Nat} (hi : i < ms.length) {p : Int} : callF T n (k + 1) "step_from" [netD m ms, .int i, .int p] st = some (osD (sFrom ms i p), st) := by
  refine callF_eq (callF_w hT rfl ?_)
  have e : ms[i]? = some ms[i] := List.getElem?_eq_getElem hi
  have ei : L2.atI (ms.map mtD) (i : Int) = some (mtD ms[i]) := atI_n (by rw [List.getElem?_map, e]; rfl)
  have es : sFrom ms i p = if p = ms[i].a then some ⟨i, ms[i].a, ms[i].b, ms[i].t, ms[i].t + ms[i].l⟩ else if ms[i].bo = true ∧ p = ms[i].b then some ⟨i, ms[i].b, ms[i].a, ms[i].t, ms[i].t + ms[i].l⟩ else none := by
    unfold sFrom; rw [e]
  simp [fstep_from, cstep_from, wB_cons, idx_net1, ei]
  rw [es]
  simp [mtD, wd_both]
  by_cases h1 : p = ms[i].a
  · simp [h1, osD, spD]
  · simp [h1]
    cases hb : ms[i].bo with
    | false => simp [osD]
    | true =>
      simp
      by_cases h2 : p = ms[i].b <;> simp [h2, osD, spD]
theorem next_step_ok (h1 : Has T "is_whole" fis_whole) (h2 : Has T "step_from" fstep_from) (hT : Has T "next_step" fnext_step) {m : Int} {ms : List Mt} {p t : Int} {d : D} (hd : tyOk st d = true) :
    callF T n (k + 2) "next_step" [netD m ms, .int p, .int t, d] st = some (osD (nextS ms p t d), st) := by
  refine callF_eq (callF_w hT rfl ?_)
  simp [fnext_step, cnext_step, wB_cons, is_whole_any h1 hd]
  cases d with
  | int i =>
    simp [whole, idx_net1]
    by_cases hi : 0 ≤ i
    rotate_left
    · have : nextS ms p t (.int i) = none := by simp [nextS, hi]
      simp [hi, this, osD]
    by_cases hi2 : i < ms.length
    rotate_left
    · have : nextS ms p t (.int i) = none := by simp [nextS, hi2]
      simp [hi, hi2, this, osD]
    obtain ⟨j, rfl⟩ : ∃ j : Nat, i = (j : Int) := ⟨i.toNat, by omega⟩
    have hj : j < ms.length := by omega
    have en : nextS ms p t (.int (j : Int)) = match sFrom ms j p with
      | some s => if s.t < t then none else some s
      | none => none := by simp [nextS, hj]
    rw [en]
    simp [hj, step_from_ok h2 hj]
    cases hs : sFrom ms j p with
    | none => simp [osD]
    | some s =>
      by_cases hlt : s.t < t <;> simp [osD, spD, hlt]
  | _ => simp [whole, nextS, osD]
def iwI (ms : List Mt) (p0 t0 : Int) (ds0 : List D) (a b c d : D) (st0 : Sto) (ds : List D) (ρ : Env) (s : Sto) : Prop :=
  ∃ (p t : Int) (r6 r7 : Option D), s = st0 ∧ ((wayGo ms p0 t0 ds0).isSome = (wayGo ms p t ds).isSome) ∧ (∀ x ∈ ds, tyOk st0 x = true) ∧ ρ = [some a, some b, some c, some d, some (.int p), some (.int t), r6, r7]
theorem is_way_ok (h1 : Has T "is_whole" fis_whole) (h2 : Has T "step_from" fstep_from) (h3 : Has T "next_step" fnext_step) (hT : Has T "is_way" fis_way) {m : Int} {ms : List Mt} {p t : Int} {x : D} (hx : thOk st x = true) :
    callF T n (k + 3) "is_way" [netD m ms, .int p, .int t, x] st = some (.bl (isWayB ms p t x), st) := by
  refine callF_eq (callF_w hT rfl ?_)
  simp only [thOk, Bool.and_eq_true] at hx
  obtain ⟨g1, g2⟩ := hx
  simp [fis_way, cis_way, wB_cons, isTyD_tuple g1]
  cases x with
  | tup ds =>
    simp
    have hall : ∀ d ∈ ds, tyOk st d = true := List.all_eq_true.mp g2
    refine for_d (iwI ms p t ds (netD m ms) (.int p) (.int t) (.tup ds) st) ?_ ?_ ds _ _ ⟨p, t, none, none, rfl, rfl, hall, rfl⟩
    · rintro ρ s ⟨p', t', r6, r7, rfl, e, _, rfl⟩
      refine ⟨rfl, ?_⟩
      simp [isWayB, e, wayGo]
    · rintro d ds' ρ s ⟨p', t', r6, r7, rfl, e, hd, rfl⟩
      refine ⟨rfl, _, rfl, ?_⟩
      have hn := next_step_ok (n := n) (k := k) h1 h2 h3 (m := m) (ms := ms) (p := p') (t := t') (hd d List.mem_cons_self)
      show wB _ _ _ _ _ _
      simp [wB_cons, hn]
      cases hs : nextS ms p' t' d with
      | none =>
        simp [osD, isWayB, e, wayGo, hs]
      | some s1 =>
        simp [osD, spD]
        exact ⟨s1.b, s1.u, _, _, rfl, by rw [e]; simp [wayGo, hs], fun x hx => hd x (List.mem_cons_of_mem _ hx), rfl⟩
  | _ => simp [isWayB]
/-! ### places, comings -/
def plI (ms : List Mt) (p0 : Int) (ss0 : List Sp) (a b c : D) (st0 : Sto) (ss : List Sp) (ρ : Env) (s : Sto) : Prop :=
  ∃ (done : List Sp) (r4 : Option D), done ++ ss = ss0 ∧ Chn ms (endP p0 done) ss ∧ s = st0 ++ [.lst ((p0 :: done.map (·.b)).map D.int)] ∧ ρ = [some a, some b, some c, some (.ref st0.length), r4]
theorem endP_snoc {s : Sp} : ∀ (l : List Sp) (p : Int), endP p (l ++ [s]) = s.b
  | [], _ => rfl
  | x :: l, _ => endP_snoc l x.b
theorem atI_m1 {α : Type} {xs : List α} {x : α} (h : xs[xs.length - 1]? = some x) : L2.atI xs (-1) = some x := by
  have hl := (List.getElem?_eq_some_iff.mp h).1
  unfold L2.atI L2.ixN
  rw [if_neg (by omega), if_pos (by omega)]
  have : ((-1 : Int) + (xs.length : Int)).toNat = xs.length - 1 := by omega
  simpa [this] using h
theorem endP_last (l : List Sp) (p : Int) : L2.atI ((p :: l.map (·.b)).map D.int) (-1) = some (.int (endP p l)) := by
  have key : ∀ (l : List Sp) (p : Int), ((p :: l.map (·.b)).map D.int)[l.length]? = some (.int (endP p l)) := by
    intro l
    induction l with
    | nil => intro p; rfl
    | cons s l ih => intro p; simpa [endP] using ih s.b
  exact atI_m1 (by simpa using key l p)
theorem sFrom_lt {ms : List Mt} {i : Nat} {p : Int} {s : Sp} (h : sFrom ms i p = some s) : i < ms.length := by
  unfold sFrom at h
  split at h
  · rename_i e; exact (List.getElem?_eq_some_iff.mp e).1
  · cases h
theorem places_on_ok (h2 : Has T "step_from" fstep_from) (hT : Has T "places_on" fplaces_on) {m : Int} {ms : List Mt} {p : Int} {ss : List Sp} (hl : ss.length ≤ 1000000) (h : Chn ms p ss) :
    callF T n (k + 2) "places_on" [netD m ms, .int p, .tup (ss.map fun s => .int s.k)] st = some (.tup ((p :: ss.map (·.b)).map D.int), st) := by
  refine callF_eq (callF_w hT rfl ?_)
  simp [fplaces_on, cplaces_on, wB_cons]
  refine for_map (fun s : Sp => D.int s.k) (plI ms p ss (netD m ms) (.int p) (.tup (ss.map fun s => .int s.k)) st) ?_ ?_ ss _ _ ⟨[], none, rfl, h, rfl, rfl⟩
  · rintro ρ s ⟨done, r4, e, _, rfl, rfl⟩
    simp at e
    subst e
    refine ⟨rfl, ?_⟩
    have hlow : D.lowL st.length (done.map (D.int ∘ fun x => x.b)) = true := by
      rw [lowL_all]; intro x hx; obtain ⟨y, _, rfl⟩ := List.mem_map.mp hx; rfl
    simp
    rw [tup_ref get_last]
    simp [gc_app, hlow]
  · rintro z zs ρ s ⟨done, r4, e, hc, rfl, rfl⟩
    refine ⟨rfl, _, rfl, ?_⟩
    obtain ⟨q1, q2⟩ := hc
    have hlen : done.length < 1000000 := by have := congrArg List.length e; simp at this; omega
    have hst := step_from_ok (n := n) (k := k) (st := st ++ [.lst ((p :: done.map (·.b)).map D.int)]) h2 (m := m) (sFrom_lt q1) (p := endP p done)
    rw [q1] at hst
    have hix : idxApp (st ++ [.lst ((p :: done.map (·.b)).map D.int)]) (.val (.ref st.length)) (.val (.int (-1))) = some (.val (.int (endP p done))) := by
      rw [idx_ref get_last, endP_last]; rfl
    show wB _ _ _ _ _ _
    simp only [wB_cons, wS_expr]
    simp only [List.map_cons, List.map_map] at hst hix
    simp [hix, hst, osD, spD]
    have hap := app_ref (st := st ++ [.lst ((p :: done.map (·.b)).map D.int)]) (r := .val (.int z.b)) get_last (by simp; omega)
    simp only [List.map_cons, List.map_map, mat_val] at hap
    simp [hap]
    exact ⟨done ++ [z], _, by simp [e], by rw [endP_snoc]; exact q2, by simp, rfl⟩
end
end Mw

set_option Elab.async false
set_option linter.all false
set_option autoImplicit false
set_option maxRecDepth 100000
/-! PyR1: the deck of the laws of ways and of plain forms. -/
namespace Mw
open PySem
def dk (o : O) : Prop := ∃ a b c : Int, o = deckO a b c
theorem dk.low {o : O} (h : dk o) {m : Nat} : o.low m = true := by
  obtain ⟨a, b, c, rfl⟩ := h
  exact deck_low
section
variable {st g : Sto} {r : Nat} {o o' : O}
end
section
variable {T : Tab} {n k : Nat} {st g : Sto} {r : Nat} {o o' : O}
end
end Mw

set_option Elab.async false
set_option linter.all false
set_option autoImplicit false
set_option maxRecDepth 100000
/-! PyR2: the nets of the laws of ways and of plain forms. -/
namespace Mw
open PySem
section
variable {T : Tab} {n k : Nat} {st g : Sto} {r : Nat} {o o' : O} {j : Nat} {ms : List Mt} {M : Int}
end
end Mw

set_option Elab.async false
set_option linter.all false
set_option autoImplicit false
set_option maxRecDepth 100000
/-! PyN8: papers of the earliest, read. -/
namespace Mw
open PySem
section
variable {T : Tab} {n k : Nat} {st : Sto}
theorem sFrom_u {ms : List Mt} {i : Nat} {p : Int} {s : Sp} (h : sFrom ms i p = some s) : ∃ x, ms[i]? = some x ∧ s.t = x.t ∧ s.u = x.t + x.l ∧ ((s.a = x.a ∧ s.b = x.b) ∨ (x.bo = true ∧ s.a = x.b ∧ s.b = x.a)) := by
  unfold sFrom at h
  split at h
  · rename_i x hx
    split at h
    · cases h; exact ⟨x, hx, rfl, rfl, .inl ⟨rfl, rfl⟩⟩
    · split at h
      · rename_i e; cases h; exact ⟨x, hx, rfl, rfl, .inr ⟨e.1, rfl, rfl⟩⟩
      · cases h
  · cases h
theorem last_of : ∀ {ss : List Sp} {p t : Int} {ms : List Mt}, Chn ms p ss → ss ≠ [] → ∃ s, (ss.map fun s => D.int s.k)[(ss.map fun s => D.int s.k).length - 1]? = some (.int s.k) ∧ endT t ss = s.u ∧ ∃ q, sFrom ms s.k q = some s
  | [], _, _, _, _, h => absurd rfl h
  | [s], p, t, ms, h, _ => ⟨s, rfl, rfl, p, h.1⟩
  | s :: s' :: ss, p, t, ms, h, _ => by
    obtain ⟨z, e1, e2, e3⟩ := last_of (t := s.u) h.2 (by simp)
    refine ⟨z, ?_, e2, e3⟩
    simpa using e1
theorem comes_at_ok (hT : Has T "comes_at" fcomes_at) {m : Int} {ms : List Mt} {p t : Int} {ss : List Sp} (h : Chn ms p ss) :
    callF T n (k + 1) "comes_at" [netD m ms, .int t, .tup (ss.map fun s => .int s.k)] st = some (.int (endT t ss), st) := by
  refine callF_eq (callF_w hT rfl ?_)
  have hpl : ∀ s : Sto, pyEq s (.val (.tup (ss.map fun s => D.int s.k))) (.val (.tup [])) = some (decide (ss = [])) := fun s => by
    have e : (ss.map fun s => D.int s.k) = (ss.map fun s => (s.k : Int)).map D.int := by simp
    rw [e, pyEq_val (by show plL 59 _ = true; exact pl_ints 59 _) rfl (by simp only [nb]; rw [nbL_all]; intro x hx; obtain ⟨y, _, rfl⟩ := List.mem_map.mp hx; rfl) rfl]
    simp
  simp [fcomes_at, ccomes_at, wB_cons, hpl]
  by_cases hs : ss = []
  · subst hs; simp [endT]
  · obtain ⟨s, e1, e2, q, e3⟩ := last_of (t := t) h hs
    obtain ⟨x, hx, _, hu, _⟩ := sFrom_u e3
    have ei : L2.atI (ms.map mtD) (s.k : Int) = some (mtD x) := atI_n (by rw [List.getElem?_map, hx]; rfl)
    simp [hs, idx_net1, atI_m1 e1, ei, mtD]
    rw [e2, hu]
end
end Mw

set_option Elab.async false
set_option linter.all false
set_option autoImplicit false
set_option maxRecDepth 100000
/-! PyR3: ways drawn; waits. -/
namespace Mw
open PySem
def cwaits_on : CSs := (.cons (.asg (.nm 3) (.lst .nil)) (.cons (.asg (.nm 4) (.var 1)) (.cons (.for (.nm 5) (.ex (.var 2)) (.cons (.asg (.tp (.cons (.nm 6) (.cons (.nm 7) (.cons (.nm 8) (.cons (.nm 9) (.cons (.nm 10) .nil)))))) (.idx (.idx (.var 0) (.cst (.int 1))) (.var 5))) (.cons (.expr (.mt .append (.var 3) (.cons (.bin .sub (.var 9) (.var 4)) .nil))) (.cons (.asg (.nm 4) (.bin .add (.var 9) (.var 10))) .nil)))) (.cons (.ret (.bi .tuple (.cons (.var 3) .nil))) .nil))))
def fwaits_on : Fd := ⟨3, 11, cwaits_on⟩
def waitsF : Int → List Sp → List Int
  | _, [] => []
  | t, s :: ss => (s.t - t) :: waitsF s.u ss
section
variable {T : Tab} {n k : Nat} {st g : Sto} {r : Nat} {o o' : O} {j : Nat} {ms : List Mt} {m : Int}
def wtI (ms : List Mt) (t : Int) (ss0 : List Sp) (a b c : D) (st0 : Sto) (ss : List Sp) (ρ : Env) (s : Sto) : Prop :=
  ∃ (done : List Int) (now p : Int) (r5 r6 r7 r8 r9 r10 : Option D), done ++ waitsF now ss = waitsF t ss0 ∧ Chn ms p ss ∧ done.length + ss.length ≤ 1000000 ∧ s = st0 ++ [.lst (done.map D.int)] ∧ ρ = [some a, some b, some c, some (.ref st0.length), some (.int now), r5, r6, r7, r8, r9, r10]
theorem waits_on_ok (hT : Has T "waits_on" fwaits_on) {p t : Int} {ss : List Sp} (hl : ss.length ≤ 1000000) (h : Chn ms p ss) :
    callF T n (k + 1) "waits_on" [netD m ms, .int t, .tup (ss.map fun s => .int s.k)] st = some (.tup ((waitsF t ss).map D.int), st) := by
  refine callF_eq (callF_w hT rfl ?_)
  simp [fwaits_on, cwaits_on, wB_cons]
  refine for_map (fun s : Sp => D.int s.k) (wtI ms t ss (netD m ms) (.int t) (.tup (ss.map fun s => .int s.k)) st) ?_ ?_ ss _ _ ⟨[], t, p, none, none, none, none, none, none, rfl, h, by simpa using hl, rfl, rfl⟩
  · rintro ρ s ⟨done, now, p', r5, r6, r7, r8, r9, r10, e, _, _, rfl, rfl⟩
    simp [waitsF] at e
    subst e
    refine ⟨rfl, ?_⟩
    have hlow : D.lowL st.length ((waitsF t ss).map D.int) = true := by
      rw [lowL_all]; intro x hx; obtain ⟨y, _, rfl⟩ := List.mem_map.mp hx; rfl
    simp
    rw [tup_ref get_last]
    simp [gc_app, hlow]
  · rintro z zs ρ s ⟨done, now, p', r5, r6, r7, r8, r9, r10, e, hc, hd, rfl, rfl⟩
    refine ⟨rfl, _, rfl, ?_⟩
    obtain ⟨q1, q2⟩ := hc
    obtain ⟨x, hx, ht, hu, _⟩ := sFrom_u q1
    have ei : L2.atI (ms.map mtD) (z.k : Int) = some (mtD x) := atI_n (by rw [List.getElem?_map, hx]; rfl)
    show wB _ _ _ _ _ _
    simp at hd
    simp [wB_cons, idx_net1, ei, mtD]
    have hap := app_ref (st := st ++ [.lst (done.map D.int)]) (r := .val (.int (x.t - now))) get_last (by simp; omega)
    simp [hap]
    refine ⟨done ++ [x.t - now], _, _, _, _, _, _, _, _, ?_, q2, by simp; omega, by simp, rfl⟩
    rw [← e]
    simp [waitsF, ht, hu]
/-! ### a way drawn -/
end
end Mw

set_option Elab.async false
set_option linter.all false
set_option autoImplicit false
set_option maxRecDepth 100000
/-! PyR4: ways, cut and joined; what the laws of ways ask of the defs. -/
namespace Mw
open PySem
def kD (ss : List Sp) : D := .tup (ss.map fun s => .int s.k)
def plcD (p : Int) (ss : List Sp) : D := .tup ((p :: ss.map (·.b)).map D.int)
def wtsD (t : Int) (ss : List Sp) : D := .tup ((waitsF t ss).map D.int)
section
variable {ms : List Mt} {p t : Int}
end
section
variable {st : Sto} {ss a b : List Sp}
@[simp] theorem len_kD : biApp st .len [.val (kD ss)] = some (.val (.int ss.length)) := by simp [kD]
@[simp] theorem sli_kD_to {j : Nat} : sliApp st (.val (kD ss)) none (some (j : Int)) = some (.val (kD (ss.take j))) := by simp only [kD, sli_tup, cutD_to, List.map_take]
@[simp] theorem sli_kD_from {j : Nat} : sliApp st (.val (kD ss)) (some (j : Int)) none = some (.val (kD (ss.drop j))) := by simp only [kD, sli_tup, cutD_from, List.map_drop]
@[simp] theorem src_kD : srcOf st (.val (kD ss)) = some ⟨ss.map fun s => .int s.k, [], false⟩ := rfl
@[simp] theorem low_kD {j : Nat} : D.low j (kD ss) = true := by
  simp only [kD, low_tup, lowL_all]; intro x hx; obtain ⟨y, _, rfl⟩ := List.mem_map.mp hx; rfl
theorem kk (l : List Sp) : D.tup (l.map fun s => D.int s.k) = kD l := rfl
end
structure HWy (T : Tab) : Prop where
  whole : Has T "is_whole" fis_whole
  sfrom : Has T "step_from" fstep_from
  next : Has T "next_step" fnext_step
  way : Has T "is_way" fis_way
  pls : Has T "places_on" fplaces_on
  com : Has T "comes_at" fcomes_at
  wts : Has T "waits_on" fwaits_on
section
variable {T : Tab} {n k : Nat} {st : Sto} {ms : List Mt} {m p t : Int} {ss : List Sp}
theorem HWy.is (H : HWy T) {x : D} (hx : thOk st x = true) : callF T n (k + 3) "is_way" [netD m ms, .int p, .int t, x] st = some (.bl (isWayB ms p t x), st) := is_way_ok H.whole H.sfrom H.next H.way hx
theorem HWy.pl (H : HWy T) (hl : ss.length ≤ 1000000) (h : Chn ms p ss) : callF T n (k + 2) "places_on" [netD m ms, .int p, kD ss] st = some (plcD p ss, st) := places_on_ok H.sfrom H.pls hl h
theorem HWy.co (H : HWy T) (h : Chn ms p ss) : callF T n (k + 1) "comes_at" [netD m ms, .int t, kD ss] st = some (.int (endT t ss), st) := comes_at_ok H.com h
theorem HWy.wt (H : HWy T) (hl : ss.length ≤ 1000000) (h : Chn ms p ss) : callF T n (k + 1) "waits_on" [netD m ms, .int t, kD ss] st = some (wtsD t ss, st) := waits_on_ok H.wts hl h
end
section
variable {T : Tab} {n k : Nat} {st : Sto} {r : Nat} {o : O} {ms : List Mt} {m p t most : Int}
end
/-- the number of turns -/
theorem turns {a b c : Int} (ha : 0 ≤ a) (hb : 0 ≤ b) (hc : 0 ≤ c) (h : a ≤ 1000 ∧ b ≤ 1000 ∧ c ≤ 1000) : ∃ j : Nat, (if (if c < b then c else b) > a then (if c < b then c else b) else a) = (j : Int) ∧ j ≤ 1000 := by
  refine ⟨(if (if c < b then c else b) > a then (if c < b then c else b) else a).toNat, ?_, ?_⟩
  · split <;> split <;> omega
  · split <;> split <;> omega
end Mw

set_option Elab.async false
set_option linter.all false
set_option autoImplicit false
set_option maxRecDepth 100000
/-! PyS1: the nets of the laws of fewest meetings and of spreading. -/
namespace Mw
open PySem
def cS_law_far : CSs := (.cons (.ret (.bin .add (.bin .add (.bin .mul (.call "_law_draw" (.cons (.var 0) (.cons (.bin .pow (.cst (.int 10)) (.cst (.int 6))) .nil))) (.bin .pow (.cst (.int 10)) (.cst (.int 7)))) (.bin .mul (.call "_law_draw" (.cons (.var 0) (.cons (.bin .pow (.cst (.int 10)) (.cst (.int 6))) .nil))) (.cst (.int 10)))) (.call "_law_draw" (.cons (.var 0) (.cons (.cst (.int 10)) .nil))))) .nil)
def fS_law_far : Fd := ⟨1, 1, cS_law_far⟩
section
variable {T : Tab} {n k : Nat} {st g : Sto} {r N : Nat} {o o' : O} {j : Nat} {ms : List Mt} {M : Int}
theorem farS (W : DrawOk T n) (hF : Has T "_law_far" fS_law_far) (hr : r < st.length) (h : okd (N + 3) o) {Q : D → Sto → Prop}
    (q : ∀ x o', 0 ≤ x → x < 10 ^ 13 → okd N o' → Q (.int x) (st.set r o')) : ok2 (callF T n (k + 2) "_law_far" [.ref r] (st.set r o)) Q := by
  refine callF_w hF rfl ?_
  have p2 : powOk 10 6 = true := by decide
  have p3 : powOk 10 7 = true := by decide
  have m1 : ∀ x : Int, mulOk x 10000000 = true := fun x => mulOk_r (by decide) (by decide)
  have m2 : ∀ x : Int, mulOk x 10 = true := fun x => mulOk_r (by decide) (by decide)
  simp [fS_law_far, cS_law_far, wB_cons, p2, p3, m1, m2]
  refine dr_w W hr h (by decide) (by decide) fun x1 o1 a1 b1 h1 => ?_
  simp [p2, p3, m1, m2]
  refine dr_w W hr h1 (by decide) (by decide) fun x2 o2 a2 b2 h2 => ?_
  simp [p2, p3, m1, m2]
  refine dr_w W hr h2 (by decide) (by decide) fun x3 o3 a3 b3 h3 => ?_
  simp [gc_d hr h3 (d := .int _) rfl]
  exact q _ _ (by omega) (by omega) h3
end
end Mw

set_option Elab.async false
set_option linter.all false
set_option autoImplicit false
set_option maxRecDepth 100000
/-! PyM2: the nets of the laws of waits (deck V). -/
namespace Mw
open PySem
def cV_law_cell_at : CSs := (.cons (.ite (.cmp .lt (.var 1) (.bi .len (.cons (.var 0) .nil))) (.cons (.ret (.idx (.var 0) (.var 1))) .nil) .nil) (.cons (.ret (.bin .add (.bin .mul (.cst (.int 104729)) (.var 1)) (.cst (.int 11)))) .nil))
def fV_law_cell_at : Fd := ⟨2, 2, cV_law_cell_at⟩
def cV_law_deck : CSs := (.cons (.ite (.cmp .lt (.var 0) (.bin .pow (.cst (.int 10)) (.cst (.int 18)))) (.cons (.ret (.lst (.cons (.cst (.int 0)) (.cons (.bin .mod (.var 0) (.cst (.int 2147483629))) (.cons (.cst (.int 0)) .nil))))) .nil) .nil) (.cons (.ret (.lst (.cons (.var 0) (.cons (.bin .mod (.var 0) (.cst (.int 2147483629))) (.cons (.cst (.int 0)) .nil))))) .nil))
def fV_law_deck : Fd := ⟨1, 1, cV_law_deck⟩
def cV_law_draw : CSs := (.cons (.ite (.cmp .gt (.idx (.var 0) (.cst (.int 0))) (.cst (.int 0))) (.cons (.asg (.nm 2) (.bin .mod (.idx (.var 0) (.cst (.int 0))) (.var 1))) (.cons (.put (.var 0) (.cst (.int 0)) (.bin .fdiv (.idx (.var 0) (.cst (.int 0))) (.var 1))) (.cons (.ret (.var 2)) .nil))) .nil) (.cons (.put (.var 0) (.cst (.int 2)) (.bin .add (.idx (.var 0) (.cst (.int 2))) (.cst (.int 1)))) (.cons (.asg (.nm 3) (.bin .mod (.bin .mul (.bin .add (.idx (.var 0) (.cst (.int 1))) (.bin .mul (.bin .mul (.cst (.int 7919)) (.idx (.var 0) (.cst (.int 2)))) (.idx (.var 0) (.cst (.int 2))))) (.cst (.int 48271))) (.cst (.int 2147483647)))) (.cons (.asg (.nm 3) (.bin .mod (.bin .add (.bin .add (.bin .mul (.var 3) (.var 3)) (.bin .mul (.cst (.int 69621)) (.var 3))) (.cst (.int 17))) (.cst (.int 2147483587)))) (.cons (.ret (.bin .mod (.bin .fdiv (.var 3) (.cst (.int 64))) (.var 1))) .nil)))))
def fV_law_draw : Fd := ⟨2, 4, cV_law_draw⟩
def cV_law_meeting : CSs := (.cons (.asg (.nm 3) (.call "_law_draw" (.cons (.var 0) (.cons (.cst (.int 7)) .nil)))) (.cons (.asg (.nm 4) (.idx (.lst (.cons (.cst (.str "to")) (.cons (.cst (.str "both")) .nil))) (.call "_law_draw" (.cons (.var 0) (.cons (.cst (.int 2)) .nil))))) (.cons (.asg (.nm 5) (.call "_law_draw" (.cons (.var 0) (.cons (.var 1) .nil)))) (.cons (.asg (.nm 6) (.call "_law_draw" (.cons (.var 0) (.cons (.cst (.int 31)) .nil)))) (.cons (.ite (.and (.cmp .ne (.var 2) (.lst .nil)) (.cmp .isin (.var 3) (.tup (.cons (.cst (.int 1)) (.cons (.cst (.int 2)) (.cons (.cst (.int 6)) .nil)))))) (.cons (.asg (.nm 7) (.idx (.var 2) (.idx (.lst (.cons (.call "_law_draw" (.cons (.var 0) (.cons (.bi .len (.cons (.var 2) .nil)) .nil))) (.cons (.bin .sub (.bi .len (.cons (.var 2) .nil)) (.cst (.int 1))) .nil))) (.bi .int (.cons (.cmp .eq (.var 3) (.cst (.int 2))) .nil))))) (.cons (.ite (.cmp .eq (.var 3) (.cst (.int 6))) (.cons (.ret (.var 7)) .nil) .nil) (.cons (.asg (.nm 5) (.idx (.var 7) (.cst (.int 2)))) (.cons (.asg (.nm 6) (.bi .max (.cons (.cst (.int 0)) (.cons (.bin .add (.bin .add (.idx (.var 7) (.cst (.int 3))) (.idx (.var 7) (.cst (.int 4)))) (.idx (.lst (.cons (.cst (.int 0)) (.cons (.cst (.int 0)) (.cons (.neg (.cst (.int 1))) (.cons (.cst (.int 1)) (.cons (.cst (.int 2)) (.cons (.cst (.int 3)) .nil))))))) (.call "_law_draw" (.cons (.var 0) (.cons (.cst (.int 6)) .nil))))) .nil)))) .nil)))) .nil) (.cons (.ite (.cmp .eq (.var 3) (.cst (.int 3))) (.cons (.asg (.nm 6) (.bin .add (.cst (.int 5)) (.call "_law_draw" (.cons (.var 0) (.cons (.cst (.int 2)) .nil))))) .nil) .nil) (.cons (.ite (.cmp .eq (.var 3) (.cst (.int 4))) (.cons (.asg (.nm 6) (.call "_law_far" (.cons (.var 0) .nil))) .nil) .nil) (.cons (.asg (.nm 8) (.bin .add (.cst (.int 1)) (.call "_law_draw" (.cons (.var 0) (.cons (.idx (.lst (.cons (.cst (.int 4)) (.cons (.bin .pow (.cst (.int 10)) (.cst (.int 6))) .nil))) (.bi .int (.cons (.cmp .eq (.var 3) (.cst (.int 4))) .nil))) .nil))))) (.cons (.ret (.tup (.cons (.var 4) (.cons (.var 5) (.cons (.bin .mod (.bin .add (.bin .add (.var 5) (.cst (.int 1))) (.call "_law_draw" (.cons (.var 0) (.cons (.bin .sub (.var 1) (.cst (.int 1))) .nil)))) (.var 1)) (.cons (.bi .min (.cons (.bin .pow (.cst (.int 10)) (.cst (.int 13))) (.cons (.var 6) .nil))) (.cons (.var 8) .nil))))))) .nil)))))))))
def fV_law_meeting : Fd := ⟨3, 9, cV_law_meeting⟩
def cV_law_steps : CSs := (.cons (.asg (.nm 1) (.lst .nil)) (.cons (.for (.tp (.cons (.nm 2) (.cons (.nm 3) .nil))) (.enm (.idx (.var 0) (.cst (.int 1)))) (.cons (.asg (.tp (.cons (.nm 4) (.cons (.nm 5) (.cons (.nm 6) (.cons (.nm 7) (.cons (.nm 8) .nil)))))) (.var 3)) (.cons (.expr (.mt .append (.var 1) (.cons (.tup (.cons (.var 2) (.cons (.var 5) (.cons (.var 6) (.cons (.var 7) (.cons (.bin .add (.var 7) (.var 8)) .nil)))))) .nil))) (.cons (.ite (.cmp .eq (.var 4) (.cst (.str "both"))) (.cons (.expr (.mt .append (.var 1) (.cons (.tup (.cons (.var 2) (.cons (.var 6) (.cons (.var 5) (.cons (.var 7) (.cons (.bin .add (.var 7) (.var 8)) .nil)))))) .nil))) .nil) .nil) .nil)))) (.cons (.ret (.var 1)) .nil)))
def fV_law_steps : Fd := ⟨1, 9, cV_law_steps⟩
def cV_law_moment : CSs := (.cons (.asg (.nm 2) (.call "_law_draw" (.cons (.var 0) (.cons (.cst (.int 7)) .nil)))) (.cons (.ite (.and (.chain .lt .lt (.cst (.int 0)) (.var 2) (.cst (.int 4))) (.cmp .ne (.var 1) (.lst .nil))) (.cons (.asg (.nm 3) (.idx (.var 1) (.call "_law_draw" (.cons (.var 0) (.cons (.bi .len (.cons (.var 1) .nil)) .nil))))) (.cons (.ret (.bi .min (.cons (.bin .pow (.cst (.int 10)) (.cst (.int 13))) (.cons (.bi .max (.cons (.cst (.int 0)) (.cons (.bin .add (.idx (.var 3) (.bin .add (.cst (.int 3)) (.call "_law_draw" (.cons (.var 0) (.cons (.cst (.int 2)) .nil))))) (.idx (.lst (.cons (.cst (.int 0)) (.cons (.cst (.int 0)) (.cons (.cst (.int 1)) (.cons (.neg (.cst (.int 1))) .nil))))) (.call "_law_draw" (.cons (.var 0) (.cons (.cst (.int 4)) .nil))))) .nil))) .nil)))) .nil)) .nil) (.cons (.ite (.cmp .eq (.var 2) (.cst (.int 4))) (.cons (.ret (.call "_law_draw" (.cons (.var 0) (.cons (.cst (.int 31)) .nil)))) .nil) .nil) (.cons (.ret (.idx (.lst (.cons (.cst (.int 0)) (.cons (.call "_law_far" (.cons (.var 0) .nil)) .nil))) (.bi .int (.cons (.cmp .eq (.var 2) (.cst (.int 5))) .nil)))) .nil))))
def fV_law_moment : Fd := ⟨2, 4, cV_law_moment⟩
def cV_law_bound : CSs := (.cons (.asg (.nm 2) (.call "_law_draw" (.cons (.var 0) (.cons (.cst (.int 6)) .nil)))) (.cons (.ite (.and (.cmp .lt (.var 2) (.cst (.int 2))) (.cmp .ne (.var 1) (.lst .nil))) (.cons (.asg (.nm 3) (.idx (.var 1) (.call "_law_draw" (.cons (.var 0) (.cons (.bi .len (.cons (.var 1) .nil)) .nil))))) (.cons (.asg (.nm 4) (.idx (.var 1) (.call "_law_draw" (.cons (.var 0) (.cons (.bi .len (.cons (.var 1) .nil)) .nil))))) (.cons (.ret (.bi .min (.cons (.bin .pow (.cst (.int 10)) (.cst (.int 13))) (.cons (.bi .max (.cons (.cst (.int 0)) (.cons (.bin .sub (.bin .sub (.idx (.var 4) (.cst (.int 3))) (.idx (.var 3) (.cst (.int 4)))) (.call "_law_draw" (.cons (.var 0) (.cons (.cst (.int 2)) .nil)))) .nil))) .nil)))) .nil))) .nil) (.cons (.ite (.cmp .eq (.var 2) (.cst (.int 2))) (.cons (.ret (.cst (.int 0))) .nil) .nil) (.cons (.ret (.bin .add (.call "_law_draw" (.cons (.var 0) (.cons (.idx (.lst (.cons (.cst (.int 31)) (.cons (.cst (.int 4)) (.cons (.cst (.int 13)) (.cons (.cst (.int 31)) (.cons (.cst (.int 31)) (.cons (.cst (.int 31)) .nil))))))) (.var 2)) .nil))) (.bin .mul (.bin .mul (.bin .pow (.cst (.int 10)) (.cst (.int 12))) (.cst (.int 9))) (.bi .int (.cons (.cmp .eq (.var 2) (.cst (.int 5))) .nil))))) .nil))))
def fV_law_bound : Fd := ⟨2, 5, cV_law_bound⟩
section
variable {T : Tab} {n k : Nat} {st g : Sto} {r N : Nat} {o o' : O} {m j : Nat} {ms : List Mt}
theorem cellV (hT : Has T "_law_cell_at" fV_law_cell_at) {xs : List Int} {i : Nat} : ∃ v : Int, ∀ s, callF T n (k + 1) "_law_cell_at" [.rol (xs.map .int), .int (i : Int)] s = some (.int v, s) := by
  have m1 : ∀ y : Int, mulOk 104729 y = true := fun y => mulOk_l (by decide) (by decide)
  by_cases hi : (i : Int) < xs.length
  · obtain ⟨y, _, ey⟩ := atI_int (ys := xs) (i := (i : Int)) (by omega) hi
    refine ⟨y, fun s => callF_eq (callF_w hT rfl ?_)⟩
    simp [fV_law_cell_at, cV_law_cell_at, wB_cons, hi, ey]
  · refine ⟨104729 * i + 11, fun s => callF_eq (callF_w hT rfl ?_)⟩
    simp [fV_law_cell_at, cV_law_cell_at, wB_cons, hi, m1]
theorem drawV (hT : Has T "_law_draw" fV_law_draw) : DrawOk T n := by
  intro k st r N o m hr ho h1 h2
  obtain ⟨a, b, c, rfl, b1, b2, c1, c2⟩ := ho
  have e : (st.set r (deckO a b c))[r]? = some (.lst [.int a, .int b, .int c]) := List.getElem?_set_self hr
  by_cases ha : 0 < a
  · refine ⟨a % m, deckO (a / m) b c, callF_eq (callF_w hT rfl ?_), Int.emod_nonneg _ (by omega), Int.emod_lt_of_pos _ h1, ⟨_, _, _, rfl, b1, by omega, c1, by omega⟩⟩
    have gd := fun o2 (h : okd N o2) => gc_d (st := st) (o := deckO a b c) hr h (d := .int (a % m)) rfl
    have := gd (deckO (a / m) b c) ⟨_, _, _, rfl, b1, by omega, c1, by omega⟩
    simp [fV_law_draw, cV_law_draw, wB_cons, idx_ref e, ha, h1, h2, put_ref e, L2.ixN]
    exact ⟨congrArg Prod.fst this, congrArg Prod.snd this⟩
  · have m1 : mulOk 7919 (c + 1) = true := mulOk_l (by decide) (by decide)
    have m2 : mulOk (7919 * (c + 1)) (c + 1) = true := mulOk_r (by omega) (by omega)
    have m3 : ∀ x : Int, mulOk x 48271 = true := fun x => mulOk_r (by decide) (by decide)
    have m4 : ∀ x y : Int, mulOk (x % 2147483647) y = true := fun x y => mulOk_l (by omega) (by omega)
    have m5 : ∀ x : Int, mulOk 69621 x = true := fun x => mulOk_l (by decide) (by decide)
    have e2 : ∀ o2 : O, (st.set r o2)[r]? = some o2 := fun o2 => List.getElem?_set_self hr
    have hk : okd N (deckO a b (c + 1)) := ⟨_, _, _, rfl, b1, by omega, by omega, by omega⟩
    obtain ⟨y, ey⟩ : ∃ y, y = (b + 7919 * (c + 1) * (c + 1)) * 48271 % 2147483647 := ⟨_, rfl⟩
    refine ⟨(y * y + 69621 * y + 17) % 2147483587 / 64 % m, deckO a b (c + 1), callF_eq (callF_w hT rfl ?_), Int.emod_nonneg _ (by omega), Int.emod_lt_of_pos _ h1, hk⟩
    have := gc_d (st := st) (o := deckO a b c) hr hk (d := .int ((y * y + 69621 * y + 17) % 2147483587 / 64 % m)) rfl
    have m6 : mulOk y y = true := mulOk_l (by rw [ey]; omega) (by rw [ey]; omega)
    simp [fV_law_draw, cV_law_draw, wB_cons, idx_ref e, ha, h1, h2, put_ref e, L2.ixN, idx_ref (e2 _), m1, m2, m3, m4, m5, m6, ← ey]
    exact ⟨congrArg Prod.fst this, congrArg Prod.snd this⟩
theorem deckV (hT : Has T "_law_deck" fV_law_deck) {x : Int} : ∃ o, callF T n (k + 1) "_law_deck" [.int x] st = some (.ref st.length, st ++ [o]) ∧ okd (2 ^ 59) o := by
  have p1 : powOk 10 18 = true := by decide
  have g1 : ∀ a b c, gc st (.ref st.length) (st ++ [.lst [.int a, .int b, .int c]]) = (.ref st.length, st ++ [deckO a b c]) := fun a b c => gc_one (deck_low (a := a) (b := b) (c := c))
  by_cases hx : x < (1000000000000000000 : Int)
  · refine ⟨deckO 0 (x % 2147483629) 0, callF_eq (callF_w hT rfl ?_), ⟨_, _, _, rfl, by omega, by omega, by omega, by omega⟩⟩
    simp [fV_law_deck, cV_law_deck, wB_cons, p1, hx, g1]
  · refine ⟨deckO x (x % 2147483629) 0, callF_eq (callF_w hT rfl ?_), ⟨_, _, _, rfl, by omega, by omega, by omega, by omega⟩⟩
    simp [fV_law_deck, cV_law_deck, wB_cons, p1, hx, g1]
def MtV (m : Nat) (x : Mt) : Prop := x.ok m ∧ x.t ≤ 10 ^ 13 ∧ x.l ≤ 10 ^ 6
theorem mts_ne {s : Sto} {j : Nat} (h : s[j]? = some (.lst (ms.map mtD))) : pyEq s (.val (.ref j)) (.tmp []) = some (decide (ms = [])) := by
  rw [pyEq_list (xs := ms.map mtD) (ys := []) (listOf_ref h) rfl plL_mt rfl nbL_mt rfl]
  simp
theorem in_126 {s : Sto} {x : Int} : inApp s (.val (.int x)) (.val (.tup [.int 1, .int 2, .int 6])) = some (decide (x = 1 ∨ x = 2 ∨ x = 6)) := by
  rw [in_tup rfl rfl rfl rfl]
  simp
def vmI (st : Sto) (r N m j : Nat) (w : Int) (wb : Bool) (f : Fl) (ρ : Env) (s : Sto) (Q : D → Sto → Prop) : Prop :=
  (∃ x o, f = .rt (mtD x) ∧ MtV m x ∧ okd N o ∧ s = st.set r o) ∨
  ∃ (a t : Int) (o : O) (r7 r8 : Option D), f = .nx ∧ 0 ≤ a ∧ a < m ∧ 0 ≤ t ∧ okd N o ∧ s = st.set r o ∧ ρ = [some (.ref r), some (.int m), some (.ref j), some (.int w), some (wdD wb), some (.int a), some (.int t), r7, r8]
theorem meetV (W : DrawOk T n) (hF : Has T "_law_far" fS_law_far) (hM : Has T "_law_meeting" fV_law_meeting) (hr : r < st.length) (h : okd (N + 12) o) (hm : 2 ≤ m) (hm2 : m ≤ 100) (hj : st[j]? = some (.lst (ms.map mtD))) (hjr : j ≠ r) (hl : ms.length ≤ 1000) (hB : ∀ x ∈ ms, MtV m x) {Q : D → Sto → Prop}
    (q : ∀ x o', MtV m x → okd N o' → Q (mtD x) (st.set r o')) : ok2 (callF T n (k + 3) "_law_meeting" [.ref r, .int m, .ref j] (st.set r o)) Q := by
  refine callF_w hM rfl ?_
  have hg : ∀ o : O, (st.set r o)[j]? = some (.lst (ms.map mtD)) := fun o => by rw [get_d hjr]; exact hj
  have hne : ∀ o : O, pyEq (st.set r o) (.val (.ref j)) (.tmp []) = some (decide (ms = [])) := fun o => mts_ne (hg o)
  have hlow : ∀ x : Mt, (mtD x).low st.length = true := fun x => by simp [mtD, wdD]
  have p13 : powOk 10 13 = true := by decide
  have p6 : powOk 10 6 = true := by decide
  simp only [fV_law_meeting, cV_law_meeting]
  rw [wB_cons]
  simp
  refine dr_w W hr (N := N + 11) h (by decide) (by decide) fun w o1 a1 b1 h1 => ?_
  rw [wB_cons]
  simp
  refine dr_w W hr (N := N + 10) h1 (by decide) (by decide) fun wx o2 a2 b2 h2 => ?_
  obtain ⟨wb, ewb⟩ : ∃ wb : Bool, L2.atI [D.str "to", D.str "both"] wx = some (wdD wb) := by
    obtain rfl | rfl : wx = 0 ∨ wx = 1 := by omega
    · exact ⟨false, by simp [wdD]⟩
    · exact ⟨true, by simp [wdD]⟩
  simp [ewb]
  rw [wB_cons]
  simp
  refine dr_w W hr (N := N + 9) h2 (by omega) (by omega) fun a o3 a3 b3 h3 => ?_
  rw [wB_cons]
  simp
  refine dr_w W hr (N := N + 8) h3 (by decide) (by decide) fun t o4 a4 b4 h4 => ?_
  rw [wB_cons]
  refine st_cut (fun f ρ s => vmI st r (N + 6) m j w wb f ρ s Q) ?_ ?_
  · by_cases hn : ms = []
    · simp [hne, hn]
      exact .inr ⟨a, t, o4, none, none, rfl, a3, b3, a4, h4.mono (by omega), rfl, rfl⟩
    · by_cases hw : w = 1 ∨ w = 2 ∨ w = 6
      · have hpos : 0 < ms.length := List.length_pos_iff.mpr hn
        have hw' : (decide (w = 1) || (decide (w = 2) || decide (w = 6))) = true := by simpa using hw
        simp [hne, hn, in_126, hw, wB_cons, len_ref (hg _)]
        refine dr_w W hr (N := N + 7) h4 (by omega) (by omega) fun x5 o5 a5 b5 h5 => ?_
        obtain ⟨ix, i0, i1, ei⟩ : ∃ ix : Int, 0 ≤ ix ∧ ix < ms.length ∧ L2.atI [D.int x5, D.int ((ms.length : Int) - 1)] (if w = 2 then 1 else 0) = some (.int ix) := by
          by_cases hw2 : w = 2
          · exact ⟨(ms.length : Int) - 1, by omega, by omega, by simp [hw2]⟩
          · exact ⟨x5, a5, b5, by simp [hw2]⟩
        obtain ⟨y, hy, ey⟩ := atI_map (f := mtD) (ys := ms) i0 i1
        obtain ⟨y1, y2, y3⟩ := hB y hy
        obtain ⟨z1, z2, z3, z4, z5, z6, z7⟩ := y1
        simp [len_ref (hg _), ei, idx_ref (hg _), ey]
        by_cases h6 : w = 6
        · simp [h6]
          exact .inl ⟨y, o5, rfl, hB y hy, h5.mono (by omega), rfl⟩
        · simp [h6, mtD]
          refine dr_w W hr (N := N + 6) h5 (by decide) (by decide) fun x6 o6 a6 b6 h6' => ?_
          obtain ⟨dv, ed⟩ : ∃ dv : Int, L2.atI [D.int 0, D.int 0, D.int (-1), D.int 1, D.int 2, D.int 3] x6 = some (.int dv) := by
            obtain rfl | rfl | rfl | rfl | rfl | rfl : x6 = 0 ∨ x6 = 1 ∨ x6 = 2 ∨ x6 = 3 ∨ x6 = 4 ∨ x6 = 5 := by omega
            all_goals exact ⟨_, by rfl⟩
          simp [ed]
          refine .inr ⟨y.b, (if 0 < y.t + y.l + dv then y.t + y.l + dv else 0), o6, _, none, rfl, z3, z4, by split <;> omega, h6', rfl, rfl⟩
      · simp [hne, hn, in_126, hw]
        exact .inr ⟨a, t, o4, none, none, rfl, a3, b3, a4, h4.mono (by omega), rfl, rfl⟩
  rintro f ρ s (⟨x, o5, rfl, hx, h5, rfl⟩ | ⟨a, t, o5, r7, r8, rfl, a3, b3, t0, h5, rfl, rfl⟩)
  · simp only []
    rw [gc_d hr h5 (hlow x)]
    exact q x o5 hx (h5.mono (by omega))
  simp only []
  rw [wB_cons]
  refine st_cut (fun f ρ s => vmI st r (N + 5) m j w wb f ρ s Q) ?_ ?_
  · by_cases h3 : w = 3
    · simp [h3, wB_cons]
      refine dr_w W hr (N := N + 5) h5 (by decide) (by decide) fun x o6 a6 b6 h6 => ?_
      simp
      exact .inr ⟨a, 5 + x, o6, _, _, rfl, a3, b3, by omega, h6, rfl, by first | rfl | rw [h3]⟩
    · simp [h3]
      exact .inr ⟨a, t, o5, _, _, rfl, a3, b3, t0, h5.mono (by omega), rfl, rfl⟩
  rintro f ρ s (⟨x, o6, rfl, hx, h6, rfl⟩ | ⟨a, t, o6, r7, r8, rfl, a3, b3, t0, h6, rfl, rfl⟩)
  · simp only []
    rw [gc_d hr h6 (hlow x)]
    exact q x o6 hx (h6.mono (by omega))
  simp only []
  rw [wB_cons]
  refine st_cut (fun f ρ s => vmI st r (N + 2) m j w wb f ρ s Q) ?_ ?_
  · by_cases h4 : w = 4
    · simp [h4, wB_cons]
      refine farS W hF hr (N := N + 2) h6 fun x o7 a7 b7 h7 => ?_
      try simp
      exact .inr ⟨a, x, o7, _, _, rfl, a3, b3, a7, h7, rfl, by first | rfl | rw [h4]⟩
    · simp [h4]
      exact .inr ⟨a, t, o6, _, _, rfl, a3, b3, t0, h6.mono (by omega), rfl, rfl⟩
  rintro f ρ s (⟨x, o7, rfl, hx, h7, rfl⟩ | ⟨a, t, o7, r7, r8, rfl, a3, b3, t0, h7, rfl, rfl⟩)
  · simp only []
    rw [gc_d hr h7 (hlow x)]
    exact q x o7 hx (h7.mono (by omega))
  simp only []
  obtain ⟨bd, d0, d1, ed⟩ : ∃ bd : Int, 0 < bd ∧ bd ≤ 1000000 ∧ L2.atI [D.int 4, D.int 1000000] (if w = 4 then 1 else 0) = some (.int bd) := by
    by_cases h4 : w = 4
    · exact ⟨1000000, by omega, by omega, by simp [h4]⟩
    · exact ⟨4, by omega, by omega, by simp [h4]⟩
  rw [wB_cons]
  simp [p6, ed]
  refine dr_w W hr (N := N + 1) h7 d0 (by omega) fun l o8 a8 b8 h8 => ?_
  simp
  rw [wB_cons]
  simp
  refine dr_w W hr (N := N) h8 (by omega) (by omega) fun v o9 a9 b9 h9 => ?_
  obtain ⟨b, eb⟩ : ∃ b, b = (a + 1 + v) % (m : Int) := ⟨_, rfl⟩
  have hb : 0 ≤ b ∧ b < m ∧ a ≠ b := by
    refine ⟨by rw [eb]; exact Int.emod_nonneg _ (by omega), by rw [eb]; exact Int.emod_lt_of_pos _ (by omega), fun e => ?_⟩
    rw [← e] at eb
    by_cases hlt : a + 1 + v < m
    · rw [Int.emod_eq_of_lt (by omega) hlt] at eb; omega
    · have : (a + 1 + v) % (m : Int) = a + 1 + v - m := by
        rw [← Int.sub_emod_right, Int.emod_eq_of_lt (by omega) (by omega)]
      omega
  simp [p13]
  refine ⟨by omega, ?_⟩
  rw [← eb]
  have hx : MtV m ⟨wb, a, b, (if t < 10000000000000 then t else 10000000000000), 1 + l⟩ := ⟨⟨a3, b3, hb.1, hb.2.1, hb.2.2, by simp only; split <;> omega, by simp only; omega⟩, by simp only; split <;> omega, by simp only; omega⟩
  have := gc_d (st := st) (o := o) hr h9 (hlow ⟨wb, a, b, (if t < 10000000000000 then t else 10000000000000), 1 + l⟩)
  simp only [mtD] at this
  rw [this]
  exact q _ o9 hx h9
end
end Mw

set_option Elab.async false
set_option linter.all false
set_option autoImplicit false
set_option maxRecDepth 100000
/-! PyM3: nets, steps, moments, bounds of deck V. -/
namespace Mw
open PySem
def cV_law_net : CSs := (.cons (.asg (.nm 1) (.call "_law_draw" (.cons (.var 0) (.cons (.cst (.int 8)) .nil)))) (.cons (.asg (.nm 2) (.idx (.lst (.cons (.bin .add (.cst (.int 1)) (.call "_law_draw" (.cons (.var 0) (.cons (.cst (.int 6)) .nil)))) (.cons (.cst (.int 10)) .nil))) (.bi .int (.cons (.cmp .eq (.var 1) (.cst (.int 5))) .nil)))) (.cons (.asg (.nm 3) (.idx (.lst (.cons (.call "_law_draw" (.cons (.var 0) (.cons (.cst (.int 13)) .nil))) (.cons (.bin .sub (.cst (.int 40)) (.call "_law_draw" (.cons (.var 0) (.cons (.cst (.int 9)) .nil)))) .nil))) (.bi .int (.cons (.cmp .eq (.var 1) (.cst (.int 5))) .nil)))) (.cons (.asg (.nm 4) (.lst .nil)) (.cons (.for (.nm 5) (.rng (.cons (.bin .mul (.var 3) (.bi .int (.cons (.cmp .gt (.var 2) (.cst (.int 1))) .nil))) .nil)) (.cons (.expr (.mt .append (.var 4) (.cons (.call "_law_meeting" (.cons (.var 0) (.cons (.var 2) (.cons (.var 4) .nil)))) .nil))) .nil)) (.cons (.ret (.tup (.cons (.var 2) (.cons (.bi .tuple (.cons (.var 4) .nil)) .nil)))) .nil))))))
def fV_law_net : Fd := ⟨1, 6, cV_law_net⟩

section
variable {T : Tab} {n k : Nat} {st g : Sto} {r N : Nat} {o o' : O} {m j : Nat} {ms : List Mt}
/-- a net of deck V -/
structure NetV (m : Nat) (ms : List Mt) : Prop where
  m1 : 1 ≤ m
  m2 : m ≤ 10
  ok : ∀ x ∈ ms, MtV m x
  len : ms.length ≤ 40
theorem NetV.net {m : Nat} {ms : List Mt} (h : NetV m ms) : NetOk (10 ^ 16) m ms := ⟨h.m1, h.m2, fun x hx => (h.ok x hx).1, h.len, fun x hx => by
  obtain ⟨_, h1, h2⟩ := h.ok x hx
  have e : (10 : Int) ^ 13 + 10 ^ 6 ≤ 10 ^ 16 := by decide
  omega⟩
def vlI (st : Sto) (r N m cnt : Nat) (f : D → Option D → Env) (i : Nat) (ρ : Env) (s : Sto) : Prop :=
  ∃ (ms : List Mt) (g : Sto) (o : O) (rk : Option D), ms.length = i ∧ (∀ x ∈ ms, MtV m x) ∧ okd (N + 12 * (cnt - i)) o ∧ s = (st ++ (.lst (ms.map mtD) :: g)).set r o ∧ ρ = f (.ref st.length) rk
theorem netV (W : DrawOk T n) (hF : Has T "_law_far" fS_law_far) (hM : Has T "_law_meeting" fV_law_meeting) (hS : Has T "_law_net" fV_law_net) (hr : r < st.length) (h : okd (N + 500) o) {Q : D → Sto → Prop}
    (q : ∀ (m : Nat) ms o', NetV m ms → okd N o' → Q (netD m ms) (st.set r o')) : ok2 (callF T n (k + 4) "_law_net" [.ref r] (st.set r o)) Q := by
  refine callF_w hS rfl ?_
  simp only [fV_law_net, cV_law_net]
  rw [wB_cons]
  simp
  refine dr_w W hr (N := N + 499) h (by decide) (by decide) fun w o0 a0 b0 h0 => ?_
  rw [wB_cons]
  simp
  refine dr_w W hr (N := N + 498) h0 (by decide) (by decide) fun x1 o1 a1 b1 h1 => ?_
  obtain ⟨m, m1, m2, em⟩ : ∃ m : Nat, 1 ≤ m ∧ m ≤ 10 ∧ L2.atI [D.int (1 + x1), D.int 10] (if w = 5 then 1 else 0) = some (.int (m : Int)) := by
    by_cases hg : w = 5
    · exact ⟨10, by omega, by omega, by simp [hg]⟩
    · exact ⟨(1 + x1).toNat, by omega, by omega, by simp [hg]; omega⟩
  simp [em]
  rw [wB_cons]
  simp
  refine dr_w W hr (N := N + 497) h1 (by decide) (by decide) fun x2 o2 a2 b2 h2 => ?_
  refine dr_w W hr (N := N + 496) h2 (by decide) (by decide) fun x3 o3 a3 b3 h3 => ?_
  obtain ⟨c, c1, c2, ec⟩ : ∃ c : Int, 0 ≤ c ∧ c ≤ 40 ∧ L2.atI [D.int x2, D.int (40 - x3)] (if w = 5 then 1 else 0) = some (.int c) := by
    by_cases hg : w = 5
    · exact ⟨40 - x3, by omega, by omega, by simp [hg]⟩
    · exact ⟨x2, by omega, by omega, by simp [hg]⟩
  simp [ec]
  rw [wB_cons]
  simp [pull hr]
  have hr2 : ∀ g : Sto, r < (st ++ g).length := fun g => by simp; omega
  obtain ⟨cnt, k1, k2, ek⟩ : ∃ cnt : Nat, cnt ≤ 40 ∧ (0 < cnt → 2 ≤ m) ∧ c * (if 1 < (m : Int) then 1 else 0) = (cnt : Int) := by
    by_cases h1 : 1 < (m : Int)
    · exact ⟨c.toNat, by omega, by intro _; omega, by simp [h1]; omega⟩
    · exact ⟨0, by omega, by omega, by simp [h1]⟩
  have mk : mulOk c (if 1 < (m : Int) then 1 else 0) = true := mulOk_r (by split <;> decide) (by split <;> decide)
  rw [wB_cons]
  simp [mk, ek, rngN (show cnt < 2 ^ 62 by omega)]
  refine for_rng (vlI st r N m cnt fun l r4 => [some (.ref r), some (.int w), some (.int m), some (.int c), some l, r4]) ?_ ?_ _ _ ⟨[], [], o3, none, rfl, by simp, h3.mono (by omega), rfl, rfl⟩
  · rintro ρ s ⟨ms, g, o', rk, e1, e2, e4, rfl, rfl⟩
    simp only []
    rw [wB_cons]
    simp [tup_ref (getd0 (o := o') (g := .lst (ms.map mtD) :: g) hr)]
    have hd : (D.tup [.int (m : Int), .tup (ms.map mtD)]).low st.length = true := by simp [lowL_mt]
    rw [gc_da hr e4 hd]
    exact q m ms o' ⟨m1, m2, e2, by omega⟩ (e4.mono (by omega))
  · rintro i ρ s hi ⟨ms, g, o', rk, e1, e2, e4, rfl, rfl⟩
    refine ⟨_, rfl, ?_⟩
    show wB _ _ _ _ _ _
    obtain ⟨N', eN⟩ : ∃ N', N' = N + 12 * (cnt - (i + 1)) := ⟨_, rfl⟩
    rw [wB_cons]
    simp
    refine meetV (k := k) W hF hM (hr2 _) (N := N') (e4.mono (by omega)) (m := m) (k2 (by omega)) (by omega) (j := st.length) (ms := ms) (by simp) (by omega) (by omega) e2 fun x o3 hx h3 => ?_
    simp [kdw_ref (getd0 (o := o3) (g := .lst (ms.map mtD) :: g) hr), kdw_ref (getd0 (o := o') (g := .lst (ms.map mtD) :: g) hr), app_ref (getd0 (o := o3) (g := .lst (ms.map mtD) :: g) hr) (by simp; omega), setd0 hr]
    refine ⟨ms ++ [x], g, o3, _, by simp [e1], fun y hy => ?_, by rw [← eN]; exact h3, by simp, rfl⟩
    rcases List.mem_append.mp hy with hy | hy
    · exact e2 y hy
    · rw [List.mem_singleton.mp hy]; exact hx
def vsI (st : Sto) (d : D) (ms : List Mt) (zs : List (Mt × Nat)) (ρ : Env) (s : Sto) : Prop := ∃ (j : Nat) (ms' : List Mt) (done : List Sp) (r2 r3 r4 r5 r6 r7 r8 : Option D), zs = ms'.zipIdx j ∧ s = st ++ [.lst (done.map spD)] ∧ done ++ stepsF j ms' = stepsF 0 ms ∧ ρ = [some d, some (.ref st.length), r2, r3, r4, r5, r6, r7, r8]
theorem lstepsV (hT : Has T "_law_steps" fV_law_steps) {m : Int} {ms : List Mt} (hl : ms.length ≤ 1000000) : callF T n (k + 1) "_law_steps" [netD m ms] st = some (.ref st.length, st ++ [.lst ((stepsF 0 ms).map spD)]) := by
  refine callF_eq (callF_w hT rfl ?_)
  simp [fV_law_steps, cV_law_steps, wB_cons, netD]
  have hlen := steps_len 0 ms
  have e : enmD 0 (ms.map mtD) = (ms.zipIdx).map fun p => .tup [.int (p.2 : Int), mtD p.1] := by
    have : ∀ (j : Nat) (l : List Mt), enmD j (l.map mtD) = (l.zipIdx j).map fun p => .tup [.int (p.2 : Int), mtD p.1] := by
      intro j l
      induction l generalizing j with
      | nil => rfl
      | cons x xs ih => simp [enmD, ih]
    exact this 0 ms
  rw [e]
  refine for_map _ (vsI st (.tup [.int m, .tup (ms.map mtD)]) ms) ?_ ?_ _ _ _ ⟨0, ms, [], none, none, none, none, none, none, none, rfl, rfl, rfl, rfl⟩
  · rintro ρ s ⟨j, ms', done, r2, r3, r4, r5, r6, r7, r8, e, rfl, hd, rfl⟩
    cases ms' with
    | cons _ _ => simp at e
    | nil =>
      simp [stepsF] at hd
      refine ⟨rfl, ?_⟩
      have := gc_one (st := st) (o := .lst ((stepsF 0 ms).map spD)) (by simp [O.low, lowL_sp])
      simp [hd, this]
  · rintro z zs ρ s ⟨j, ms', done, r2, r3, r4, r5, r6, r7, r8, e, rfl, hd, rfl⟩
    cases ms' with
    | nil => simp at e
    | cons y ms' =>
      simp only [List.zipIdx_cons, List.cons.injEq] at e
      obtain ⟨rfl, rfl⟩ := e
      refine ⟨rfl, _, rfl, ?_⟩
      have hle : done.length + (stepsF j (y :: ms')).length = (stepsF 0 ms).length := by rw [← List.length_append, hd]
      simp only [stepsF, List.length_cons, List.length_append] at hle
      have hd' : done.length < 16777216 := by omega
      have hd2 : done.length + 1 < 16777216 := by omega
      show wB _ _ _ _ _ _
      simp [wB_cons, mtD, app_ref get_last, hd', hd2, wd_both]
      cases hb : y.bo
      · simp
        exact ⟨j + 1, ms', done ++ [⟨j, y.a, y.b, y.t, y.t + y.l⟩], _, _, _, _, _, _, _, rfl, by simp [spD], by rw [← hd]; simp [stepsF, hb], rfl⟩
      · simp [app_ref get_last, hd2]
        exact ⟨j + 1, ms', done ++ [⟨j, y.a, y.b, y.t, y.t + y.l⟩, ⟨j, y.b, y.a, y.t, y.t + y.l⟩], _, _, _, _, _, _, _, rfl, by simp [spD], by rw [← hd]; simp [stepsF, hb], rfl⟩
theorem plL_spV {S : List Sp} : plL 59 (S.map spD) = true := by
  induction S with
  | nil => rfl
  | cons x xs ih => rw [List.map_cons]; simp [plL, ih, spD, pl]
theorem nbL_spV {S : List Sp} : nbL (S.map spD) = true := by
  induction S with
  | nil => rfl
  | cons x xs ih => rw [List.map_cons]; simp [nbL, ih, spD, nb]
theorem sps_ne {S : List Sp} {s : Sto} {j : Nat} (h : s[j]? = some (.lst (S.map spD))) : pyEq s (.val (.ref j)) (.tmp []) = some (decide (S = [])) := by
  rw [pyEq_list (xs := S.map spD) (ys := []) (listOf_ref h) rfl plL_spV rfl nbL_spV rfl]
  simp
theorem momentV (W : DrawOk T n) (hF : Has T "_law_far" fS_law_far) (hM : Has T "_law_moment" fV_law_moment) (hr : r < st.length) (h : okd (N + 6) o) {S : List Sp} (hj : st[j]? = some (.lst (S.map spD))) (hjr : j ≠ r) (hl : S.length ≤ 1000000) {Q : D → Sto → Prop}
    (q : ∀ x o', 0 ≤ x → x ≤ 10 ^ 13 → okd N o' → Q (.int x) (st.set r o')) : ok2 (callF T n (k + 3) "_law_moment" [.ref r, .ref j] (st.set r o)) Q := by
  refine callF_w hM rfl ?_
  have hg : ∀ o : O, (st.set r o)[j]? = some (.lst (S.map spD)) := fun o => by rw [get_d hjr]; exact hj
  have hne : ∀ o : O, pyEq (st.set r o) (.val (.ref j)) (.tmp []) = some (decide (S = [])) := fun o => sps_ne (hg o)
  have p13 : powOk 10 13 = true := by decide
  have fin : ∀ x o', 0 ≤ x → x ≤ 10 ^ 13 → okd N o' → Q (gc (st.set r o) (.int x) (st.set r o')).1 (gc (st.set r o) (.int x) (st.set r o')).2 := fun x o' h1 h2 h3 => by
    rw [gc_d hr h3 (d := .int x) rfl]; exact q x o' h1 h2 h3
  simp only [fV_law_moment, cV_law_moment]
  rw [wB_cons]
  simp
  refine dr_w W hr (N := N + 5) h (by decide) (by decide) fun w o1 a1 b1 h1 => ?_
  rw [wB_cons]
  refine st_cut (fun f ρ s => (∃ x o', f = .rt (.int x) ∧ 0 ≤ x ∧ x ≤ 10 ^ 13 ∧ okd N o' ∧ s = st.set r o') ∨ (f = .nx ∧ s = st.set r o1 ∧ ρ = [some (.ref r), some (.ref j), some (.int w), none])) ?_ ?_
  · by_cases hw : 0 < w ∧ w < 4
    · by_cases hn : S = []
      · simp [hw.1, hw.2, hne, hn]
      · have hpos : 0 < S.length := List.length_pos_iff.mpr hn
        simp [hw.1, hw.2, hne, hn, wB_cons, len_ref (hg _)]
        refine dr_w W hr (N := N + 4) h1 (by omega) (by omega) fun x o2 a2 b2 h2 => ?_
        obtain ⟨y, hy, ey⟩ := atI_map (f := spD) (ys := S) a2 b2
        simp [idx_ref (hg _), ey, p13]
        refine dr_w W hr (N := N + 3) h2 (by decide) (by decide) fun z o3 a3 b3 h3 => ?_
        obtain ⟨v, ev⟩ : ∃ v : Int, L2.atI [D.int y.k, D.int y.a, D.int y.b, D.int y.t, D.int y.u] (3 + z) = some (.int v) := by
          obtain rfl | rfl : z = 0 ∨ z = 1 := by omega
          · exact ⟨y.t, by rfl⟩
          · exact ⟨y.u, by rfl⟩
        simp [spD, ev]
        refine dr_w W hr (N := N + 2) h3 (by decide) (by decide) fun u o4 a4 b4 h4 => ?_
        obtain ⟨dv, ed⟩ : ∃ dv : Int, L2.atI [D.int 0, D.int 0, D.int 1, D.int (-1)] u = some (.int dv) := by
          obtain rfl | rfl | rfl | rfl : u = 0 ∨ u = 1 ∨ u = 2 ∨ u = 3 := by omega
          all_goals exact ⟨_, by rfl⟩
        simp [ed]
        refine ⟨?_, ?_, o4, h4.mono (by omega), rfl⟩
        · split <;> split <;> omega
        · split <;> split <;> omega
    · by_cases h0 : 0 < w
      · have h4 : ¬ w < 4 := fun z => hw ⟨h0, z⟩
        simp [h0, h4]
      · simp [h0]
  rintro f ρ s (⟨x, o', rfl, x0, x1, h', rfl⟩ | ⟨rfl, rfl, rfl⟩)
  · exact fin x o' x0 x1 h'
  simp only []
  rw [wB_cons]
  by_cases h4 : w = 4
  · simp [h4, wB_cons]
    refine dr_w W hr (N := N + 4) h1 (by decide) (by decide) fun x o2 a2 b2 h2 => ?_
    exact fin x o2 a2 (by omega) (h2.mono (by omega))
  · simp [h4]
    rw [wB_cons]
    simp
    refine farS W hF hr (N := N + 2) (h1.mono (by omega)) fun x o2 a2 b2 h2 => ?_
    by_cases h5 : w = 5
    · simp [h5]
      exact fin x o2 a2 (by omega) (h2.mono (by omega))
    · simp [h5]
      exact fin 0 o2 (by omega) (by decide) (h2.mono (by omega))
theorem boundV (W : DrawOk T n) (hB : Has T "_law_bound" fV_law_bound) (hr : r < st.length) (h : okd (N + 5) o) {S : List Sp} (hj : st[j]? = some (.lst (S.map spD))) (hjr : j ≠ r) (hl : S.length ≤ 1000000) {Q : D → Sto → Prop}
    (q : ∀ x o', 0 ≤ x → x ≤ 10 ^ 13 → okd N o' → Q (.int x) (st.set r o')) : ok2 (callF T n (k + 2) "_law_bound" [.ref r, .ref j] (st.set r o)) Q := by
  refine callF_w hB rfl ?_
  have hg : ∀ o : O, (st.set r o)[j]? = some (.lst (S.map spD)) := fun o => by rw [get_d hjr]; exact hj
  have hne : ∀ o : O, pyEq (st.set r o) (.val (.ref j)) (.tmp []) = some (decide (S = [])) := fun o => sps_ne (hg o)
  have p13 : powOk 10 13 = true := by decide
  have p12 : powOk 10 12 = true := by decide
  have fin : ∀ x o', 0 ≤ x → x ≤ 10 ^ 13 → okd N o' → Q (gc (st.set r o) (.int x) (st.set r o')).1 (gc (st.set r o) (.int x) (st.set r o')).2 := fun x o' h1 h2 h3 => by
    rw [gc_d hr h3 (d := .int x) rfl]; exact q x o' h1 h2 h3
  simp only [fV_law_bound, cV_law_bound]
  rw [wB_cons]
  simp
  refine dr_w W hr (N := N + 4) h (by decide) (by decide) fun w o1 a1 b1 h1 => ?_
  rw [wB_cons]
  refine st_cut (fun f ρ s => (∃ x o', f = .rt (.int x) ∧ 0 ≤ x ∧ x ≤ 10 ^ 13 ∧ okd N o' ∧ s = st.set r o') ∨ (f = .nx ∧ s = st.set r o1 ∧ ρ = [some (.ref r), some (.ref j), some (.int w), none, none])) ?_ ?_
  · by_cases hw : w < 2
    · by_cases hn : S = []
      · simp [hw, hne, hn]
      · have hpos : 0 < S.length := List.length_pos_iff.mpr hn
        simp [hw, hne, hn, wB_cons, len_ref (hg _)]
        refine dr_w W hr (N := N + 3) h1 (by omega) (by omega) fun x o2 a2 b2 h2 => ?_
        obtain ⟨y, hy, ey⟩ := atI_map (f := spD) (ys := S) a2 b2
        simp [idx_ref (hg _), ey, len_ref (hg _)]
        refine dr_w W hr (N := N + 2) h2 (by omega) (by omega) fun z o3 a3 b3 h3 => ?_
        obtain ⟨y', hy', ey'⟩ := atI_map (f := spD) (ys := S) a3 b3
        simp [idx_ref (hg _), ey', p13, spD]
        refine dr_w W hr (N := N + 1) h3 (by decide) (by decide) fun u o4 a4 b4 h4 => ?_
        try simp
        refine ⟨?_, ?_, o4, h4.mono (by omega), rfl⟩
        · split <;> split <;> omega
        · split <;> split <;> omega
    · simp [hw]
  rintro f ρ s (⟨x, o', rfl, x0, x1, h', rfl⟩ | ⟨rfl, rfl, rfl⟩)
  · exact fin x o' x0 x1 h'
  simp only []
  rw [wB_cons]
  by_cases h2 : w = 2
  · simp [h2, wB_cons]
    exact fin 0 o1 (by omega) (by decide) (h1.mono (by omega))
  · simp [h2]
    obtain ⟨bd, d0, d1, ed⟩ : ∃ bd : Int, 0 < bd ∧ bd ≤ 31 ∧ L2.atI [D.int 31, D.int 4, D.int 13, D.int 31, D.int 31, D.int 31] w = some (.int bd) := by
      obtain rfl | rfl | rfl | rfl | rfl | rfl : w = 0 ∨ w = 1 ∨ w = 2 ∨ w = 3 ∨ w = 4 ∨ w = 5 := by omega
      all_goals first | exact ⟨31, by decide, by decide, by rfl⟩ | exact ⟨4, by decide, by decide, by rfl⟩ | exact ⟨13, by decide, by decide, by rfl⟩
    rw [wB_cons]
    simp [ed]
    refine dr_w W hr (N := N + 3) h1 d0 (by omega) fun x o2 a2 b2 h2 => ?_
    have m1 : ∀ y : Int, mulOk 1000000000000 y = true := fun y => mulOk_l (by decide) (by decide)
    have m2 : ∀ y : Int, mulOk 9000000000000 y = true := fun y => mulOk_l (by decide) (by decide)
    simp [p12, m1, m2]
    refine fin _ o2 ?_ ?_ (h2.mono (by omega))
    · split <;> omega
    · split <;> omega
end
end Mw

set_option Elab.async false
set_option linter.all false
set_option autoImplicit false
set_option maxRecDepth 100000
/-! PyR5: nets read of texts by the laws of ways. -/
namespace Mw
open PySem
structure HRd (T : Tab) : Prop where
  isn : Has T "is_number_word" fis_number_word
  rnum : Has T "read_number" fread_number
  rmee : Has T "read_meeting" fread_meeting
  whole : Has T "is_whole" fis_whole
  place : Has T "is_place" fis_place
  meet : Has T "is_meeting" fis_meeting
  net : Has T "is_net" fis_net
  rnet : Has T "read_net" fread_net
def shM (d : Int) (x : Mt) : Mt := ⟨x.bo, x.a, x.b, x.t + d, x.l⟩
section
variable {T : Tab} {n k : Nat} {st : Sto} {m : Nat} {ms : List Mt}
theorem EarOk.tx (h : EarOk m ms) : ∀ x ∈ ms, x.tx := fun x hx => by
  have e : (10 : Nat) ^ 200 ≤ 10 ^ 300 := Nat.pow_le_pow_right (by decide) (by decide)
  have e1 : (1000 : Nat) < 10 ^ 300 := Nat.lt_of_lt_of_le (show 1000 < 10 ^ 4 by decide) (Nat.pow_le_pow_right (by decide) (by decide))
  have := h.m2
  obtain ⟨h1, h2, h3, h4, h5, h6, h7⟩ := h.ok x hx
  have := h.bd x hx
  exact ⟨⟨h1, by omega⟩, ⟨h3, by omega⟩, ⟨h6, by omega⟩, ⟨by omega, by omega⟩⟩
theorem EarOk.m300 (h : EarOk m ms) : m < 10 ^ 300 := by
  have e1 : (1000 : Nat) < 10 ^ 300 := Nat.lt_of_lt_of_le (show 1000 < 10 ^ 4 by decide) (Nat.pow_le_pow_right (by decide) (by decide))
  have := h.m2
  omega
theorem HRd.read (H : HRd T) (h : EarOk m ms) : callF T n (k + 5) "read_net" [.str (netS m ms)] st = some (netD m ms, st) := by
  have := h.len
  exact read_net_ok H.isn H.rnum H.rmee H.whole H.place H.meet H.net H.rnet h.m1 h.m300 (by omega) h.tx h.ok
theorem net_join {j : Nat} (h : EarOk m ms) (hj : st[j]? = some (.lst ((netP m ms).map .str))) : mtApp st .join (.val (.str "\n")) [.val (.ref j)] = some (.val (.str (netS m ms)), st) := by
  have hnb : ∀ x ∈ netP m ms, x.length ≤ 1505 := by
    intro x hx
    rcases List.mem_cons.mp hx with rfl | hx
    · exact head_len h.m300
    · obtain ⟨y, hy, rfl⟩ := List.mem_map.mp hx
      exact lineS_len (h.tx y hy)
  have hsum := sum_le hnb
  have hone : (Str.ofString "\n").length = 1 := by decide +kernel
  have hnl : (netP m ms).length = ms.length + 1 := by simp [netP]
  have hl := h.len
  have hmul : (netP m ms).length * 1505 ≤ 5001 * 1505 := Nat.mul_le_mul_right _ (by omega)
  have h0 := join_app (s := st) (y := Str.ofString "\n") (ys := netP m ms) (by rw [hone]; omega)
  have hsq : seqOf st (.val (.ref j)) = some ((netP m ms).map .str) := by simp only [seqOf, hj]
  simp only [mtApp, mtJoin, hsq] at h0 ⊢
  exact h0
theorem head_sz (hm : m < 10 ^ 300) : szOk ((Str.ofString "places ").length + (numS m).length) = true := by
  have h1 : (Str.ofString "places ").length = 7 := by decide +kernel
  have h2 : (numS m).length ≤ 300 := by rw [TL.len_tl, numS_tl]; exact TL.numL_len (by decide) hm
  exact decide_eq_true (by omega)
end
/-! ### rows to and fro -/
def rowM (f : Int) (b : Bool) (k : Nat) : Mt := if b then ⟨true, 0, 1, f + k, 1⟩ else ⟨false, (k : Int) % 2, 1 - (k : Int) % 2, f + k, 1⟩
def LongOk (f : Int) (ms : List Mt) : Prop := ∀ (k : Nat) (x : Mt), ms[k]? = some x → ∃ b, x = rowM f b k
theorem LongOk.snoc {f : Int} {ms : List Mt} (h : LongOk f ms) (b : Bool) : LongOk f (ms ++ [rowM f b ms.length]) := fun k x hx => by
  by_cases hk : k < ms.length
  · rw [List.getElem?_append_left hk] at hx; exact h k x hx
  · rw [List.getElem?_append_right (by omega)] at hx
    have : k = ms.length := by
      have := (List.getElem?_eq_some_iff.mp hx).1
      simp at this; omega
    subst this
    simp at hx
    exact ⟨b, hx.symm⟩
theorem LongOk.ear {f : Int} {ms : List Mt} (h : LongOk f ms) (hf : 0 ≤ f ∧ f < 1000) (hl : ms.length ≤ 1000) : EarOk 2 ms := by
  refine ⟨fun x hx => ?_, by decide, by decide, by omega, fun x hx => ?_⟩
  · obtain ⟨k, hk⟩ := List.getElem?_of_mem hx
    obtain ⟨b, rfl⟩ := h k x hk
    have h1 : (k : Int) % 2 = 0 ∨ (k : Int) % 2 = 1 := by omega
    cases b <;> simp only [rowM, Mt.ok, if_true, Bool.false_eq_true, if_false] <;> omega
  · obtain ⟨k, hk⟩ := List.getElem?_of_mem hx
    have hkl := (List.getElem?_eq_some_iff.mp hk).1
    obtain ⟨b, rfl⟩ := h k x hk
    cases b <;> simp only [rowM, if_true, Bool.false_eq_true, if_false] <;> omega
section
variable {T : Tab} {n k : Nat} {st : Sto} {r : Nat} {o : O}
end
/-! ### moved on -/
end Mw

set_option Elab.async false
set_option linter.all false
set_option autoImplicit false
set_option maxRecDepth 100000
/-! PyR6: nets and ways turned about. -/
namespace Mw
open PySem
section
variable {ms : List Mt} {top p t : Int} {m : Nat}
end
section
variable {T : Tab} {n k : Nat} {st : Sto} {ms : List Mt} {m top : Int}
end
/-! ### from where a row of numbers can be gone -/
section
variable {T : Tab} {n k : Nat} {st : Sto} {ms : List Mt} {m : Nat}
end
end Mw

set_option Elab.async false
set_option linter.all false
set_option autoImplicit false
set_option maxRecDepth 100000
/-! PyN9: ways and papers by a law's hand (second kind). -/
namespace Mw
open PySem
section
variable {T : Tab} {n k : Nat} {st g : Sto} {r N : Nat} {o o' q : O}
/-! ### by hand -/
end
end Mw

set_option Elab.async false
set_option linter.all false
set_option autoImplicit false
set_option maxRecDepth 100000
/-! PyO1: the way that comes earliest, told. -/
namespace Mw
open PySem
section
variable {S : List Sp} {F : List (Option Cg)} {p0 m0 : Int}
/-- what is kept of a place -/
def gF (F : List (Option Cg)) (p : Int) : Option Cg := if 0 ≤ p then (F[p.toNat]?).join else none
theorem gF_mo {p : Int} : mo (gF F p) = tfc F p := by
  unfold gF tfc tf
  split
  · rw [List.getElem?_map]
    cases F[p.toNat]? <;> rfl
  · rfl
theorem gF_set {q : Int} {c : Option Cg} (h0 : 0 ≤ q) (h1 : q.toNat < F.length) (p : Int) : gF (F.set q.toNat c) p = if p = q then c else gF F p := by
  unfold gF
  by_cases hp : p = q
  · subst hp
    rw [if_pos h0, if_pos rfl, List.getElem?_set_self h1]; rfl
  · rw [if_neg hp]
    split
    · rw [List.getElem?_set_ne (by omega)]
    · rfl
/-- each place come to is come to from one that is come to ahead of it -/
structure Bk (S : List Sp) (p0 m0 : Int) (F : List (Option Cg)) : Prop where
  st : gF F p0 = some ⟨m0, none⟩
  mn : ∀ p c, gF F p = some c → m0 ≤ c.m
  go : ∀ p c, gF F p = some c → p = p0 ∨ ∃ s ∈ S, ∃ c', c.nm = some ((s.k : Int), s.a) ∧ s.b = p ∧ s.u = c.m ∧ gF F s.a = some c' ∧ c'.m ≤ s.t
theorem Bk.step {m : Nat} (B : Bk S p0 m0 F) (hl : F.length = m) {s : Sp} (hs : s ∈ S) (hi : SpIn m s) : Bk S p0 m0 (comStep F s) := by
  unfold comStep
  split
  · rename_i hl'
    obtain ⟨t, e1, e2, e3⟩ := lowers_iff.mp hl'
    rw [← gF_mo] at e1
    obtain ⟨c0, ec, rfl⟩ : ∃ c0, gF F s.a = some c0 ∧ c0.m = t := by
      cases h : gF F s.a with
      | none => rw [h] at e1; cases e1
      | some c => rw [h] at e1; exact ⟨c, rfl, by simpa [mo] using e1⟩
    have low : ∀ c', gF F s.b = some c' → s.u < c'.m := fun c' h => e3 _ (by rw [← gF_mo, h]; rfl)
    have htu := hi.2.2.2.2
    have hne : s.a ≠ s.b := fun e => by
      have := low c0 (e ▸ ec)
      omega
    have hb0 : p0 ≠ s.b := fun e => by
      have h1 := low _ (e ▸ B.st)
      have h2 := B.mn _ _ ec
      simp only at h1
      omega
    have gs := gF_set (c := some ⟨s.u, some (s.k, s.a)⟩) hi.2.2.1 (by rw [hl]; exact hi.2.2.2.1)
    refine ⟨by rw [gs, if_neg hb0]; exact B.st, fun p c h => ?_, fun p c h => ?_⟩
    · rw [gs] at h
      split at h
      · cases h
        have := B.mn _ _ ec
        show m0 ≤ s.u
        omega
      · exact B.mn _ _ h
    · rw [gs] at h
      split at h
      · rename_i e
        cases h
        exact .inr ⟨s, hs, c0, rfl, e.symm, rfl, by rw [gs, if_neg hne]; exact ec, e2⟩
      · rcases B.go p c h with h | ⟨s', h1, c', h2, h3, h4, h5, h6⟩
        · exact .inl h
        · refine .inr ⟨s', h1, ?_⟩
          by_cases e : s'.a = s.b
          · refine ⟨_, h2, h3, h4, by rw [gs, if_pos e], ?_⟩
            have := low c' (e ▸ h5)
            show s.u ≤ s'.t
            omega
          · exact ⟨c', h2, h3, h4, by rw [gs, if_neg e]; exact h5, h6⟩
  · exact B
end
section
variable {T : Tab} {n k : Nat} {st : Sto}
end
end Mw

set_option Elab.async false
set_option linter.all false
set_option autoImplicit false
set_option maxRecDepth 100000
/-! PyO2: ways told are right. -/
namespace Mw
open PySem
section
variable {T : Tab} {n k : Nat} {st : Sto}
theorem EarOk.rev {m : Nat} {ms : List Mt} (h : EarOk m ms) : EarOk m ms.reverse :=
  ⟨fun x hx => h.ok x (List.mem_reverse.mp hx), h.m1, h.m2, by rw [List.length_reverse]; exact h.len, fun x hx => h.bd x (List.mem_reverse.mp hx)⟩
end
end Mw

set_option Elab.async false
set_option linter.all false
set_option autoImplicit false
set_option maxRecDepth 100000
/-! PyO3: papers told are right. -/
namespace Mw
open PySem
section
variable {T : Tab} {n k : Nat} {st : Sto}
end
end Mw

set_option Elab.async false
set_option linter.all false
set_option autoImplicit false
set_option maxRecDepth 100000
/-! PyL1: the deck of the laws of latest and of least times: two lists at the store's head. -/
namespace Mw
open PySem
/-- the deck's objects: the script's cells, those left, the deck -/
structure Zd where
  xs : List Int
  cs : List Int
  a : Int
  b : Int
  hl : cs.length ≤ 63
def Zd.o (d : Zd) : Sto := [.lst (d.xs.map .int), .lst (d.cs.map .int), .lst [.ref 1, .int d.a, .int d.b]]
section
variable {d d' : Zd} {g l : Sto} {i : Nat} {q : O}
@[simp] theorem Zd.len : d.o.length = 3 := rfl
@[simp] theorem Zd.get : (d.o ++ g)[3 + i]? = g[i]? := by
  rw [List.getElem?_append_right (by rw [Zd.len]; omega), Zd.len]; congr 1; omega
@[simp] theorem Zd.get0 : (d.o ++ g)[3]? = g[0]? := Zd.get (i := 0)
@[simp] theorem Zd.set : (d.o ++ g).set (3 + i) q = d.o ++ g.set i q := by
  rw [List.set_append_right _ _ (by rw [Zd.len]; omega), Zd.len]; congr 2; omega
@[simp] theorem Zd.set0 : (d.o ++ g).set 3 q = d.o ++ g.set 0 q := Zd.set (i := 0)
@[simp] theorem Zd.at2 : (d.o ++ g)[2]? = some (.lst [.ref 1, .int d.a, .int d.b]) := rfl
@[simp] theorem Zd.at1 : (d.o ++ g)[1]? = some (.lst (d.cs.map .int)) := rfl
theorem Zd.put1 {cs : List Int} (h : cs.length ≤ 63) : (d.o ++ g).set 1 (.lst (cs.map .int)) = (⟨d.xs, cs, d.a, d.b, h⟩ : Zd).o ++ g := rfl
end
section
variable {T : Tab} {n k : Nat} {d : Zd} {g : Sto}
@[simp] theorem Zd.ix0 : idxApp (d.o ++ g) (.val (.ref 2)) (.val (.int 0)) = some (.val (.ref 1)) := by rw [idx_ref Zd.at2]; rfl
@[simp] theorem Zd.ix1 : idxApp (d.o ++ g) (.val (.ref 2)) (.val (.int 1)) = some (.val (.int d.a)) := by rw [idx_ref Zd.at2]; rfl
@[simp] theorem Zd.ix2 : idxApp (d.o ++ g) (.val (.ref 2)) (.val (.int 2)) = some (.val (.int d.b)) := by rw [idx_ref Zd.at2]; rfl
theorem Zd.pu {b : Int} : putApp (d.o ++ g) (.val (.ref 2)) (.val (.int 2)) (.int b) = some ((⟨d.xs, d.cs, d.a, b, d.hl⟩ : Zd).o ++ g) := by
  rw [put_ref' Zd.at2 (by decide) (by simp)]; rfl
theorem Zd.pop (h : d.cs ≠ []) : ∃ (x : Int) (d' : Zd), mtApp (d.o ++ g) .pop (.val (.ref 1)) [] = some (.val (.int x), d'.o ++ g) ∧ d'.cs.length < 63 := by
  have h1 := d.hl
  have h2 := List.dropLast_concat_getLast h
  obtain ⟨cs, ecs⟩ : ∃ cs, cs = d.cs.dropLast := ⟨_, rfl⟩
  obtain ⟨x, ex⟩ : ∃ x, x = d.cs.getLast h := ⟨_, rfl⟩
  rw [← ecs, ← ex] at h2
  have hl : cs.length < 63 := by
    have := congrArg List.length h2
    simp at this; omega
  have e1 : (d.o ++ g)[1]? = some (.lst (cs.map .int ++ [.int x])) := by rw [Zd.at1, ← h2]; simp
  refine ⟨x, ⟨d.xs, cs, d.a, d.b, by omega⟩, ?_, hl⟩
  rw [← Zd.put1 (d := d) (g := g) (cs := cs) (by omega)]
  simp only [mtApp, mtPop, e1]
  simp
end
end Mw

set_option Elab.async false
set_option linter.all false
set_option autoImplicit false
set_option maxRecDepth 100000
/-! PyL2: the earliest by going over all steps; the begins from a place. -/
namespace Mw
open PySem
section
variable {T : Tab} {n k : Nat} {st : Sto} {ms : List Mt} {m : Nat}
/-! ### begins -/
end
end Mw

set_option Elab.async false
set_option linter.all false
set_option autoImplicit false
set_option maxRecDepth 100000
/-! PyS2: what spreads; the table is the only one that is least by itself. -/
namespace Mw
open PySem
structure Ofr where
  t : Int
  h : Int
  k : Int
def Ofr.key (x : Ofr) : List Int := [x.t, x.h, x.k]
def ofD (x : Ofr) : D := .tup [.int x.t, .int x.h, .int x.k]
def tbD : Option Ofr → D
  | none => .non
  | some x => ofD x
def tg (tab : List (Option Ofr)) (p : Int) : Option Ofr := if 0 ≤ p then (tab[p.toNat]?).join else none
def handO (hs : List (Int × Int)) (p : Int) : List Ofr := ((List.range hs.length).filter fun i => decide ((hs.getD i (0, 0)).1 = p)).map fun i => ⟨(hs.getD i (0, 0)).2, i, -1⟩
def goes (tab : List (Option Ofr)) (p : Int) (s : Sp) : Option Ofr := if s.b = p then (match tg tab s.a with
  | some x => if x.t ≤ s.t then some ⟨s.u, x.h, s.k⟩ else none
  | none => none) else none
def offers (hs : List (Int × Int)) (S : List Sp) (tab : List (Option Ofr)) (p : Int) : List Ofr := handO hs p ++ S.filterMap (goes tab p)
structure RT (S : List Sp) (hs : List (Int × Int)) (m : Nat) (tab : List (Option Ofr)) : Prop where
  len : tab.length = m
  no : ∀ p : Int, 0 ≤ p → p < m → tg tab p = none → offers hs S tab p = []
  yes : ∀ (p : Int) (x : Ofr), tg tab p = some x → x ∈ offers hs S tab p ∧ ∀ y ∈ offers hs S tab p, x.key ≤ y.key
section
variable {S : List Sp} {hs : List (Int × Int)} {m : Nat} {tab tab' : List (Option Ofr)}
theorem Ofr.key_inj {x y : Ofr} (h : x.key = y.key) : x = y := by
  cases x; cases y; simp [Ofr.key] at h; simp [h]
theorem key_t {x y : Ofr} (h : x.key ≤ y.key) : x.t ≤ y.t := by
  rcases Int.lt_or_le y.t x.t with h1 | h1
  · exact absurd (List.cons_lt_cons_iff.mpr (.inl h1) : y.key < x.key) (List.not_lt.mpr h)
  · exact h1
theorem key_of_t {x y : Ofr} (h : x.t < y.t) : x.key ≤ y.key := List.le_of_lt (List.cons_lt_cons_iff.mpr (.inl h))
theorem tg_lt {p : Int} {x : Ofr} (h : tg tab p = some x) : 0 ≤ p ∧ p < tab.length := by
  unfold tg at h
  split at h
  · rename_i h0
    refine ⟨h0, ?_⟩
    cases e : tab[p.toNat]? with
    | none => rw [e] at h; cases h
    | some y => have := (List.getElem?_eq_some_iff.mp e).1; omega
  · cases h
theorem mem_offers {p : Int} {y : Ofr} : y ∈ offers hs S tab p ↔ y ∈ handO hs p ∨ ∃ s ∈ S, s.b = p ∧ ∃ x, tg tab s.a = some x ∧ x.t ≤ s.t ∧ y = ⟨s.u, x.h, s.k⟩ := by
  simp only [offers, List.mem_append, List.mem_filterMap]
  refine or_congr Iff.rfl ⟨?_, ?_⟩
  · rintro ⟨s, hs, h⟩
    unfold goes at h
    split at h
    · rename_i hb
      split at h
      · rename_i x hx
        split at h
        · rename_i hle
          cases h
          exact ⟨s, hs, hb, x, hx, hle, rfl⟩
        · cases h
      · cases h
    · cases h
  · rintro ⟨s, hs, hb, x, hx, hle, rfl⟩
    exact ⟨s, hs, by unfold goes; rw [if_pos hb, hx]; simp [hle]⟩
/-- while places are taken -/
structure SI (S : List Sp) (hs : List (Int × Int)) (m : Nat) (tab : List (Option Ofr)) : Prop where
  len : tab.length = m
  yes : ∀ (p : Int) (x : Ofr), tg tab p = some x → x ∈ offers hs S tab p ∧ ∀ y ∈ offers hs S tab p, x.key ≤ y.key
  tau : ∃ τ : Int, (∀ (p : Int) (x : Ofr), tg tab p = some x → x.t ≤ τ) ∧ ∀ p : Int, 0 ≤ p → p < m → tg tab p = none → ∀ y ∈ offers hs S tab p, τ ≤ y.t
def cand (hs : List (Int × Int)) (S : List Sp) (tab : List (Option Ofr)) (m : Nat) : List (Ofr × Int) := (List.range m).flatMap fun (i : Nat) => if (tg tab (i : Int)).isNone then (offers hs S tab (i : Int)).map fun x => (x, (i : Int)) else []
theorem mem_cand {z : Ofr × Int} : z ∈ cand hs S tab m ↔ 0 ≤ z.2 ∧ z.2 < m ∧ tg tab z.2 = none ∧ z.1 ∈ offers hs S tab z.2 := by
  simp only [cand, List.mem_flatMap, List.mem_range]
  constructor
  · rintro ⟨i, hi, h⟩
    split at h
    · rename_i hn
      obtain ⟨x, hx, rfl⟩ := List.mem_map.mp h
      exact ⟨by simp only; omega, by simp only; omega, by simpa using hn, hx⟩
    · cases h
  · rintro ⟨h0, h1, h2, h3⟩
    refine ⟨z.2.toNat, by omega, ?_⟩
    rw [Int.toNat_of_nonneg h0, h2]
    simp only [Option.isNone_none, if_true]
    exact List.mem_map.mpr ⟨z.1, h3, rfl⟩
theorem tg_set {p q : Int} {x : Ofr} (h0 : 0 ≤ p) (h1 : p < tab.length) : tg (tab.set p.toNat (some x)) q = if q = p then some x else tg tab q := by
  unfold tg
  by_cases hq : 0 ≤ q
  · rw [if_pos hq, if_pos hq]
    by_cases e : q = p
    · subst e
      rw [List.getElem?_set_self (by omega), if_pos rfl]; rfl
    · rw [List.getElem?_set_ne (by omega), if_neg e]
  · rw [if_neg hq, if_neg hq, if_neg (by omega)]
theorem SI.step (hS : ∀ s ∈ S, s.t < s.u) (h : SI S hs m tab) {z : Ofr × Int} (hz : z ∈ cand hs S tab m) (hmin : ∀ w ∈ cand hs S tab m, z.1.key ≤ w.1.key) : SI S hs m (tab.set z.2.toNat (some z.1)) := by
  obtain ⟨z0, z1, z2, z3⟩ := mem_cand.mp hz
  obtain ⟨τ, t1, t2⟩ := h.tau
  have hτz := t2 z.2 z0 z1 z2 z.1 z3
  have hset := fun q => tg_set (tab := tab) (q := q) (x := z.1) z0 (by rw [h.len]; exact z1)
  -- what is offered behind the step
  have off : ∀ p y, y ∈ offers hs S (tab.set z.2.toNat (some z.1)) p → y ∈ offers hs S tab p ∨ z.1.t < y.t := by
    intro p y hy
    rcases mem_offers.mp hy with hy | ⟨s, h1, h2, x, h3, h4, rfl⟩
    · exact .inl (mem_offers.mpr (.inl hy))
    · rw [hset] at h3
      split at h3
      · cases h3
        have := hS s h1
        exact .inr (by simp only; omega)
      · exact .inl (mem_offers.mpr (.inr ⟨s, h1, h2, x, h3, h4, rfl⟩))
  have on : ∀ p y, y ∈ offers hs S tab p → y ∈ offers hs S (tab.set z.2.toNat (some z.1)) p := by
    intro p y hy
    rcases mem_offers.mp hy with hy | ⟨s, h1, h2, x, h3, h4, rfl⟩
    · exact mem_offers.mpr (.inl hy)
    · refine mem_offers.mpr (.inr ⟨s, h1, h2, x, ?_, h4, rfl⟩)
      rw [hset, if_neg]
      · exact h3
      · intro e; rw [e, z2] at h3; cases h3
  refine ⟨by simp [h.len], fun p x hx => ?_, ⟨z.1.t, fun p x hx => ?_, fun p p0 p1 hp y hy => ?_⟩⟩
  · rw [hset] at hx
    split at hx
    · rename_i e
      cases hx
      rw [e]
      refine ⟨on _ _ z3, fun y hy => ?_⟩
      rcases off _ _ hy with hy | hy
      · exact hmin (y, z.2) (mem_cand.mpr ⟨z0, z1, z2, hy⟩)
      · exact key_of_t hy
    · obtain ⟨m1, l1⟩ := h.yes p x hx
      refine ⟨on _ _ m1, fun y hy => ?_⟩
      rcases off _ _ hy with hy | hy
      · exact l1 y hy
      · refine key_of_t ?_
        have := t1 p x hx
        omega
  · rw [hset] at hx
    split at hx
    · cases hx; exact Int.le_refl _
    · have := t1 p x hx; omega
  · rw [hset] at hp
    split at hp
    · cases hp
    · rcases off _ _ hy with hy | hy
      · exact key_t (hmin (y, p) (mem_cand.mpr ⟨p0, p1, hp, hy⟩))
      · omega
theorem SI.done (h : SI S hs m tab) (hc : cand hs S tab m = []) : RT S hs m tab := by
  refine ⟨h.len, fun p p0 p1 hp => ?_, h.yes⟩
  cases e : offers hs S tab p with
  | nil => rfl
  | cons y l =>
    have : (y, p) ∈ cand hs S tab m := mem_cand.mpr ⟨p0, p1, hp, by simp only; rw [e]; exact List.mem_cons_self⟩
    rw [hc] at this; cases this
end
end Mw

set_option Elab.async false
set_option linter.all false
set_option autoImplicit false
set_option maxRecDepth 100000
/-! PyS3: spread by the program. -/
namespace Mw
open PySem
@[simp] theorem isNon_tb {x : Option Ofr} : isNon (.val (tbD x)) = x.isNone := by cases x <;> rfl
section
variable {T : Tab} {n k : Nat} {st : Sto} {S : List Sp} {hs : List (Int × Int)} {tab : List (Option Ofr)} {m : Nat}
/-! ### the least of what is offered -/
def cdD (z : Ofr × Int) : D := .tup [ofD z.1, .int z.2]
def key4 (z : Ofr × Int) : List Int := [z.1.t, z.1.h, z.1.k, z.2]
theorem key4_key {z w : Ofr × Int} (h : key4 z ≤ key4 w) : z.1.key ≤ w.1.key := by
  rcases Decidable.em (z.1.key ≤ w.1.key) with h1 | h1
  · exact h1
  · have h2 : w.1.key < z.1.key := List.not_le.mp h1
    have h3 : key4 w < key4 z := by
      simp only [Ofr.key, key4, List.cons_lt_cons_iff] at h2 ⊢
      simp at h2
      omega
    exact absurd h3 (List.not_lt.mpr h)
theorem toPy_cd (z : Ofr × Int) : toPy st 58 (cdD z) = some (.tuple [.tuple [.int z.1.t, .int z.1.h, .int z.1.k], .int z.2]) := by
  have := toPy_pd (st := st) 58 (cdD z) rfl
  rw [this]; rfl
theorem pyD_cd (z : Ofr × Int) : pyD st (cdD z) = .tuple [.tuple [.int z.1.t, .int z.1.h, .int z.1.k], .int z.2] := by simp [pyD, toPy_cd]
theorem alike3 (a b c d e f : Int) : PySem.W.alike (.tuple [.int a, .int b, .int c]) (.tuple [.int d, .int e, .int f]) = true := by
  have := alike_ints [a, b, c] [d, e, f]
  simpa [PySem.W.alike] using this
theorem lt3 (a b c d e f : Int) : PySem.W.dataLt (.tuple [.int a, .int b, .int c]) (.tuple [.int d, .int e, .int f]) = decide ([a, b, c] < [d, e, f]) := by
  rw [PySem.W.dataLt_tuple]
  have := PySem.W.dataLt_ints [a, b, c] [d, e, f]
  unfold PySem.W.rowLt at this
  exact this
theorem lt_cd (z w : Ofr × Int) : dLt st (cdD z) (cdD w) = decide (key4 z < key4 w) := by
  unfold dLt
  rw [pyD_cd, pyD_cd, PySem.W.dataLt_pair (alike3 ..) (by simp [PySem.W.alike]), lt3, PySem.W.dataLt_int]
  have e1 : PyData.eqv (.tuple [.int z.1.t, .int z.1.h, .int z.1.k]) (.tuple [.int w.1.t, .int w.1.h, .int w.1.k]) = decide (z.1.key = w.1.key) := by
    simp only [PyData.eqv, PyData.eqvAll, Ofr.key]
    by_cases h1 : z.1.t = w.1.t <;> by_cases h2 : z.1.h = w.1.h <;> by_cases h3 : z.1.k = w.1.k <;> simp [h1, h2, h3]
  rw [e1]
  have e2 : PyData.eqv (.int z.2) (.int w.2) = decide (z.2 = w.2) := eqv_int
  rw [e2]
  simp only [Ofr.key, key4]
  by_cases h1 : z.1.t = w.1.t <;> by_cases h2 : z.1.h = w.1.h <;> by_cases h3 : z.1.k = w.1.k <;> by_cases h4 : z.2 = w.2 <;> simp [h1, h2, h3, h4, List.cons_lt_cons_iff]
theorem fold_memS {α : Type} (f : α → α → Bool) : ∀ (l : List α) (x : α), l.foldl (fun a y => if f a y then y else a) x ∈ x :: l
  | [], x => List.mem_cons_self
  | y :: l, x => by
    simp only [List.foldl_cons]
    have := fold_memS f l (if f x y then y else x)
    rcases List.mem_cons.mp this with h | h
    · rw [h]; split <;> simp
    · exact List.mem_cons_of_mem _ (List.mem_cons_of_mem _ h)
theorem fold_mapS {α β : Type} (g : α → β) (f : β → β → Bool) : ∀ (l : List α) (x : α), (l.map g).foldl (fun a y => if f a y then y else a) (g x) = g (l.foldl (fun a y => if f (g a) (g y) then y else a) x)
  | [], x => rfl
  | y :: l, x => by
    simp only [List.map_cons, List.foldl_cons]
    have e : (if f (g x) (g y) = true then g y else g x) = g (if f (g x) (g y) = true then y else x) := by split <;> rfl
    rw [e, fold_mapS g f l]
theorem fold_least {α : Type} (key : α → List Int) (f : α → α → Bool) (hf : ∀ a b, f a b = decide (key b < key a)) : ∀ (l : List α) (x : α), ∀ w ∈ x :: l, key (l.foldl (fun a y => if f a y then y else a) x) ≤ key w
  | [], x, w, hw => by simp at hw; subst hw; exact List.le_refl _
  | y :: l, x, w, hw => by
    simp only [List.foldl_cons]
    have ih := fold_least key f hf l (if f x y then y else x)
    have h0 := ih _ List.mem_cons_self
    rcases List.mem_cons.mp hw with rfl | hw
    · refine List.le_trans h0 ?_
      rw [hf]
      split
      · rename_i h; exact List.le_of_lt (of_decide_eq_true h)
      · exact List.le_refl _
    · rcases List.mem_cons.mp hw with rfl | hw
      · refine List.le_trans h0 ?_
        rw [hf]
        split
        · exact List.le_refl _
        · rename_i h; exact List.not_lt.mp fun h' => h (decide_eq_true h')
      · exact ih w (List.mem_cons_of_mem _ hw)
theorem min_cd {l : List (Ofr × Int)} (hne : l ≠ []) : ∃ z ∈ l, (∀ w ∈ l, key4 z ≤ key4 w) ∧ ∀ s : Sto, mmD false s (l.map cdD) = some (cdD z) := by
  cases l with
  | nil => exact absurd rfl hne
  | cons y ys =>
    let f : Ofr × Int → Ofr × Int → Bool := fun a b => decide (key4 b < key4 a)
    refine ⟨ys.foldl (fun a w => if f a w then w else a) y, fold_memS f ys y, fold_least key4 f (fun _ _ => rfl) ys y, fun s => ?_⟩
    have e1 : mapO (toPy s 58) ((y :: ys).map cdD) = some (((y :: ys).map cdD).map (pyD s)) := mapO_of fun d hd => by
      obtain ⟨a, _, rfl⟩ := List.mem_map.mp hd
      rw [toPy_cd, pyD_cd]
    have c1 : alikeD (((y :: ys).map cdD).map (pyD s)) = true := by
      simp only [alikeD, List.all_eq_true, List.map_map, List.mem_map, Function.comp_apply]
      rintro _ ⟨a, _, rfl⟩ _ ⟨b, _, rfl⟩
      rw [pyD_cd, pyD_cd]
      simp [PySem.W.alike, PySem.W.alikeAll]
    have c2 : (((y :: ys).map cdD).map (pyD s)).all notNn = true := by
      simp only [List.all_eq_true, List.map_map, List.mem_map, Function.comp_apply]
      rintro _ ⟨a, _, rfl⟩
      rw [pyD_cd]; rfl
    have c3 : plnL ((y :: ys).map cdD) = true := by
      have : ∀ l : List (Ofr × Int), plnL (l.map cdD) = true := by
        intro l
        induction l with
        | nil => rfl
        | cons a l ih => simp only [List.map_cons, plnL, ih, Bool.and_true]; rfl
      exact this _
    unfold mmD
    rw [e1]
    simp only [c1, c2, c3, Bool.and_self, if_true]
    show some ((ys.map cdD).foldl (fun a z => if (if false = true then dLt s a z else dLt s z a) = true then z else a) (cdD y)) = _
    simp only [Bool.false_eq_true, if_false, Option.some.injEq]
    have : (fun a z => if dLt s z a = true then z else a) = fun (a z : D) => if (fun a z => dLt s z a) a z then z else a := rfl
    rw [this, fold_mapS cdD (fun a z => dLt s z a)]
    congr 1
    have e2 : ∀ (l : List (Ofr × Int)) (x : Ofr × Int), l.foldl (fun a w => if dLt s (cdD w) (cdD a) = true then w else a) x = l.foldl (fun a w => if f a w = true then w else a) x := by
      intro l
      induction l with
      | nil => intro x; rfl
      | cons w l ih => intro x; simp only [List.foldl_cons]; rw [ih, lt_cd]
    exact e2 ys y
end
end Mw

set_option Elab.async false
set_option linter.all false
set_option autoImplicit false
set_option maxRecDepth 100000
/-! PyS4: spread by the program is the only table. -/
namespace Mw
open PySem
def nones (tab : List (Option Ofr)) : Nat := (tab.filter Option.isNone).length
section
variable {T : Tab} {n k : Nat} {st : Sto} {S : List Sp} {hs : List (Int × Int)} {tab : List (Option Ofr)} {m : Nat}
theorem nones_set : ∀ {tab : List (Option Ofr)} {i : Nat} {x : Ofr}, tab[i]? = some none → nones (tab.set i (some x)) + 1 = nones tab
  | [], i, x, h => by simp at h
  | a :: l, 0, x, h => by
    simp at h; subst h
    simp [nones]
  | a :: l, i + 1, x, h => by
    have ih := nones_set (tab := l) (i := i) (x := x) (by simpa using h)
    cases a <;> simp [nones] at ih ⊢ <;> omega
theorem tg_get (hl : tab.length = m) {i : Nat} (hi : i < m) : tab[i]? = some (tg tab (i : Int)) := by
  unfold tg
  rw [if_pos (by omega), Int.toNat_natCast, List.getElem?_eq_getElem (by omega)]
  simp
end
end Mw

set_option Elab.async false
set_option linter.all false
set_option autoImplicit false
set_option maxRecDepth 100000
/-! PyS5: hands drawn; tables of nets with a meeting less, or more; spread_holds. -/
namespace Mw
open PySem
section
variable {T : Tab} {n k : Nat} {st : Sto} {r N : Nat} {o : O} {ms : List Mt} {m : Nat}
end
/-! ### the least, and the checker -/
def leastO : List Ofr → Option Ofr
  | [] => none
  | x :: xs => some (xs.foldl (fun a w => if decide (w.key < a.key) then w else a) x)
theorem leastO_mem {l : List Ofr} {x : Ofr} (h : leastO l = some x) : x ∈ l ∧ ∀ y ∈ l, x.key ≤ y.key := by
  cases l with
  | nil => cases h
  | cons a l =>
    simp only [leastO, Option.some.injEq] at h
    rw [← h]
    exact ⟨fold_memS (fun a w => decide (w.key < a.key)) l a, fold_least Ofr.key (fun a w => decide (w.key < a.key)) (fun _ _ => rfl) l a⟩
theorem leastO_none {l : List Ofr} (h : leastO l = none) : l = [] := by
  cases l with
  | nil => rfl
  | cons a l => cases h
theorem leastO_of {l : List Ofr} {x : Ofr} (h : x ∈ l) (h2 : ∀ y ∈ l, x.key ≤ y.key) : leastO l = some x := by
  cases e : leastO l with
  | none => rw [leastO_none e] at h; cases h
  | some y =>
    obtain ⟨q1, q2⟩ := leastO_mem e
    rw [Ofr.key_inj (List.le_antisymm (q2 x h) (h2 y q1))]
section
variable {T : Tab} {n k : Nat} {st : Sto} {S : List Sp} {hs : List (Int × Int)} {tab : List (Option Ofr)} {m : Nat}
end
end Mw

set_option Elab.async false
set_option linter.all false
set_option autoImplicit false
set_option maxRecDepth 100000
/-! PyS6: what spreads in a net with a meeting less, or one more. -/
namespace Mw
open PySem
section
variable {S S' : List Sp} {hs : List (Int × Int)} {m : Nat} {tab tab' : List (Option Ofr)}
theorem tab_low (tab : List (Option Ofr)) : ∃ τ : Int, ∀ p x, tg tab p = some x → τ ≤ x.t := by
  have one : ∀ l : List (Option Ofr), ∃ τ : Int, ∀ x, some x ∈ l → τ ≤ x.t := by
    intro l
    induction l with
    | nil => exact ⟨0, fun x hx => by cases hx⟩
    | cons a l ih =>
      obtain ⟨τ, hτ⟩ := ih
      cases a with
      | none => exact ⟨τ, fun x hx => by rcases List.mem_cons.mp hx with h | h; cases h; exact hτ x h⟩
      | some a =>
        refine ⟨min τ a.t, fun x hx => ?_⟩
        rcases List.mem_cons.mp hx with h | h
        · cases h; omega
        · have := hτ x h; omega
  obtain ⟨τ, hτ⟩ := one tab
  refine ⟨τ, fun p x h => hτ x ?_⟩
  unfold tg at h
  split at h
  · cases e : tab[p.toNat]? with
    | none => rw [e] at h; cases h
    | some y => rw [e] at h; simp at h; subst h; exact List.mem_of_getElem? e
  · cases h
/-- by the moments of a table -/
theorem tab_ind (tab : List (Option Ofr)) {P : Int → Ofr → Prop} (h : ∀ p x, tg tab p = some x → (∀ q y, tg tab q = some y → y.t < x.t → P q y) → P p x) : ∀ p x, tg tab p = some x → P p x := by
  obtain ⟨τ, hτ⟩ := tab_low tab
  have : ∀ (n : Nat) p x, tg tab p = some x → x.t < τ + n → P p x := by
    intro n
    induction n with
    | zero => intro p x hx hl; have := hτ p x hx; omega
    | succ n ih =>
      intro p x hx hl
      exact h p x hx fun q y hy hlt => ih q y hy (by omega)
  intro p x hx
  exact this (x.t - τ + 1).toNat p x hx (by have := hτ p x hx; omega)
/-- with fewer steps no place is taken sooner -/
theorem RT.later (hS : ∀ s ∈ S', s.t < s.u) (h : RT S hs m tab) (h' : RT S' hs m tab') (hsub : ∀ s' ∈ S', ∃ s ∈ S, s.a = s'.a ∧ s.b = s'.b ∧ s.t = s'.t ∧ s.u = s'.u) :
    ∀ p y, tg tab' p = some y → ∃ x, tg tab p = some x ∧ x.t ≤ y.t := by
  refine tab_ind tab' fun p y hy ih => ?_
  obtain ⟨p0, p1⟩ := tg_lt hy
  obtain ⟨m1, _⟩ := h'.yes p y hy
  have fin : ∀ w ∈ offers hs S tab p, w.t ≤ y.t → ∃ x, tg tab p = some x ∧ x.t ≤ y.t := fun w hw hle => by
    cases e : tg tab p with
    | none => rw [h.no p p0 (by rw [h'.len] at p1; exact p1) e] at hw; cases hw
    | some x =>
      have := key_t ((h.yes p x e).2 w hw)
      exact ⟨x, rfl, by omega⟩
  rcases mem_offers.mp m1 with hh | ⟨s', hs', hb, z, hz, hle, rfl⟩
  · exact fin y (mem_offers.mpr (.inl hh)) (Int.le_refl _)
  · have hlt := hS s' hs'
    obtain ⟨w, hw, hwt⟩ := ih s'.a z hz (by simp only; omega)
    obtain ⟨s, h1, h2, h3, h4, h5⟩ := hsub s' hs'
    exact fin ⟨s.u, w.h, s.k⟩ (mem_offers.mpr (.inr ⟨s, h1, by rw [h3, hb], w, by rw [h2]; exact hw, by omega, rfl⟩)) (by simp only; omega)
/-- no place is taken ahead of all hands -/
theorem RT.first (hS : ∀ s ∈ S, s.t < s.u) (h : RT S hs m tab) {f : Int} (hf : ∀ x ∈ hs, f ≤ x.2) : ∀ p x, tg tab p = some x → f ≤ x.t := by
  refine tab_ind tab fun p x hx ih => ?_
  rcases mem_offers.mp (h.yes p x hx).1 with hh | ⟨s, hs', hb, z, hz, hle, rfl⟩
  · simp only [handO, List.mem_map, List.mem_filter, List.mem_range] at hh
    obtain ⟨i, ⟨hi, _⟩, rfl⟩ := hh
    simp only
    rw [List.getD_eq_getElem?_getD, List.getElem?_eq_getElem hi]
    exact hf _ (List.getElem_mem hi)
  · have := hS s hs'
    have := ih s.a z hz (by simp only; omega)
    simp only; omega
/-- more steps that take nothing -/
theorem RT.more {N : List Sp} (h : RT S hs m tab) (hN : ∀ s' ∈ N, ∀ x, tg tab s'.a = some x → x.t ≤ s'.t → ∃ s ∈ S, s.a = s'.a ∧ s.b = s'.b ∧ s.t = s'.t ∧ s.u = s'.u ∧ s.k ≤ s'.k) : RT (S ++ N) hs m tab := by
  have key : ∀ p y, y ∈ offers hs (S ++ N) tab p → ∃ w ∈ offers hs S tab p, w.key ≤ y.key := by
    intro p y hy
    rcases mem_offers.mp hy with hh | ⟨s, hs', hb, z, hz, hle, rfl⟩
    · exact ⟨y, mem_offers.mpr (.inl hh), List.le_refl _⟩
    · rcases List.mem_append.mp hs' with hs' | hs'
      · exact ⟨_, mem_offers.mpr (.inr ⟨s, hs', hb, z, hz, hle, rfl⟩), List.le_refl _⟩
      · obtain ⟨s0, h1, h2, h3, h4, h5, h6⟩ := hN s hs' z hz hle
        refine ⟨⟨s0.u, z.h, s0.k⟩, mem_offers.mpr (.inr ⟨s0, h1, by rw [h3, hb], z, by rw [h2]; exact hz, by omega, rfl⟩), ?_⟩
        simp only [Ofr.key, h5]
        rcases Nat.lt_or_eq_of_le h6 with h7 | h7
        · refine List.le_of_lt ?_
          simp [List.cons_lt_cons_iff]; omega
        · rw [h7]; exact List.le_refl _
  refine ⟨h.len, fun p p0 p1 hp => ?_, fun p x hx => ?_⟩
  · cases e : offers hs (S ++ N) tab p with
    | nil => rfl
    | cons y l =>
      obtain ⟨w, hw, _⟩ := key p y (by rw [e]; exact List.mem_cons_self)
      rw [h.no p p0 p1 hp] at hw; cases hw
  · obtain ⟨m1, l1⟩ := h.yes p x hx
    refine ⟨?_, fun y hy => ?_⟩
    · rcases mem_offers.mp m1 with hh | ⟨s, hs', hb, z, hz, hle, rfl⟩
      · exact mem_offers.mpr (.inl hh)
      · exact mem_offers.mpr (.inr ⟨s, List.mem_append_left _ hs', hb, z, hz, hle, rfl⟩)
    · obtain ⟨w, hw, hle⟩ := key p y hy
      exact List.le_trans (l1 w hw) hle
end
/-! ### a meeting left out -/
def lessO (j : Int) (x : Ofr) : Ofr := ⟨x.t, x.h, if j < x.k then x.k - 1 else x.k⟩
def lessS (s : Sp) : Sp := ⟨s.k - 1, s.a, s.b, s.t, s.u⟩
theorem steps_app : ∀ (a b : List Mt) (i : Nat), stepsF i (a ++ b) = stepsF i a ++ stepsF (i + a.length) b
  | [], b, i => by simp [stepsF]
  | x :: a, b, i => by
    have := steps_app a b (i + 1)
    simp only [List.cons_append, stepsF, this, List.length_cons]
    have e : i + 1 + a.length = i + (a.length + 1) := by omega
    rw [e]
    simp
theorem steps_less : ∀ (b : List Mt) (i : Nat), stepsF i b = (stepsF (i + 1) b).map lessS
  | [], _ => rfl
  | x :: b, i => by
    have := steps_less b (i + 1)
    simp only [stepsF, List.map_cons, List.map_append, lessS, Nat.add_sub_cancel]
    rw [this]
    split <;> simp [lessS]
theorem steps_k : ∀ {b : List Mt} {i : Nat} {s : Sp}, s ∈ stepsF i b → i ≤ s.k ∧ s.k < i + b.length
  | [], _, _, h => nomatch h
  | x :: b, i, s, h => by
    simp only [stepsF, List.mem_cons, List.mem_append] at h
    rcases h with rfl | h | h
    · simp
    · split at h
      · rw [List.mem_singleton.mp h]; simp
      · cases h
    · have := steps_k h
      simp only [List.length_cons]; omega
def outM (ms : List Mt) (j : Nat) : List Mt := ms.take j ++ ms.drop (j + 1)
theorem out_mem {ms : List Mt} {j : Nat} (hj : j < ms.length) {s' : Sp} : s' ∈ stepsF 0 (outM ms j) ↔ ∃ s ∈ stepsF 0 ms, s.k ≠ j ∧ s' = if j < s.k then lessS s else s := by
  have e0 : ms = ms.take j ++ (ms[j] :: ms.drop (j + 1)) := by rw [← List.drop_eq_getElem_cons hj, List.take_append_drop]
  have lt : (ms.take j).length = j := by rw [List.length_take]; omega
  have e1 : stepsF 0 ms = stepsF 0 (ms.take j) ++ (stepsF j [ms[j]] ++ stepsF (j + 1) (ms.drop (j + 1))) := by
    have h1 : stepsF 0 ms = stepsF 0 (ms.take j ++ ([ms[j]] ++ ms.drop (j + 1))) := congrArg (stepsF 0) e0
    rw [h1, steps_app, steps_app, lt]
    simp
  have e2 : stepsF 0 (outM ms j) = stepsF 0 (ms.take j) ++ (stepsF (j + 1) (ms.drop (j + 1))).map lessS := by
    unfold outM
    rw [steps_app, lt, Nat.zero_add, steps_less (ms.drop (j + 1)) j]
  rw [e1, e2]
  simp only [List.mem_append, List.mem_map]
  constructor
  · rintro (h | ⟨s, h, rfl⟩)
    · have := steps_k h
      exact ⟨s', .inl h, by omega, by rw [if_neg (by omega)]⟩
    · have := steps_k h
      exact ⟨s, .inr (.inr h), by omega, by rw [if_pos (by omega)]⟩
  · rintro ⟨s, h | h | h, hne, rfl⟩
    · have := steps_k h
      rw [if_neg (by omega)]; exact .inl h
    · have := steps_k h
      simp at this; omega
    · have := steps_k h
      rw [if_pos (by omega)]; exact .inr ⟨s, h, rfl⟩
theorem tg_map {tab : List (Option Ofr)} {f : Ofr → Ofr} {p : Int} : tg (tab.map (Option.map f)) p = (tg tab p).map f := by
  unfold tg
  split
  · rw [List.getElem?_map]
    cases tab[p.toNat]? with
    | none => rfl
    | some x => rfl
  · rfl
theorem key_less {j : Int} {x y : Ofr} (h : x.key ≤ y.key) (hx : x.k ≠ j) (hy : y.k ≠ j) : (lessO j x).key ≤ (lessO j y).key := by
  rcases Decidable.em ((lessO j x).key ≤ (lessO j y).key) with h1 | h1
  · exact h1
  · have h2 : (lessO j y).key < (lessO j x).key := List.not_le.mp h1
    have h3 : y.key < x.key := by
      simp only [Ofr.key, lessO, List.cons_lt_cons_iff] at h2 ⊢
      simp at h2 ⊢
      rcases h2 with h2 | ⟨e1, h2 | ⟨e2, h2⟩⟩
      · exact .inl h2
      · exact .inr ⟨e1, .inl h2⟩
      · refine .inr ⟨e1, .inr ⟨e2, ?_⟩⟩
        split at h2 <;> split at h2 <;> omega
    exact absurd h3 (List.not_lt.mpr h)
theorem RT.less {ms : List Mt} {hs : List (Int × Int)} {m : Nat} {tab : List (Option Ofr)} {j : Nat} (hj : j < ms.length) (h : RT (stepsF 0 ms) hs m tab) (hno : ∀ p x, tg tab p = some x → x.k ≠ j) :
    RT (stepsF 0 (outM ms j)) hs m (tab.map (Option.map (lessO j))) := by
  have off : ∀ p y, y ∈ offers hs (stepsF 0 (outM ms j)) (tab.map (Option.map (lessO j))) p ↔ ∃ x ∈ offers hs (stepsF 0 ms) tab p, x.k ≠ j ∧ y = lessO j x := by
    intro p y
    constructor
    · intro hy
      rcases mem_offers.mp hy with hh | ⟨s', hs', hb, z, hz, hle, rfl⟩
      · have : y.k = -1 := by
          simp only [handO, List.mem_map] at hh
          obtain ⟨i, _, rfl⟩ := hh
          rfl
        refine ⟨y, mem_offers.mpr (.inl hh), by omega, ?_⟩
        cases y; simp only [lessO] at this ⊢; rw [if_neg (by omega)]
      · obtain ⟨s, h1, h2, rfl⟩ := (out_mem hj).mp hs'
        rw [tg_map] at hz
        simp only [Option.map_eq_some_iff] at hz
        obtain ⟨w, hw, rfl⟩ := hz
        have ea : (if j < s.k then lessS s else s).a = s.a := by split <;> rfl
        have eb : (if j < s.k then lessS s else s).b = s.b := by split <;> rfl
        have et : (if j < s.k then lessS s else s).t = s.t := by split <;> rfl
        rw [ea] at hw; rw [eb] at hb; rw [et] at hle
        refine ⟨⟨s.u, w.h, s.k⟩, mem_offers.mpr (.inr ⟨s, h1, hb, w, hw, hle, rfl⟩), by simp only; omega, ?_⟩
        simp only [lessO]
        by_cases hk : j < s.k
        · rw [if_pos hk, if_pos (by omega)]
          simp only [lessS]
          congr 1
          omega
        · rw [if_neg hk, if_neg (by omega)]
    · rintro ⟨x, hx, hne, rfl⟩
      rcases mem_offers.mp hx with hh | ⟨s, hs', hb, z, hz, hle, rfl⟩
      · have : x.k = -1 := by
          simp only [handO, List.mem_map] at hh
          obtain ⟨i, _, rfl⟩ := hh
          rfl
        have e : lessO j x = x := by cases x; simp only [lessO] at this ⊢; rw [if_neg (by omega)]
        rw [e]
        exact mem_offers.mpr (.inl hh)
      · refine mem_offers.mpr (.inr ⟨if j < s.k then lessS s else s, (out_mem hj).mpr ⟨s, hs', by simp only at hne; omega, rfl⟩, ?_, lessO j z, ?_, ?_, ?_⟩)
        · rw [← hb]; split <;> rfl
        · rw [tg_map]
          have ea : (if j < s.k then lessS s else s).a = s.a := by split <;> rfl
          rw [ea, hz]; rfl
        · have et : (if j < s.k then lessS s else s).t = s.t := by split <;> rfl
          rw [et]; exact hle
        · simp only [lessO]
          by_cases hk : j < s.k
          · rw [if_pos hk, if_pos (by omega)]
            simp only [lessS]
            congr 1
            omega
          · rw [if_neg hk, if_neg (by omega)]
  refine ⟨by simp [h.len], fun p p0 p1 hp => ?_, fun p y hy => ?_⟩
  · rw [tg_map] at hp
    simp only [Option.map_eq_none_iff] at hp
    cases e : offers hs (stepsF 0 (outM ms j)) (tab.map (Option.map (lessO j))) p with
    | nil => rfl
    | cons y l =>
      obtain ⟨x, hx, _⟩ := (off p y).mp (by rw [e]; exact List.mem_cons_self)
      rw [h.no p p0 p1 hp] at hx; cases hx
  · rw [tg_map] at hy
    simp only [Option.map_eq_some_iff] at hy
    obtain ⟨x, hx, rfl⟩ := hy
    obtain ⟨m1, l1⟩ := h.yes p x hx
    refine ⟨(off p _).mpr ⟨x, m1, hno p x hx, rfl⟩, fun y hy => ?_⟩
    obtain ⟨w, hw, hne, rfl⟩ := (off p y).mp hy
    exact key_less (l1 w hw) (hno p x hx) hne
theorem RT.ex {S : List Sp} {hs : List (Int × Int)} {m : Nat} (hS : ∀ s ∈ S, s.t < s.u) : ∀ (j : Nat) (tab : List (Option Ofr)), nones tab ≤ j → SI S hs m tab → ∃ tab', RT S hs m tab' := by
  intro j
  induction j with
  | zero =>
    intro tab hj h
    refine ⟨tab, h.done ?_⟩
    cases e : cand hs S tab m with
    | nil => rfl
    | cons z l =>
      obtain ⟨z0, z1, z2, _⟩ := mem_cand.mp (by rw [e]; exact List.mem_cons_self : z ∈ cand hs S tab m)
      have := tg_get h.len (i := z.2.toNat) (by omega)
      rw [Int.toNat_of_nonneg z0, z2] at this
      have hm := List.mem_of_getElem? this
      have : none ∈ tab.filter Option.isNone := List.mem_filter.mpr ⟨hm, rfl⟩
      unfold nones at hj
      have h0 := List.length_eq_zero_iff.mp (show (tab.filter Option.isNone).length = 0 by omega)
      rw [h0] at this
      cases this
  | succ j ih =>
    intro tab hj h
    by_cases hc : cand hs S tab m = []
    · exact ⟨tab, h.done hc⟩
    · obtain ⟨z, hz, hmin, _⟩ := min_cd hc
      obtain ⟨z0, z1, z2, _⟩ := mem_cand.mp hz
      have hset := nones_set (tab := tab) (i := z.2.toNat) (x := z.1) (by
        have := tg_get h.len (i := z.2.toNat) (by omega)
        rw [Int.toNat_of_nonneg z0, z2] at this
        exact this)
      exact ih _ (by omega) (h.step hS hz fun w hw => key4_key (hmin w hw))
end Mw

set_option Elab.async false
set_option linter.all false
set_option autoImplicit false
set_option maxRecDepth 100000
/-! PyS7: earliest moments by passes over the steps; when spreading takes a place. -/
namespace Mw
open PySem
section
variable {S : List Sp} {hs : List (Int × Int)} {m : Nat} {tab tab' : List (Option Ofr)} {p0 m0 : Int} {f E : Tbf}
/-! ### when a place is taken -/
theorem RT.rch (hS : ∀ s ∈ S, s.t < s.u) (h : RT S hs m tab) : ∀ p x, tg tab p = some x → ∃ (i : Nat) (g : Int × Int), x.h = i ∧ hs[i]? = some g ∧ Rch S g.1 g.2 p x.t := by
  refine tab_ind tab fun p x hx ih => ?_
  rcases mem_offers.mp (h.yes p x hx).1 with hm | ⟨s, h1, h2, y, h3, h4, rfl⟩
  · obtain ⟨i, hi, rfl⟩ := List.mem_map.mp hm
    obtain ⟨hi, hp⟩ := List.mem_filter.mp hi
    have hi := List.mem_range.mp hi
    simp only [decide_eq_true_eq] at hp
    refine ⟨i, hs[i], rfl, List.getElem?_eq_getElem hi, ?_⟩
    have : hs.getD i (0, 0) = hs[i] := by simp [List.getD, List.getElem?_eq_getElem hi]
    rw [this] at hp ⊢
    rw [← hp]; exact .here
  · have := hS s h1
    obtain ⟨i, g, q1, q2, q3⟩ := ih s.a y h3 (by simp only; omega)
    exact ⟨i, g, q1, q2, by rw [← h2]; exact .go q3 h1 h4⟩
theorem RT.low (hS : ∀ s ∈ S, SpIn m s) (h : RT S hs m tab) {i : Nat} {g : Int × Int} (hi : hs[i]? = some g) (hg : 0 ≤ g.1 ∧ g.1 < m) {p v : Int} (r : Rch S g.1 g.2 p v) : ∃ x, tg tab p = some x ∧ x.t ≤ v := by
  have fin : ∀ (p : Int) (y : Ofr), 0 ≤ p → p < m → y ∈ offers hs S tab p → ∃ x, tg tab p = some x ∧ x.t ≤ y.t := fun p y h0 h1 hy => by
    cases e : tg tab p with
    | none => rw [h.no p h0 h1 e] at hy; cases hy
    | some x => exact ⟨x, rfl, key_t ((h.yes p x e).2 y hy)⟩
  induction r with
  | here =>
    have hil := (List.getElem?_eq_some_iff.mp hi).1
    have : hs.getD i (0, 0) = g := by simp [List.getD, hi]
    obtain ⟨x, h1, h2⟩ := fin g.1 ⟨g.2, i, -1⟩ hg.1 hg.2 (mem_offers.mpr (.inl (List.mem_map.mpr ⟨i, List.mem_filter.mpr ⟨List.mem_range.mpr hil, by rw [this]; simp⟩, by rw [this]⟩)))
    exact ⟨x, h1, h2⟩
  | @go s v r hs hm ih =>
    obtain ⟨y, h1, h2⟩ := ih
    obtain ⟨q1, q2, q3, q4, q5⟩ := hS s hs
    obtain ⟨x, h3, h4⟩ := fin s.b ⟨s.u, y.h, s.k⟩ q3 (by omega) (mem_offers.mpr (.inr ⟨s, hs, rfl, y, h1, by omega, rfl⟩))
    exact ⟨x, h3, h4⟩
end
end Mw

set_option Elab.async false
set_option linter.all false
set_option autoImplicit false
set_option maxRecDepth 100000
/-! PyS8: earliest moments by passes, by the program; what is right in a spreading. -/
namespace Mw
open PySem
section
variable {T : Tab} {n k m : Nat} {st : Sto} {ms : List Mt} {hs : List (Int × Int)} {p0 m0 : Int}
end
end Mw

set_option Elab.async false
set_option linter.all false
set_option autoImplicit false
set_option maxRecDepth 100000
/-! PyS9: what is right in a spreading, by the program. -/
namespace Mw
open PySem
section
variable {T : Tab} {n k m : Nat} {st : Sto} {ms : List Mt} {hs : List (Int × Int)} {p0 m0 : Int}
end
end Mw

set_option Elab.async false
set_option linter.all false
set_option autoImplicit false
set_option maxRecDepth 100000
/-! PyS10: the table by rounds. -/
namespace Mw
open PySem
section
variable {S : List Sp} {hs : List (Int × Int)} {m : Nat} {tab R X : List (Option Ofr)}
/-- one round: the least for each place by the table ahead -/
def jacF (S : List Sp) (hs : List (Int × Int)) (m : Nat) (tab : List (Option Ofr)) : List (Option Ofr) := (List.range m).map fun (p : Nat) => leastO (offers hs S tab (p : Int))
theorem jac_tg {p : Int} (h0 : 0 ≤ p) (h1 : p < m) : tg (jacF S hs m tab) p = leastO (offers hs S tab p) := by
  have hp : ((p.toNat : Nat) : Int) = p := by omega
  unfold tg jacF
  rw [if_pos h0, List.getElem?_map, List.getElem?_range (by omega)]
  simp [hp]
/-- how many places are taken sooner -/
def rnk (R : List (Option Ofr)) (m : Nat) (t : Int) : Nat := ((List.range m).filter fun (q : Nat) => match tg R (q : Int) with
  | some y => decide (y.t < t)
  | none => false).length
theorem rnk_lt {p : Int} {y : Ofr} {t : Int} (hl : R.length = m) (h : tg R p = some y) (ht : y.t < t) : rnk R m y.t < rnk R m t := by
  obtain ⟨h0, h1⟩ := tg_lt h
  have hp : ((p.toNat : Nat) : Int) = p := by omega
  refine filter_lt (s := p.toNat) (fun x hx => ?_) ?_ ?_ _ (by simp; omega)
  · cases hc : tg R (x : Int) with
    | none => rw [hc] at hx; cases hx
    | some z => rw [hc] at hx; simp only [decide_eq_true_eq] at hx ⊢; omega
  · rw [hp, h]; simp
  · rw [hp, h]; simpa using ht
theorem rnk_m {p : Int} {y : Ofr} (hl : R.length = m) (h : tg R p = some y) : rnk R m y.t < m := by
  obtain ⟨h0, h1⟩ := tg_lt h
  have hp : ((p.toNat : Nat) : Int) = p := by omega
  have := filter_lt (p := fun (q : Nat) => match tg R (q : Int) with
    | some z => decide (z.t < y.t)
    | none => false) (q := fun _ => true) (s := p.toNat) (fun _ _ => rfl) (by rw [hp, h]; simp) rfl (List.range m) (by simp; omega)
  have e : ((List.range m).filter fun _ => true).length = m := by rw [List.filter_eq_self.mpr (by simp), List.length_range]
  exact Nat.lt_of_lt_of_eq this e
structure Jac (S : List Sp) (hs : List (Int × Int)) (m : Nat) (R X : List (Option Ofr)) (i : Nat) : Prop where
  len : X.length = m
  ge : ∀ p z, tg X p = some z → ∃ x, tg R p = some x ∧ x.t ≤ z.t
  so : ∀ p x, tg R p = some x → rnk R m x.t < i → tg X p = some x
theorem Jac.zero (hl : R.length = m) : Jac S hs m R (List.replicate m none) 0 := by
  refine ⟨by simp, fun p z h => ?_, fun p x _ h => by omega⟩
  unfold tg at h
  split at h
  · rw [List.getElem?_replicate] at h
    split at h <;> cases h
  · cases h
theorem Jac.next (hS : ∀ s ∈ S, SpIn m s) (hR : RT S hs m R) {i : Nat} (h : Jac S hs m R X i) : Jac S hs m R (jacF S hs m X) (i + 1) := by
  have up : ∀ (p : Int) (y : Ofr), 0 ≤ p → p < m → y ∈ offers hs S X p → ∃ y' ∈ offers hs S R p, y'.t = y.t := fun p y h0 h1 hy => by
    rcases mem_offers.mp hy with hy | ⟨s, q1, q2, z, q3, q4, rfl⟩
    · exact ⟨y, mem_offers.mpr (.inl hy), rfl⟩
    · obtain ⟨x, hx, hle⟩ := h.ge _ _ q3
      exact ⟨⟨s.u, x.h, s.k⟩, mem_offers.mpr (.inr ⟨s, q1, q2, x, hx, by omega, rfl⟩), rfl⟩
  have rng : ∀ (p : Int) (z : Ofr), tg (jacF S hs m X) p = some z → 0 ≤ p ∧ p < m := fun p z hz => by
    obtain ⟨h0, h1⟩ := tg_lt hz
    simp [jacF] at h1
    omega
  refine ⟨by simp [jacF], fun p z hz => ?_, fun p x hx hr => ?_⟩
  · obtain ⟨h0, h1⟩ := rng p z hz
    rw [jac_tg h0 h1] at hz
    obtain ⟨y', e1, e2⟩ := up p z h0 h1 (leastO_mem hz).1
    cases hc : tg R p with
    | none => rw [hR.no p h0 h1 hc] at e1; cases e1
    | some x => exact ⟨x, rfl, by have := key_t ((hR.yes p x hc).2 y' e1); omega⟩
  · obtain ⟨h0, h1⟩ := tg_lt hx
    rw [hR.len] at h1
    have h1' : p < m := by omega
    rw [jac_tg h0 h1']
    have sooner : ∀ q y, tg R q = some y → y.t < x.t → tg X q = some y := fun q y hy hlt => h.so q y hy (by have := rnk_lt hR.len hy hlt; omega)
    refine leastO_of ?_ fun y hy => ?_
    · rcases mem_offers.mp (hR.yes p x hx).1 with hm | ⟨s, q1, q2, z, q3, q4, rfl⟩
      · exact mem_offers.mpr (.inl hm)
      · have := (hS s q1).2.2.2.2
        exact mem_offers.mpr (.inr ⟨s, q1, q2, z, sooner _ _ q3 (by simp only; omega), q4, rfl⟩)
    · rcases mem_offers.mp hy with hm | ⟨s, q1, q2, z, q3, q4, rfl⟩
      · exact (hR.yes p x hx).2 y (mem_offers.mpr (.inl hm))
      · obtain ⟨w, hw, hle⟩ := h.ge _ _ q3
        have hlt := (hS s q1).2.2.2.2
        have ho := (hR.yes p x hx).2 ⟨s.u, w.h, s.k⟩ (mem_offers.mpr (.inr ⟨s, q1, q2, w, hw, by omega, rfl⟩))
        have ht := key_t ho
        simp only at ht
        by_cases hc : x.t < s.u
        · exact key_of_t hc
        · have := sooner _ _ hw (by omega)
          rw [this] at q3; cases q3
          exact ho
theorem Jac.fin (hR : RT S hs m R) {i : Nat} (h : Jac S hs m R X i) (hi : m ≤ i) : X = R := by
  refine List.ext_getElem? fun j => ?_
  by_cases hj : j < m
  · rw [tg_get h.len hj, tg_get hR.len hj]
    congr 1
    cases hc : tg R (j : Int) with
    | some x => exact h.so _ x hc (by have := rnk_m hR.len hc; omega)
    | none =>
      cases hx : tg X (j : Int) with
      | none => rfl
      | some z => obtain ⟨x, e, _⟩ := h.ge _ _ hx; rw [hc] at e; cases e
  · rw [List.getElem?_eq_none (by rw [h.len]; omega), List.getElem?_eq_none (by rw [hR.len]; omega)]
end
section
variable {T : Tab} {n k : Nat} {st : Sto} {S : List Sp} {hs : List (Int × Int)} {tab : List (Option Ofr)} {m : Nat} {ms : List Mt}
end
end Mw

set_option Elab.async false
set_option linter.all false
set_option autoImplicit false
set_option maxRecDepth 100000
/-! PyS12: tables later on, tables shown; nets read of texts by the laws of spreading. -/
namespace Mw
open PySem
section
variable {S : List Sp} {hs : List (Int × Int)} {m : Nat} {R tab : List (Option Ofr)} {d : Int}
/-! ### shown -/
theorem tab_in {x : Ofr} (h : some x ∈ R) : ∃ p, tg R p = some x := by
  obtain ⟨i, hi⟩ := List.getElem?_of_mem h
  exact ⟨i, by unfold tg; rw [if_pos (by omega), Int.toNat_natCast, hi]; rfl⟩
/-- the numbers of what is taken -/
theorem RT.bd (hS : ∀ s ∈ S, s.t < s.u) (h : RT S hs m R) {B : Int} (hB : ∀ s ∈ S, 0 ≤ s.u ∧ s.u < B) (hk : ∀ s ∈ S, s.k ≤ 5000) (hg : ∀ g ∈ hs, 0 ≤ g.2 ∧ g.2 < B) (hl : hs.length ≤ 1000) (hb : B ≤ 10 ^ 200) : ∀ x, some x ∈ R → x.t.natAbs < 10 ^ 300 ∧ x.h.natAbs < 10 ^ 300 ∧ x.k.natAbs < 10 ^ 300 := by
  intro x hx
  obtain ⟨p, hp⟩ := tab_in hx
  have e : (10 : Nat) ^ 200 ≤ 10 ^ 300 := Nat.pow_le_pow_right (by decide) (by decide)
  have e1 : (10000 : Nat) < 10 ^ 300 := Nat.lt_of_lt_of_le (show 10000 < 10 ^ 5 by decide) (Nat.pow_le_pow_right (by decide) (by decide))
  obtain ⟨i, g, q1, q2, q3⟩ := h.rch hS p x hp
  have hil := (List.getElem?_eq_some_iff.mp q2).1
  have ht := rch_bd (hg g (List.mem_of_getElem? q2)) hB q3
  have hkk : -1 ≤ x.k ∧ x.k ≤ 5000 := by
    rcases mem_offers.mp (h.yes p x hp).1 with hm | ⟨s, r1, r2, y, r3, r4, rfl⟩
    · obtain ⟨j, _, rfl⟩ := List.mem_map.mp hm
      simp only; omega
    · have := hk s r1
      simp only; omega
  refine ⟨by omega, by omega, by omega⟩
end
section
variable {T : Tab} {n k : Nat} {st : Sto} {m : Nat} {ms : List Mt} {R : List (Option Ofr)} {d : Int}
end
end Mw

set_option Elab.async false
set_option linter.all false
set_option autoImplicit false
set_option maxRecDepth 100000
/-! PyS13: rows of places read of a text. -/
namespace Mw
open PySem
section
variable {T : Tab} {n k : Nat} {st : Sto} {r N : Nat} {o : O}
end
end Mw

set_option Elab.async false
set_option linter.all false
set_option autoImplicit false
set_option maxRecDepth 100000
/-! PyS11: the ways by which places are taken. -/
namespace Mw
open PySem
section
variable {S : List Sp} {hs : List (Int × Int)} {m : Nat} {R : List (Option Ofr)} {ms : List Mt}
theorem steps_get : ∀ {ms : List Mt} {i : Nat} {s : Sp}, s ∈ stepsF i ms → ∃ j mt, ms[j]? = some mt ∧ s.k = i + j ∧ s.t = mt.t ∧ s.u = mt.t + mt.l ∧ ((s.a = mt.a ∧ s.b = mt.b) ∨ (mt.bo = true ∧ s.a = mt.b ∧ s.b = mt.a))
  | [], i, s, h => by cases h
  | y :: ms, i, s, h => by
    simp only [stepsF, List.mem_cons, List.mem_append] at h
    rcases h with rfl | h | h
    · exact ⟨0, y, rfl, rfl, rfl, rfl, .inl ⟨rfl, rfl⟩⟩
    · split at h
      · rename_i hb
        rw [List.mem_singleton.mp h]
        exact ⟨0, y, rfl, rfl, rfl, rfl, .inr ⟨hb, rfl, rfl⟩⟩
      · cases h
    · obtain ⟨j, mt, h1, h2, h3⟩ := steps_get h
      exact ⟨j + 1, mt, by simpa using h1, by omega, h3⟩
/-- ways of the hands, by the table -/
inductive WayT (ms : List Mt) (hs : List (Int × Int)) (R : List (Option Ofr)) : Int → Ofr → List Nat → Prop
  | hand {p : Int} {x : Ofr} {i : Nat} : tg R p = some x → x.k = -1 → x.h = (i : Int) → hs[i]? = some (p, x.t) → WayT ms hs R p x []
  | step {p a : Int} {x y : Ofr} {w : List Nat} {j : Nat} {mt : Mt} : tg R p = some x → x.k = (j : Int) → ms[j]? = some mt → ((a = mt.a ∧ p = mt.b) ∨ (mt.bo = true ∧ a = mt.b ∧ p = mt.a)) → y.t ≤ mt.t → y.h = x.h → x.t = mt.t + mt.l → WayT ms hs R a y w → WayT ms hs R p x (w ++ [j])
theorem WayT.at {p : Int} {x : Ofr} {w : List Nat} (h : WayT ms hs R p x w) : tg R p = some x := by
  cases h with
  | hand h => exact h
  | step h => exact h
theorem WayT.ex (hS : ∀ s ∈ stepsF 0 ms, s.t < s.u) (hR : RT (stepsF 0 ms) hs m R) : ∀ p x, tg R p = some x → ∃ w, WayT ms hs R p x w := by
  refine tab_ind R fun p x hx ih => ?_
  rcases mem_offers.mp (hR.yes p x hx).1 with hm | ⟨s, h1, h2, y, h3, h4, rfl⟩
  · obtain ⟨i, hi, rfl⟩ := List.mem_map.mp hm
    obtain ⟨hi, hp⟩ := List.mem_filter.mp hi
    have hi := List.mem_range.mp hi
    simp only [decide_eq_true_eq] at hp
    have e : hs.getD i (0, 0) = hs[i] := by simp [List.getD, List.getElem?_eq_getElem hi]
    rw [e] at hp hx ⊢
    refine ⟨[], .hand hx rfl rfl ?_⟩
    rw [List.getElem?_eq_getElem hi, ← hp]
  · have := hS s h1
    obtain ⟨j, mt, e1, e2, e3, e4, e5⟩ := steps_get h1
    obtain ⟨w, hw⟩ := ih s.a y h3 (by simp only; omega)
    rw [Nat.zero_add] at e2
    refine ⟨w ++ [j], .step (a := s.a) (y := y) (mt := mt) hx (by simp only; omega) e1 ?_ (by omega) rfl (by simp only; omega) hw⟩
    rw [← h2]; exact e5
theorem WayT.pre {p : Int} {x : Ofr} {w : List Nat} (h : WayT ms hs R p x w) : ∀ i, i ≤ w.length → ∃ p' x', WayT ms hs R p' x' (w.take i) ∧ x'.h = x.h := by
  induction h with
  | hand h1 h2 h3 h4 => intro i hi; simp at hi; subst hi; exact ⟨_, _, .hand h1 h2 h3 h4, rfl⟩
  | @step p a x y w j mt h1 h2 h3 h4 h5 h6 h7 hw ih =>
    intro i hi
    by_cases hc : i ≤ w.length
    · obtain ⟨p', x', q1, q2⟩ := ih i hc
      refine ⟨p', x', ?_, q2.trans h6⟩
      rw [List.take_append_of_le_length hc]; exact q1
    · refine ⟨p, x, ?_, rfl⟩
      rw [List.take_of_length_le (by simp; omega)]
      exact .step h1 h2 h3 h4 h5 h6 h7 hw
theorem WayT.len (hR : R.length = m) (hok : ∀ y ∈ ms, Mt.ok m y) {p : Int} {x : Ofr} {w : List Nat} (h : WayT ms hs R p x w) : w.length ≤ rnk R m x.t := by
  induction h with
  | hand => simp
  | @step p a x y w j mt h1 h2 h3 h4 h5 h6 h7 hw ih =>
    have := hok mt (List.mem_of_getElem? h3)
    unfold Mt.ok at this
    have := rnk_lt (t := x.t) hR hw.at (by omega)
    simp; omega
theorem WayT.in {p : Int} {x : Ofr} {w : List Nat} (h : WayT ms hs R p x w) : ∀ j ∈ w, j < ms.length := by
  induction h with
  | hand => intro j hj; cases hj
  | @step p a x y w j mt h1 h2 h3 h4 h5 h6 h7 hw ih =>
    intro i hi
    rcases List.mem_append.mp hi with hi | hi
    · exact ih i hi
    · rw [List.mem_singleton.mp hi]; exact (List.getElem?_eq_some_iff.mp h3).1
end
section
variable {T : Tab} {n k m : Nat} {st : Sto} {ms : List Mt} {hs : List (Int × Int)} {R : List (Option Ofr)}
end
end Mw

set_option Elab.async false
set_option linter.all false
set_option autoImplicit false
set_option maxRecDepth 100000
/-! PyS14: the fewest meetings, plain: rows forth, latest moments back. -/
namespace Mw
open PySem
inductive Go (S : List Sp) : Nat → Int → Int → Int → Int → Prop
  | nil {q u : Int} : Go S 0 q u q u
  | cons {s : Sp} {c : Nat} {u q' u' : Int} : s ∈ S → u ≤ s.t → Go S c s.b s.u q' u' → Go S (c + 1) s.a u q' u'
section
variable {S : List Sp} {p t q b : Int} {m : Nat} {ms : List Mt} {f g : Tbf}
theorem Go.snoc {c : Nat} {q u q' u' : Int} (h : Go S c q u q' u') : ∀ {s : Sp}, s ∈ S → s.a = q' → u' ≤ s.t → Go S (c + 1) q u s.b s.u := by
  induction h with
  | nil => rintro s hs rfl hu; exact .cons hs hu .nil
  | cons h1 h2 h3 ih => rintro s hs e hu; exact .cons h1 h2 (ih hs e hu)
theorem Go.last {c : Nat} {q u q' u' : Int} (h : Go S (c + 1) q u q' u') : ∃ s ∈ S, ∃ w, Go S c q u s.a w ∧ w ≤ s.t ∧ q' = s.b ∧ u' = s.u := by
  generalize e : c + 1 = c' at h
  induction h generalizing c with
  | nil => cases e
  | @cons s c2 u q' u' h1 h2 h3 ih =>
    cases c2 with
    | zero =>
      cases h3
      have : c = 0 := by omega
      subst this
      exact ⟨s, h1, u, .nil, h2, rfl, rfl⟩
    | succ c3 =>
      obtain ⟨s', q1, w, q2, q3, q4, q5⟩ := ih rfl
      have : c = c3 + 1 := by omega
      subst this
      exact ⟨s', q1, w, .cons h1 h2 q2, q3, q4, q5⟩
theorem Go.ge (hS : ∀ s ∈ S, s.t < s.u) {c : Nat} {q u q' u' : Int} (h : Go S c q u q' u') : u ≤ u' := by
  induction h with
  | nil => exact Int.le_refl _
  | cons h1 h2 h3 ih => have := hS _ h1; omega
theorem Go.cnt (hok : ∀ y ∈ ms, 1 ≤ y.l) {c : Nat} {q u q' u' : Int} (h : Go (stepsF 0 ms) c q u q' u') : c ≤ (ms.filter fun y => decide (u ≤ y.t)).length := by
  induction h with
  | nil => exact Nat.zero_le _
  | @cons s c u q' u' h1 h2 h3 ih =>
    obtain ⟨j, mt, e1, e2, e3, e4, e5⟩ := steps_get h1
    have hm := List.mem_of_getElem? e1
    have := hok mt hm
    have := filter_lt (p := fun y : Mt => decide (s.u ≤ y.t)) (q := fun y : Mt => decide (u ≤ y.t)) (s := mt) (fun x hx => by simp only [decide_eq_true_eq] at hx ⊢; omega) (by simp; omega) (by simp; omega) ms hm
    omega
theorem Go.le (hok : ∀ y ∈ ms, 1 ≤ y.l) {c : Nat} {q u q' u' : Int} (h : Go (stepsF 0 ms) c q u q' u') : c ≤ ms.length :=
  Nat.le_trans (h.cnt hok) (List.length_filter_le _ _)
/-- a place is come to by a moment, by so many steps or fewer -/
def Fw (S : List Sp) (p t q b : Int) (k : Nat) : Prop := ∃ c, c ≤ k ∧ ∃ v, v ≤ b ∧ Go S c p t q v
theorem Fw.mono {k k' : Nat} (h : Fw S p t q b k) (hk : k ≤ k') : Fw S p t q b k' := by
  obtain ⟨c, h1, h2⟩ := h
  exact ⟨c, Nat.le_trans h1 hk, h2⟩
def Least (S : List Sp) (p t q b : Int) : Option Nat → Prop
  | some c => Fw S p t q b c ∧ ∀ k, k < c → ¬ Fw S p t q b k
  | none => ∀ k, ¬ Fw S p t q b k
/-! ### rows forth -/
structure RowIs (S : List Sp) (p t : Int) (k : Nat) (f : Tbf) : Prop where
  snd : ∀ q v, f q = some v → ∃ c, c ≤ k ∧ Go S c p t q v
  low : ∀ c q v, c ≤ k → Go S c p t q v → ∃ w, f q = some w ∧ w ≤ v
/-- one step of a row more: by the row `f`, in `g` -/
def rstep (f g : Tbf) (s : Sp) : Tbf := match f s.a with
  | none => g
  | some w => if w ≤ s.t ∧ opn (g s.b) s.u = true then lowT g s else g
theorem rstep_none {s : Sp} (h : f s.a = none) : rstep f g s = g := by unfold rstep; rw [h]
theorem rstep_some {s : Sp} {w : Int} (h : f s.a = some w) : rstep f g s = if w ≤ s.t ∧ opn (g s.b) s.u = true then lowT g s else g := by unfold rstep; rw [h]
theorem rstep_mono {s : Sp} {p v : Int} (h : g p = some v) : ∃ w, rstep f g s p = some w ∧ w ≤ v := by
  cases hf : f s.a with
  | none => rw [rstep_none hf]; exact ⟨v, h, Int.le_refl _⟩
  | some w =>
    rw [rstep_some hf]
    by_cases hc : w ≤ s.t ∧ opn (g s.b) s.u = true
    · rw [if_pos hc]
      unfold lowT
      by_cases hp : p = s.b
      · rw [if_pos hp]
        refine ⟨_, rfl, ?_⟩
        have := hc.2
        rw [← hp, h] at this
        simp only [opn, decide_eq_true_eq] at this
        omega
      · rw [if_neg hp]; exact ⟨v, h, Int.le_refl _⟩
    · rw [if_neg hc]; exact ⟨v, h, Int.le_refl _⟩
theorem rfold_mono : ∀ (R : List Sp) (g : Tbf) {p v : Int}, g p = some v → ∃ w, R.foldl (rstep f) g p = some w ∧ w ≤ v
  | [], g, p, v, h => ⟨v, h, Int.le_refl _⟩
  | s :: R, g, p, v, h => by
    obtain ⟨w, h1, h2⟩ := rstep_mono (f := f) (s := s) h
    obtain ⟨w', h3, h4⟩ := rfold_mono R _ h1
    exact ⟨w', h3, by omega⟩
theorem rfold_snd : ∀ (R : List Sp) (g : Tbf) {p v : Int}, R.foldl (rstep f) g p = some v → g p = some v ∨ ∃ s ∈ R, s.b = p ∧ s.u = v ∧ ∃ w, f s.a = some w ∧ w ≤ s.t
  | [], g, p, v, h => .inl h
  | s :: R, g, p, v, h => by
    rcases rfold_snd R _ h with h1 | ⟨s', h1, h2⟩
    · cases hf : f s.a with
      | none => rw [rstep_none hf] at h1; exact .inl h1
      | some w =>
        rw [rstep_some hf] at h1
        by_cases hc : w ≤ s.t ∧ opn (g s.b) s.u = true
        · rw [if_pos hc] at h1
          unfold lowT at h1
          by_cases hp : p = s.b
          · rw [if_pos hp] at h1
            cases h1
            exact .inr ⟨s, List.mem_cons_self, hp.symm, rfl, w, hf, hc.1⟩
          · rw [if_neg hp] at h1; exact .inl h1
        · rw [if_neg hc] at h1; exact .inl h1
    · exact .inr ⟨s', List.mem_cons_of_mem _ h1, h2⟩
theorem rfold_hit : ∀ (R : List Sp) (g : Tbf) {s : Sp} {w : Int}, s ∈ R → f s.a = some w → w ≤ s.t → ∃ v, R.foldl (rstep f) g s.b = some v ∧ v ≤ s.u
  | [], g, s, w, h, _, _ => nomatch h
  | x :: R, g, s, w, h, h1, h2 => by
    rw [List.foldl_cons]
    rcases List.mem_cons.mp h with rfl | h
    · have : ∃ v, rstep f g s s.b = some v ∧ v ≤ s.u := by
        rw [rstep_some h1]
        by_cases hc : w ≤ s.t ∧ opn (g s.b) s.u = true
        · rw [if_pos hc]; exact ⟨s.u, by simp [lowT], Int.le_refl _⟩
        · rw [if_neg hc]
          cases hb : g s.b with
          | none => rw [hb] at hc; simp [opn, h2] at hc
          | some v => rw [hb] at hc; simp [opn, h2] at hc; exact ⟨v, rfl, by omega⟩
      obtain ⟨v, h3, h4⟩ := this
      obtain ⟨w', h5, h6⟩ := rfold_mono R _ h3
      exact ⟨w', h5, by omega⟩
    · exact rfold_hit R _ h h1 h2
theorem RowIs.next {k : Nat} (h : RowIs S p t k f) : RowIs S p t (k + 1) (S.foldl (rstep f) f) := by
  refine ⟨fun q v hv => ?_, fun c q v hc hg => ?_⟩
  · rcases rfold_snd S f hv with h1 | ⟨s, h1, rfl, rfl, w, h2, h3⟩
    · obtain ⟨c, h1, h2⟩ := h.snd q v h1
      exact ⟨c, by omega, h2⟩
    · obtain ⟨c, q1, q2⟩ := h.snd _ _ h2
      exact ⟨c + 1, by omega, q2.snoc h1 rfl h3⟩
  · cases c with
    | zero =>
      obtain ⟨w, h1, h2⟩ := h.low 0 q v (by omega) hg
      obtain ⟨w', h3, h4⟩ := rfold_mono S f h1
      exact ⟨w', h3, by omega⟩
    | succ c =>
      obtain ⟨s, q1, w, q2, q3, rfl, rfl⟩ := hg.last
      obtain ⟨w', h1, h2⟩ := h.low c s.a w (by omega) q2
      exact rfold_hit S f q1 h1 (by omega)
theorem RowIs.zero : RowIs S p t 0 (fun q => if q = p then some t else none) := by
  refine ⟨fun q v hv => ?_, fun c q v hc hg => ?_⟩
  · by_cases h : q = p
    · subst h; rw [if_pos rfl] at hv; cases hv; exact ⟨0, Nat.le_refl _, .nil⟩
    · rw [if_neg h] at hv; cases hv
  · have : c = 0 := by omega
    subst this
    cases hg
    exact ⟨t, by simp, Int.le_refl _⟩
/-- a row that stays is the last one -/
theorem RowIs.stay {k : Nat} (h : RowIs S p t k f) (he : S.foldl (rstep f) f = f) : ∀ j, RowIs S p t (k + j) f
  | 0 => h
  | j + 1 => by
    have := (RowIs.stay h he j).next
    rw [he] at this
    exact this
/-- a row that is new has a way of just so many meetings -/
theorem RowIs.long {k : Nat} (hok : ∀ y ∈ ms, 1 ≤ y.l) (h : RowIs (stepsF 0 ms) p t k f) (hne : (stepsF 0 ms).foldl (rstep f) f ≠ f) : k + 1 ≤ ms.length := by
  have h2 := h.next
  obtain ⟨q, hq⟩ : ∃ q, (stepsF 0 ms).foldl (rstep f) f q ≠ f q := Classical.byContradiction fun hn => hne (funext fun q => Classical.byContradiction fun hc => hn ⟨q, hc⟩)
  cases hv : (stepsF 0 ms).foldl (rstep f) f q with
  | none =>
    cases hf : f q with
    | none => exact absurd (hv.trans hf.symm) hq
    | some v => obtain ⟨w, h1, _⟩ := rfold_mono (f := f) (stepsF 0 ms) f hf; rw [hv] at h1; cases h1
  | some v =>
    obtain ⟨c, h3, h4⟩ := h2.snd q v hv
    have := h4.le hok
    by_cases hc : c ≤ k
    · obtain ⟨w, h5, h6⟩ := h.low c q v hc h4
      obtain ⟨w', h7, h8⟩ := rfold_mono (f := f) (stepsF 0 ms) f h5
      rw [hv] at h7; cases h7
      exact absurd (by rw [hv, h5]; congr 1; omega) hq
    · omega
end
end Mw

set_option Elab.async false
set_option linter.all false
set_option autoImplicit false
set_option maxRecDepth 100000
/-! PyS15: the fewest meetings, by the program. -/
namespace Mw
open PySem
section
variable {T : Tab} {n k m : Nat} {st : Sto} {ms : List Mt} {S : List Sp} {F : List (Option Int)} {p t q b : Int}
end
end Mw

set_option Elab.async false
set_option linter.all false
set_option autoImplicit false
set_option maxRecDepth 100000
/-! PyS16: the fewest meetings, counted back. -/
namespace Mw
open PySem
section
variable {S : List Sp} {p t q b : Int} {m : Nat} {ms : List Mt}
def lstep (L M : Int → Int) (s : Sp) : Int → Int := if s.u ≤ L s.b ∧ M s.a < s.t then fun p => if p = s.a then s.t else M p else M
theorem lstep_iff {L M : Int → Int} {s : Sp} {p u : Int} : u ≤ lstep L M s p ↔ u ≤ M p ∨ (s.a = p ∧ s.u ≤ L s.b ∧ u ≤ s.t) := by
  unfold lstep
  by_cases hc : s.u ≤ L s.b ∧ M s.a < s.t
  · rw [if_pos hc]
    by_cases hp : p = s.a
    · subst hp
      simp only [if_true]
      constructor
      · intro h; exact .inr ⟨trivial, hc.1, h⟩
      · rintro (h | h)
        · omega
        · exact h.2.2
    · simp only [hp, if_false]
      constructor
      · intro h; exact .inl h
      · rintro (h | h)
        · exact h
        · exact absurd h.1.symm hp
  · rw [if_neg hc]
    constructor
    · intro h; exact .inl h
    · rintro (h | ⟨rfl, h2, h3⟩)
      · exact h
      · omega
theorem lfold_iff {L : Int → Int} : ∀ (R : List Sp) (M : Int → Int) {p u : Int}, u ≤ R.foldl (lstep L) M p ↔ u ≤ M p ∨ ∃ s ∈ R, s.a = p ∧ s.u ≤ L s.b ∧ u ≤ s.t
  | [], M, p, u => by simp
  | s :: R, M, p, u => by
    rw [List.foldl_cons, lfold_iff R, lstep_iff]
    constructor
    · rintro ((h | h) | ⟨s', h1, h2⟩)
      · exact .inl h
      · exact .inr ⟨s, List.mem_cons_self, h⟩
      · exact .inr ⟨s', List.mem_cons_of_mem _ h1, h2⟩
    · rintro (h | ⟨s', h1, h2⟩)
      · exact .inl (.inl h)
      · rcases List.mem_cons.mp h1 with rfl | h1
        · exact .inl (.inr h2)
        · exact .inr ⟨s', h1, h2⟩
def LastIs (S : List Sp) (m : Nat) (q b : Int) (k : Nat) (L : Int → Int) : Prop := ∀ p u : Int, 0 ≤ p → p < m → 0 ≤ u → (u ≤ L p ↔ Fw S p u q b k)
theorem LastIs.next (hS : ∀ s ∈ S, SpIn m s ∧ 0 ≤ s.u) {k : Nat} {L : Int → Int} (h : LastIs S m q b k L) : LastIs S m q b (k + 1) (S.foldl (lstep L) L) := by
  intro p u h0 h1 h2
  rw [lfold_iff]
  constructor
  · rintro (h3 | ⟨s, q1, rfl, q3, q4⟩)
    · exact ((h p u h0 h1 h2).mp h3).mono (by omega)
    · obtain ⟨⟨_, _, r3, r4, _⟩, r5⟩ := hS s q1
      obtain ⟨c, e1, v, e2, e3⟩ := (h s.b s.u r3 (by omega) r5).mp q3
      exact ⟨c + 1, by omega, v, e2, .cons q1 q4 e3⟩
  · rintro ⟨c, e1, v, e2, e3⟩
    cases e3 with
    | nil => exact .inl ((h _ u h0 h1 h2).mpr ⟨0, by omega, u, e2, .nil⟩)
    | @cons s c _ _ _ q1 q2 q3 =>
      obtain ⟨⟨_, _, r3, r4, _⟩, r5⟩ := hS s q1
      exact .inr ⟨s, q1, rfl, (h s.b s.u r3 (by omega) r5).mpr ⟨c, by omega, v, e2, q3⟩, q2⟩
end
section
variable {T : Tab} {n k m : Nat} {st : Sto} {ms : List Mt} {S : List Sp} {p t q b : Int}
end
end Mw

set_option Elab.async false
set_option linter.all false
set_option autoImplicit false
set_option maxRecDepth 100000
/-! PyS17: all ways of a small net, by numbers of meetings (k30), plain. -/
namespace Mw
open PySem
def aftr (T : List Int) (x : Int) : Nat := (T.filter fun z => decide (x < z)).length
theorem pow_inc : ∀ T : List Int, T.Pairwise (· ≤ ·) → 1 + (T.map fun x => 2 ^ aftr T x).sum ≤ 2 ^ T.length
  | [], _ => by simp
  | x :: T, h => by
    obtain ⟨h1, h2⟩ := List.pairwise_cons.mp h
    have ih := pow_inc T h2
    have e1 : aftr (x :: T) x ≤ T.length := by
      unfold aftr
      rw [List.filter_cons_of_neg (by simp)]
      exact List.length_filter_le _ _
    have e2 : (T.map fun y => 2 ^ aftr (x :: T) y) = T.map fun y => 2 ^ aftr T y := List.map_congr_left fun y hy => by
      have := h1 y hy
      unfold aftr
      rw [List.filter_cons_of_neg (by simp; omega)]
    have e3 : 2 ^ aftr (x :: T) x ≤ 2 ^ T.length := Nat.pow_le_pow_right (by decide) e1
    rw [List.map_cons, List.sum_cons, e2, List.length_cons, Nat.pow_succ]
    omega
theorem sum_permN {l l' : List Nat} (h : l.Perm l') : l.sum = l'.sum := by
  induction h with
  | nil => rfl
  | cons x h ih => simp [ih]
  | swap x y l => simp; omega
  | trans _ _ ih1 ih2 => exact ih1.trans ih2
theorem aftr_perm {T T' : List Int} (h : T.Perm T') (x : Int) : aftr T x = aftr T' x := (h.filter _).length_eq
theorem pow_all (T : List Int) : 1 + (T.map fun x => 2 ^ aftr T x).sum ≤ 2 ^ T.length := by
  have hp := List.mergeSort_perm T fun a b : Int => decide (a ≤ b)
  have hs : (T.mergeSort fun a b : Int => decide (a ≤ b)).Pairwise (· ≤ ·) :=
    (List.pairwise_mergeSort (le := fun a b : Int => decide (a ≤ b)) (fun a b c h1 h2 => by simp only [decide_eq_true_eq] at *; omega) (fun a b => by simp only [Bool.or_eq_true, decide_eq_true_eq]; omega) T).imp fun h => by simpa using h
  have := pow_inc _ hs
  have e1 : ((T.mergeSort fun a b : Int => decide (a ≤ b)).map fun x => 2 ^ aftr (T.mergeSort fun a b : Int => decide (a ≤ b)) x).sum = (T.map fun x => 2 ^ aftr T x).sum := by
    have e : (fun x => 2 ^ aftr (T.mergeSort fun a b : Int => decide (a ≤ b)) x) = fun x => 2 ^ aftr T x := funext fun x => by rw [aftr_perm hp]
    rw [e]
    exact sum_permN (hp.map _)
  rw [e1, hp.length_eq] at this
  exact this
def cntM (ms : List Mt) (u : Int) : Nat := (ms.filter fun y => decide (u ≤ y.t)).length
def fitM (q u : Int) (s : Sp) : Bool := decide (s.a = q) && decide (u ≤ s.t)
/-- each meeting is gone by one step at most -/
theorem fit_sum {m : Nat} (f : Int → Nat) (q u : Int) : ∀ (ms : List Mt) (i : Nat), (∀ y ∈ ms, Mt.ok m y) → (((stepsF i ms).filter (fitM q u)).map fun s => f s.u).sum ≤ ((ms.filter fun y => decide (u ≤ y.t)).map fun y => f (y.t + y.l)).sum
  | [], i, _ => by simp [stepsF]
  | y :: ms, i, h => by
    have ih := fit_sum f q u ms (i + 1) fun z hz => h z (List.mem_cons_of_mem _ hz)
    have hy := h y List.mem_cons_self
    unfold Mt.ok at hy
    simp only [stepsF, List.filter_cons, List.filter_append]
    by_cases hu : u ≤ y.t
    · cases hb : y.bo with
      | false =>
        by_cases ha : y.a = q
        · simp [fitM, hu, ha] at ih ⊢; omega
        · simp [fitM, hu, ha] at ih ⊢; omega
      | true =>
        by_cases ha : y.a = q
        · have hbq : ¬ y.b = q := by omega
          simp [fitM, hu, ha, hbq] at ih ⊢; omega
        · by_cases hbq : y.b = q
          · simp [fitM, hu, ha, hbq] at ih ⊢; omega
          · simp [fitM, hu, ha, hbq] at ih ⊢; omega
    · cases hb : y.bo with
      | false => simp [fitM, hu] at ih ⊢; exact ih
      | true => simp [fitM, hu] at ih ⊢; exact ih
theorem sum_le_map {α : Type} {f g : α → Nat} : ∀ {l : List α}, (∀ x ∈ l, f x ≤ g x) → (l.map f).sum ≤ (l.map g).sum
  | [], _ => Nat.le_refl _
  | x :: l, h => by
    have := h x List.mem_cons_self
    have := sum_le_map (l := l) fun y hy => h y (List.mem_cons_of_mem _ hy)
    simp only [List.map_cons, List.sum_cons]; omega
theorem potM {m : Nat} {ms : List Mt} (hok : ∀ y ∈ ms, Mt.ok m y) (q u : Int) : 1 + (((stepsF 0 ms).filter (fitM q u)).map fun s => 2 ^ cntM ms s.u).sum ≤ 2 ^ cntM ms u := by
  have h1 := fit_sum (fun v => 2 ^ cntM ms v) q u ms 0 hok
  obtain ⟨T, eT⟩ : ∃ T : List Int, T = (ms.filter fun y => decide (u ≤ y.t)).map (·.t) := ⟨_, rfl⟩
  have h2 := pow_all T
  have hl : T.length = cntM ms u := by rw [eT]; simp [cntM]
  have h3 : ((ms.filter fun y => decide (u ≤ y.t)).map fun y => 2 ^ cntM ms (y.t + y.l)).sum ≤ (T.map fun x => 2 ^ aftr T x).sum := by
    rw [eT, List.map_map]
    refine sum_le_map fun y hy => ?_
    obtain ⟨hy1, hy2⟩ := List.mem_filter.mp hy
    simp only [decide_eq_true_eq] at hy2
    have hyl := (hok y hy1).2.2.2.2.2.2
    refine Nat.pow_le_pow_right (by decide) ?_
    simp only [cntM, aftr, List.filter_map, List.length_map, List.filter_filter]
    refine filter_le (fun z hz => ?_) ms
    simp only [decide_eq_true_eq] at hz
    simp only [Function.comp_apply, Bool.and_eq_true, decide_eq_true_eq]
    omega
  rw [hl] at h2
  omega
/-! ### all ways, as they are found -/
abbrev Wy := List Nat × Int × Int
def potE (ms : List Mt) (L : List Wy) : Nat := (L.map fun x => 2 ^ cntM ms x.2.2).sum
def moreE (ms : List Mt) (x : Wy) : List Wy := ((stepsF 0 ms).filter (fitM x.2.1 x.2.2)).map fun s => (x.1 ++ [s.k], s.b, s.u)
structure EvI (ms : List Mt) (p t : Int) (i : Nat) (L : List Wy) : Prop where
  st : ([], p, t) ∈ L
  go : ∀ x ∈ L, Go (stepsF 0 ms) x.1.length p t x.2.1 x.2.2
  nx : ∀ (j : Nat) (hj : j < L.length), j < i → ∀ s ∈ stepsF 0 ms, fitM L[j].2.1 L[j].2.2 s = true → (L[j].1 ++ [s.k], s.b, s.u) ∈ L
  le : i ≤ L.length
  pot : i + potE ms (L.drop i) ≤ 2 ^ ms.length
section
variable {ms : List Mt} {p t : Int} {i m : Nat} {L : List Wy}
theorem EvI.start : EvI ms p t 0 [([], p, t)] where
  st := by simp
  go := fun x hx => by rw [List.mem_singleton.mp hx]; exact .nil
  nx := fun j hj h => by omega
  le := by simp
  pot := by
    simp [potE]
    exact Nat.pow_le_pow_right (by decide) (List.length_filter_le _ _)
theorem potE_app (A B : List Wy) : potE ms (A ++ B) = potE ms A + potE ms B := by unfold potE; simp
theorem EvI.len (h : EvI ms p t i L) : L.length ≤ 2 ^ ms.length := by
  have h1 := h.pot
  have h2 : ∀ R : List Wy, R.length ≤ potE ms R := fun R => by
    unfold potE
    induction R with
    | nil => simp
    | cons a R ih =>
      have : 0 < 2 ^ cntM ms a.2.2 := Nat.pow_pos (by decide)
      simp only [List.length_cons, List.map_cons, List.sum_cons]; omega
  have h3 := h2 (L.drop i)
  have h4 := h.le
  rw [List.length_drop] at h3
  omega
theorem EvI.step (hok : ∀ y ∈ ms, Mt.ok m y) (h : EvI ms p t i L) (hi : i < L.length) : EvI ms p t (i + 1) (L ++ moreE ms L[i]) ∧ potE ms ((L ++ moreE ms L[i]).drop (i + 1)) < potE ms (L.drop i) := by
  have hd : L.drop i = L[i] :: L.drop (i + 1) := List.drop_eq_getElem_cons hi
  have hmore : 1 + potE ms (moreE ms L[i]) ≤ 2 ^ cntM ms L[i].2.2 := by
    have := potM hok L[i].2.1 L[i].2.2
    unfold potE moreE
    rw [List.map_map]
    exact this
  have e1 : (L ++ moreE ms L[i]).drop (i + 1) = L.drop (i + 1) ++ moreE ms L[i] := by rw [List.drop_append_of_le_length (by omega)]
  have e3 : potE ms (L.drop i) = 2 ^ cntM ms L[i].2.2 + potE ms (L.drop (i + 1)) := by rw [hd]; unfold potE; rw [List.map_cons, List.sum_cons]
  have hp := h.pot
  refine ⟨⟨by simp [h.st], fun x hx => ?_, fun j hj hji s hs hf => ?_, by simp; omega, ?_⟩, ?_⟩
  · rcases List.mem_append.mp hx with hx | hx
    · exact h.go x hx
    · obtain ⟨s, hs2, rfl⟩ := List.mem_map.mp hx
      obtain ⟨m1, m2⟩ := List.mem_filter.mp hs2
      simp only [fitM, Bool.and_eq_true, decide_eq_true_eq] at m2
      simp only [List.length_append, List.length_cons, List.length_nil]
      exact (h.go _ (List.getElem_mem hi)).snoc m1 m2.1 m2.2
  · by_cases hj2 : j < i
    · have hjl : j < L.length := by omega
      rw [List.getElem_append_left hjl] at hf ⊢
      exact List.mem_append_left _ (h.nx j hjl hj2 s hs hf)
    · have : j = i := by omega
      subst this
      rw [List.getElem_append_left hi] at hf ⊢
      exact List.mem_append_right _ (List.mem_map.mpr ⟨s, List.mem_filter.mpr ⟨hs, hf⟩, rfl⟩)
  · rw [e1, potE_app]; omega
  · rw [e1, potE_app]; omega
/-- every way is found -/
theorem EvI.all (h : EvI ms p t L.length L) : ∀ (c : Nat) (q u : Int), Go (stepsF 0 ms) c p t q u → ∃ x ∈ L, x.1.length = c ∧ x.2 = (q, u) := by
  intro c
  induction c with
  | zero => intro q u hg; cases hg; exact ⟨_, h.st, rfl, rfl⟩
  | succ c ih =>
    intro q u hg
    obtain ⟨s, hs, w, h1, h2, rfl, rfl⟩ := hg.last
    obtain ⟨x, hx, e1, e2⟩ := ih _ _ h1
    obtain ⟨j, hj, ej⟩ := List.getElem_of_mem hx
    have := h.nx j hj hj s hs (by rw [ej, e2]; simp [fitM, h2])
    exact ⟨_, this, by rw [ej]; simp [e1], rfl⟩
/-- as many meetings as the least of those that come there by then -/
def lensE (L : List Wy) (q b : Int) : List Int := (L.filter fun x => decide (x.2.1 = q) && decide (x.2.2 ≤ b)).map fun x => (x.1.length : Int)
theorem EvI.least (h : EvI ms p t L.length L) (q b : Int) : (lensE L q b = [] → Least (stepsF 0 ms) p t q b none) ∧ ∀ f : Int, f ∈ lensE L q b → (∀ y ∈ lensE L q b, f ≤ y) → ∃ c : Nat, f = c ∧ Least (stepsF 0 ms) p t q b (some c) := by
  have mem : ∀ c v, Go (stepsF 0 ms) c p t q v → v ≤ b → (c : Int) ∈ lensE L q b := fun c v hg hv => by
    obtain ⟨x, hx, e1, e2⟩ := h.all c q v hg
    refine List.mem_map.mpr ⟨x, List.mem_filter.mpr ⟨hx, ?_⟩, by rw [e1]⟩
    rw [e2]; simp [hv]
  refine ⟨fun he k hk => ?_, fun f hf hle => ?_⟩
  · obtain ⟨c, _, v, hv, hg⟩ := hk
    have := mem c v hg hv
    rw [he] at this; cases this
  · obtain ⟨x, hx, rfl⟩ := List.mem_map.mp hf
    obtain ⟨hx1, hx2⟩ := List.mem_filter.mp hx
    simp only [Bool.and_eq_true, decide_eq_true_eq] at hx2
    have hg := h.go x hx1
    rw [hx2.1] at hg
    refine ⟨x.1.length, rfl, ⟨x.1.length, Nat.le_refl _, _, hx2.2, hg⟩, fun k hk hf => ?_⟩
    obtain ⟨c, hc, v, hv, hg2⟩ := hf
    have := hle _ (mem c v hg2 hv)
    omega
end
end Mw

set_option Elab.async false
set_option linter.all false
set_option autoImplicit false
set_option maxRecDepth 100000
/-! PyS18: all ways of a small net, by the program (k30). -/
namespace Mw
open PySem
section
variable {T : Tab} {n k m : Nat} {st : Sto} {ms : List Mt} {p t q b : Int} {L : List Wy}
end
end Mw

set_option Elab.async false
set_option linter.all false
set_option autoImplicit false
set_option maxRecDepth 100000
/-! PyL3: the least time, by begins. -/
namespace Mw
open PySem
/-! ### by begins -/
theorem minI_le : ∀ (xs : List Int) (x : Int), (xs.foldl (fun m y => if y < m then y else m) x ≤ x) ∧ (∀ y ∈ xs, xs.foldl (fun m y => if y < m then y else m) x ≤ y) ∧ (xs.foldl (fun m y => if y < m then y else m) x = x ∨ xs.foldl (fun m y => if y < m then y else m) x ∈ xs)
  | [], x => ⟨Int.le_refl _, fun _ h => (by cases h), .inl rfl⟩
  | y :: xs, x => by
    obtain ⟨h1, h2, h3⟩ := minI_le xs (if y < x then y else x)
    simp only [List.foldl_cons]
    have k1 : (if y < x then y else x) ≤ x := by split <;> omega
    have k2 : (if y < x then y else x) ≤ y := by split <;> omega
    refine ⟨Int.le_trans h1 k1, fun z hz => ?_, ?_⟩
    · rcases List.mem_cons.mp hz with rfl | hz
      · exact Int.le_trans h1 k2
      · exact h2 z hz
    · rcases h3 with h3 | h3
      · rw [h3]
        split
        · exact .inr (by simp)
        · exact .inl rfl
      · exact .inr (List.mem_cons_of_mem _ h3)
theorem minI_some {l : List Int} {v : Int} : minI l = some v ↔ v ∈ l ∧ ∀ w ∈ l, v ≤ w := by
  cases l with
  | nil => simp [minI]
  | cons x xs =>
    obtain ⟨h1, h2, h3⟩ := minI_le xs x
    simp only [minI, Option.some.injEq]
    have hm : xs.foldl (fun m y => if y < m then y else m) x ∈ x :: xs := by
      rcases h3 with h | h
      · rw [h]; simp
      · simp [h]
    have hle : ∀ w ∈ x :: xs, xs.foldl (fun m y => if y < m then y else m) x ≤ w := fun w hw => by
      rcases List.mem_cons.mp hw with rfl | hw
      · exact h1
      · exact h2 w hw
    constructor
    · rintro rfl
      exact ⟨hm, hle⟩
    · rintro ⟨a, b⟩
      have := b _ hm
      have := hle _ a
      omega
section
variable {T : Tab} {n k : Nat} {st : Sto} {ms : List Mt} {m : Nat} {S : List Sp} {one other : Int}
/-! ### which it is -/
end
end Mw

set_option Elab.async false
set_option linter.all false
set_option autoImplicit false
set_option maxRecDepth 100000
/-! PyM4: steps that let ways go; waiting. -/
namespace Mw
open PySem
def cVis_soon : CSs := (.cons (.ret (.chain .le .le (.var 1) (.idx (.var 0) (.cst (.int 3))) (.bin .add (.var 1) (.var 2)))) .nil)
def fVis_soon : Fd := ⟨3, 3, cVis_soon⟩
def cVahead_of : CSs := (.cons (.for (.tp (.cons (.nm 3) (.cons (.tp (.cons (.nm 4) (.cons (.nm 5) .nil))) .nil))) (.enm (.var 0)) (.cons (.ite (.and (.cmp .eq (.idx (.var 4) (.cst (.int 2))) (.idx (.var 1) (.cst (.int 1)))) (.call "is_soon" (.cons (.var 1) (.cons (.idx (.var 4) (.cst (.int 4))) (.cons (.var 2) .nil))))) (.cons (.ret (.var 3)) .nil) .nil) .nil)) (.cons (.ret (.cst .non)) .nil))
def fVahead_of : Fd := ⟨3, 6, cVahead_of⟩
def cVsteps_gone : CSs := (.cons (.asg (.nm 4) (.lst .nil)) (.cons (.for (.nm 5) (.ex (.sri 3 (.call "steps_of" (.cons (.var 0) .nil)))) (.cons (.asg (.nm 6) (.call "ahead_of" (.cons (.var 4) (.cons (.var 5) (.cons (.var 3) .nil))))) (.cons (.ite (.and (.cmp .eq (.idx (.var 5) (.cst (.int 1))) (.var 1)) (.call "is_soon" (.cons (.var 5) (.cons (.var 2) (.cons (.var 3) .nil))))) (.cons (.asg (.nm 6) (.cst (.int (-1)))) .nil) .nil) (.cons (.ite (.cmp .notN (.var 6) (.cst .non)) (.cons (.expr (.mt .append (.var 4) (.cons (.tup (.cons (.var 5) (.cons (.var 6) .nil))) .nil))) .nil) .nil) .nil)))) (.cons (.ret (.var 4)) .nil)))
def fVsteps_gone : Fd := ⟨4, 7, cVsteps_gone⟩
def cVwaiting : CSs := (.cons (.asg (.nm 4) (.bin .mul (.lst (.cons (.cst .non) .nil)) (.idx (.var 0) (.cst (.int 0))))) (.cons (.for (.tp (.cons (.nm 5) (.cons (.nm 6) .nil))) (.ex (.call "steps_gone" (.cons (.var 0) (.cons (.var 1) (.cons (.var 2) (.cons (.var 3) .nil)))))) (.cons (.asg (.nm 7) (.idx (.var 5) (.cst (.int 2)))) (.cons (.ite (.or (.cmp .isN (.idx (.var 4) (.var 7)) (.cst .non)) (.cmp .lt (.idx (.var 5) (.cst (.int 4))) (.idx (.var 4) (.var 7)))) (.cons (.put (.var 4) (.var 7) (.idx (.var 5) (.cst (.int 4)))) .nil) .nil) .nil))) (.cons (.put (.var 4) (.var 1) (.var 2)) (.cons (.ret (.bi .tuple (.cons (.var 4) .nil))) .nil))))
def fVwaiting : Fd := ⟨4, 8, cVwaiting⟩

/-! ### plain -/
/-- a step that begins from a moment on, at most so much later -/
abbrev soonV (s : Sp) (t B : Int) : Prop := t ≤ s.t ∧ s.t ≤ t + B
inductive Gn (S : List Sp) (p t B : Int) : Sp → Prop
  | first {s : Sp} : s ∈ S → s.a = p → soonV s t B → Gn S p t B s
  | next {r s : Sp} : Gn S p t B r → s ∈ S → s.a = r.b → soonV s r.u B → Gn S p t B s
theorem Gn.mem {S : List Sp} {p t B : Int} {s : Sp} (h : Gn S p t B s) : s ∈ S := by cases h <;> assumption
def sortU (S : List Sp) : List Sp := S.mergeSort fun x y => decide (x.t ≤ y.t)
def aheadF (G : List (Sp × Int)) (s : Sp) (B : Int) : Option Int := (G.findIdx? fun g => decide (g.1.b = s.a ∧ soonV s g.1.u B)).map fun (i : Nat) => (i : Int)
def ahF (p t B : Int) (G : List (Sp × Int)) (s : Sp) : Option Int := if s.a = p ∧ soonV s t B then some (-1) else aheadF G s B
def goneS (p t B : Int) (G : List (Sp × Int)) (s : Sp) : List (Sp × Int) := match ahF p t B G s with
  | some a => G ++ [(s, a)]
  | none => G
def goneF (S : List Sp) (p t B : Int) : List (Sp × Int) := (sortU S).foldl (goneS p t B) []
section
variable {S : List Sp} {p t B : Int}
theorem sortU_mem {s : Sp} : s ∈ sortU S ↔ s ∈ S := List.mem_mergeSort
theorem sortU_len : (sortU S).length = S.length := List.length_mergeSort _
theorem sortU_le : (sortU S).Pairwise fun x y => x.t ≤ y.t := by
  have := List.pairwise_mergeSort (le := fun x y : Sp => decide (x.t ≤ y.t)) (fun a b c h1 h2 => by simp at *; omega) (fun a b => by simp; omega) S
  exact this.imp fun h => by simpa using h
theorem ahF_some {G : List (Sp × Int)} {s : Sp} : (∃ a, ahF p t B G s = some a) ↔ (s.a = p ∧ soonV s t B) ∨ ∃ g ∈ G, g.1.b = s.a ∧ soonV s g.1.u B := by
  unfold ahF
  by_cases h : s.a = p ∧ soonV s t B
  · rw [if_pos h]; exact ⟨fun _ => .inl h, fun _ => ⟨_, rfl⟩⟩
  · rw [if_neg h]
    simp only [h, false_or]
    unfold aheadF
    cases e : G.findIdx? fun g => decide (g.1.b = s.a ∧ soonV s g.1.u B) with
    | none =>
      rw [List.findIdx?_eq_none_iff] at e
      simp only [Option.map_none, reduceCtorEq, exists_false, false_iff, not_exists, not_and]
      intro g hg h1 h2 h3
      have := e g hg
      exact absurd ⟨h1, h2, h3⟩ (of_decide_eq_false this)
    | some i =>
      rw [List.findIdx?_eq_some_iff_getElem] at e
      obtain ⟨hi, h1, _⟩ := e
      simp only [Option.map_some, Option.some.injEq, exists_eq', true_iff]
      exact ⟨G[i], List.getElem_mem hi, by simpa using h1⟩
theorem gone_go (hS : ∀ s ∈ S, s.t < s.u) : ∀ (R D : List Sp) (G : List (Sp × Int)), (∀ x, x ∈ S ↔ x ∈ D ∨ x ∈ R) → (∀ x ∈ D, ∀ y ∈ R, x.t ≤ y.t) → R.Pairwise (fun x y => x.t ≤ y.t) → (∀ s, s ∈ G.map (·.1) ↔ s ∈ D ∧ Gn S p t B s) →
    ∀ s, s ∈ (R.foldl (goneS p t B) G).map (·.1) ↔ Gn S p t B s
  | [], D, G, h1, _, _, h4, s => by
    rw [List.foldl_nil, h4]
    exact ⟨fun h => h.2, fun h => ⟨((h1 s).mp h.mem).resolve_right (by simp), h⟩⟩
  | x :: R, D, G, h1, h2, h3, h4, s => by
    rw [List.foldl_cons]
    obtain ⟨p1, p2⟩ := List.pairwise_cons.mp h3
    have hx : x ∈ S := (h1 x).mpr (.inr List.mem_cons_self)
    have key : (∃ a, ahF p t B G x = some a) ↔ Gn S p t B x := by
      rw [ahF_some]
      constructor
      · rintro (⟨e, h⟩ | ⟨g, hg, e, h⟩)
        · exact .first hx e h
        · exact .next ((h4 g.1).mp (List.mem_map_of_mem hg)).2 hx e.symm h
      · intro h
        cases h with
        | first _ e h => exact .inl ⟨e, h⟩
        | @next r _ hr _ e h =>
          have hr2 := hS r hr.mem
          have hrD : r ∈ D := by
            rcases (h1 r).mp hr.mem with z | z
            · exact z
            · rcases List.mem_cons.mp z with z | z
              · subst z; have := h.1; omega
              · have := p1 r z; have := h.1; omega
          obtain ⟨g, hg, e2⟩ := List.mem_map.mp ((h4 r).mpr ⟨hrD, hr⟩)
          exact .inr ⟨g, hg, by rw [e2, e], by rw [e2]; exact h⟩
    refine gone_go hS R (D ++ [x]) _ (fun y => ?_) (fun y hy z hz => ?_) p2 (fun y => ?_) s
    · rw [h1 y]; simp [or_assoc]
    · rcases List.mem_append.mp hy with hy | hy
      · exact h2 y hy z (List.mem_cons_of_mem _ hz)
      · rw [List.mem_singleton.mp hy]; exact p1 z hz
    · unfold goneS
      cases e : ahF p t B G x with
      | none =>
        have no : ¬ Gn S p t B x := fun h => by obtain ⟨a, ha⟩ := key.mpr h; rw [e] at ha; cases ha
        simp only []
        rw [h4]
        refine ⟨fun h => ⟨List.mem_append_left _ h.1, h.2⟩, fun h => ⟨?_, h.2⟩⟩
        rcases List.mem_append.mp h.1 with z | z
        · exact z
        · rw [List.mem_singleton.mp z] at h; exact absurd h.2 no
      | some a =>
        have yes : Gn S p t B x := key.mp ⟨a, e⟩
        simp only [List.map_append, List.map_cons, List.map_nil]
        rw [List.mem_append, h4]
        constructor
        · rintro (h | h)
          · exact ⟨List.mem_append_left _ h.1, h.2⟩
          · rw [List.mem_singleton.mp h]; exact ⟨by simp, yes⟩
        · rintro ⟨h, hg⟩
          rcases List.mem_append.mp h with z | z
          · exact .inl ⟨z, hg⟩
          · exact .inr z
/-- the steps told are those by which ways go -/
theorem goneF_mem (hS : ∀ s ∈ S, s.t < s.u) {s : Sp} : s ∈ (goneF S p t B).map (·.1) ↔ Gn S p t B s :=
  gone_go hS (sortU S) [] [] (fun x => by simp [sortU_mem]) (by simp) sortU_le (by simp) s
theorem goneS_len {G : List (Sp × Int)} {s : Sp} : (goneS p t B G s).length ≤ G.length + 1 := by
  unfold goneS
  split <;> simp
/-- the least moments of coming, the moment at the place itself -/
def endsV (G : List (Sp × Int)) (q : Int) : List Int := (G.filter fun g => decide (g.1.b = q)).map fun g => g.1.u
def wtF (S : List Sp) (p t B q : Int) : Option Int := if q = p then some t else minI (endsV (goneF S p t B) q)
theorem endsV_mem (hS : ∀ s ∈ S, s.t < s.u) {q u : Int} : u ∈ endsV (goneF S p t B) q ↔ ∃ s, Gn S p t B s ∧ s.b = q ∧ s.u = u := by
  unfold endsV
  constructor
  · intro h
    obtain ⟨g, hg, rfl⟩ := List.mem_map.mp h
    obtain ⟨h1, h2⟩ := List.mem_filter.mp hg
    exact ⟨g.1, (goneF_mem hS).mp (List.mem_map_of_mem h1), by simpa using h2, rfl⟩
  · rintro ⟨s, hs, h1, rfl⟩
    obtain ⟨g, hg, rfl⟩ := List.mem_map.mp ((goneF_mem hS).mpr hs)
    exact List.mem_map.mpr ⟨g, List.mem_filter.mpr ⟨hg, by simpa using h1⟩, rfl⟩
theorem minI_snoc {l : List Int} {x : Int} : minI (l ++ [x]) = some (match minI l with
    | none => x
    | some v => if x < v then x else v) := by
  cases l with
  | nil => simp [minI]
  | cons y ys => simp [minI, List.foldl_append]
end
end Mw

set_option Elab.async false
set_option linter.all false
set_option autoImplicit false
set_option maxRecDepth 100000
/-! PyM5: steps_gone, waiting. -/
namespace Mw
open PySem
/-- a step told, with which of them goes ahead of it -/
def gnD (g : Sp × Int) : D := .tup [spD g.1, .int g.2]
theorem seq_refV {s : Sto} {xs : List D} {j : Nat} (h : s[j]? = some (.lst xs)) : srcSeq s (.val (.ref j)) = some ⟨xs, [(j, .lst xs)], false⟩ := by simp only [srcSeq, h]
theorem gc_idV {st : Sto} {d : D} (hd : d.low st.length = true) : gc st d st = (d, st) := by simpa using gc_app (st := st) (g := []) hd
structure HWt (T : Tab) : Prop where
  soon : Has T "is_soon" fVis_soon
  ahead : Has T "ahead_of" fVahead_of
  gone : Has T "steps_gone" fVsteps_gone
  wait : Has T "waiting" fVwaiting
  sof : Has T "steps_of" fsteps_of
section
variable {T : Tab} {n k m : Nat} {st : Sto} {S : List Sp} {p t B : Int}
theorem soon_ok (hT : Has T "is_soon" fVis_soon) {s : Sp} : callF T n (k + 1) "is_soon" [spD s, .int t, .int B] st = some (.bl (decide (soonV s t B)), st) := by
  refine callF_eq (callF_w hT rfl ?_)
  by_cases h : t ≤ s.t
  · simp [fVis_soon, cVis_soon, wB_cons, spD, h]
  · simp [fVis_soon, cVis_soon, wB_cons, spD, h]
def ahI (G : List (Sp × Int)) (s : Sp) (B : Int) (j : Nat) (st : Sto) (zs : List D) (ρ : Env) (s' : Sto) : Prop :=
  ∃ (i : Nat) (pre rest : List (Sp × Int)) (r3 r4 r5 : Option D), zs = enmD i (rest.map gnD) ∧ G = pre ++ rest ∧ pre.length = i ∧ (∀ g ∈ pre, ¬ (g.1.b = s.a ∧ soonV s g.1.u B)) ∧ s' = st ∧ ρ = [some (.ref j), some (spD s), some (.int B), r3, r4, r5]
theorem ahead_ok (h1 : Has T "is_soon" fVis_soon) (hT : Has T "ahead_of" fVahead_of) {G : List (Sp × Int)} {s : Sp} {j : Nat} (hj : st[j]? = some (.lst (G.map gnD))) : callF T n (k + 2) "ahead_of" [.ref j, spD s, .int B] st = some (oiD (aheadF G s B), st) := by
  refine callF_eq (callF_w hT rfl ?_)
  simp only [fVahead_of, cVahead_of]
  rw [wB_cons]
  simp only [wS_for]
  simp [seq_refV hj]
  refine for_d (ahI G s B j st) ?_ ?_ _ _ _ ⟨0, [], G, none, none, none, rfl, rfl, rfl, by simp, rfl, rfl⟩
  · rintro ρ s' ⟨i, pre, rest, r3, r4, r5, z1, z2, z3, z4, rfl, rfl⟩
    refine ⟨chk_one hj, ?_⟩
    have hrest : rest = [] := by
      cases rest with
      | nil => rfl
      | cons x xs => simp [enmD] at z1
    subst hrest
    simp only [List.append_nil] at z2
    have : aheadF G s B = none := by
      unfold aheadF
      rw [List.findIdx?_eq_none_iff.mpr fun g hg => decide_eq_false (z4 g (by rw [← z2]; exact hg))]
      rfl
    rw [this, wB_cons]
    simp [oiD, gc_idV]
  · rintro z zs ρ s' ⟨i, pre, rest, r3, r4, r5, z1, z2, z3, z4, rfl, rfl⟩
    cases rest with
    | nil => simp [enmD] at z1
    | cons g rest =>
      simp only [List.map_cons, enmD_cons, List.cons.injEq] at z1
      obtain ⟨rfl, rfl⟩ := z1
      have e1 := soon_ok (n := n) (k := k) (st := s') (s := s) (t := g.1.u) (B := B) h1
      refine ⟨chk_one hj, _, rfl, ?_⟩
      show wB _ _ _ _ _ _
      rw [wB_cons]
      have i2 : ∀ s0 : Sto, idxApp s0 (.val (spD g.1)) (.val (.int 2)) = some (.val (.int g.1.b)) := fun _ => rfl
      have i4 : ∀ s0 : Sto, idxApp s0 (.val (spD g.1)) (.val (.int 4)) = some (.val (.int g.1.u)) := fun _ => rfl
      have i1 : ∀ s0 : Sto, idxApp s0 (.val (spD s)) (.val (.int 1)) = some (.val (.int s.a)) := fun _ => rfl
      by_cases hb : g.1.b = s.a
      · by_cases hs : soonV s g.1.u B
        · have : aheadF G s B = some (i : Int) := by
            unfold aheadF
            rw [List.findIdx?_eq_some_iff_getElem.mpr (⟨by rw [z2]; simp; omega, ?_, ?_⟩ : ∃ h : i < G.length, _)]
            · rfl
            · have e : G[i]'(by rw [z2]; simp; omega) = g := by
                subst z2 z3; simp
              rw [e]
              exact decide_eq_true ⟨hb, hs⟩
            · intro k' hk
              have e : G[k']'(by rw [z2]; simp; omega) = pre[k']'(by omega) := by
                subst z2; rw [List.getElem_append_left]
              rw [e]
              simp only [decide_eq_true_eq]
              exact z4 _ (List.getElem_mem _)
          simp [gnD, i1, i2, i4, hb, e1, hs, wB_cons, this, oiD, gc_idV]
        · simp [gnD, i1, i2, i4, hb, e1, hs]
          exact ⟨i + 1, pre ++ [g], rest, _, _, _, rfl, by rw [z2]; simp, by simp [z3], fun x hx => by
            rcases List.mem_append.mp hx with z | z
            · exact z4 x z
            · rw [List.mem_singleton.mp z]; exact fun h => hs h.2, rfl, rfl⟩
      · simp [gnD, i1, i2, i4, hb]
        exact ⟨i + 1, pre ++ [g], rest, _, _, _, rfl, by rw [z2]; simp, by simp [z3], fun x hx => by
            rcases List.mem_append.mp hx with z | z
            · exact z4 x z
            · rw [List.mem_singleton.mp z]; exact fun h => hb h.1, rfl, rfl⟩
theorem keysI_sp (S : List Sp) : keysI 3 (S.map spD) = some (S.map (·.t)) := by
  induction S with
  | nil => rfl
  | cons x xs ih => simp [keysI, spD, ih]
theorem sri_sp (hl : S.length ≤ 16777216) : sriApp st 3 (.val (.tup (S.map spD))) = some (.tmp ((sortU S).map spD)) := by
  have hz : szOk (S.map spD).length = true := decide_eq_true (by simpa using hl)
  simp only [sriApp, srcSeq, keysI_sp, hz, if_true, Option.some.injEq, RV.tmp.injEq]
  have e : (S.map spD).zip (S.map (·.t)) = S.map fun s => (spD s, s.t) := by
    induction S with
    | nil => rfl
    | cons x xs ih => simp [ih (by simp at hl; omega) (decide_eq_true (by simp at hl ⊢; omega))]
  rw [e]
  unfold srtD sortU
  rw [← List.map_mergeSort (r := fun x y : Sp => decide (x.t ≤ y.t)) (fun a _ b _ => by simp), List.map_map]
  rfl
theorem gn_low {j : Nat} {G : List (Sp × Int)} : D.lowL j (G.map gnD) = true := by
  rw [lowL_all]
  intro x hx
  obtain ⟨g, _, rfl⟩ := List.mem_map.mp hx
  simp [gnD, spD]
def sgI (st : Sto) (S : List Sp) (p t B : Int) (a : D) (zs : List Sp) (ρ : Env) (s : Sto) : Prop :=
  ∃ (done : List Sp) (r5 r6 : Option D), done ++ zs = sortU S ∧ s = st ++ [.lst ((done.foldl (goneS p t B) []).map gnD)] ∧ ρ = [some a, some (.int p), some (.int t), some (.int B), some (.ref st.length), r5, r6]
def sgP (st : Sto) (p t B : Int) (a : D) (G : List (Sp × Int)) (z : Sp) (f : Fl) (ρ : Env) (s : Sto) : Prop :=
  f = .nx ∧ s = st ++ [.lst (G.map gnD)] ∧ ρ = [some a, some (.int p), some (.int t), some (.int B), some (.ref st.length), some (spD z), some (oiD (ahF p t B G z))]
theorem wgone_ok (H : HWt T) {ms : List Mt} (hl : ms.length ≤ 100000) (hS : S = stepsF 0 ms) : callF T n (k + 3) "steps_gone" [netD m ms, .int p, .int t, .int B] st = some (.ref st.length, st ++ [.lst ((goneF S p t B).map gnD)]) := by
  refine callF_eq (callF_w H.gone rfl ?_)
  have e1 := fun s : Sto => steps_ok (n := n) (k := k + 1) (st := s) H.sof (m := (m : Int)) (ms := ms) (by omega)
  have hlen : S.length ≤ 200000 := by have := steps_len 0 ms; rw [hS]; omega
  rw [← hS] at e1
  simp only [fVsteps_gone, cVsteps_gone]
  rw [wB_cons]
  simp
  rw [wB_cons]
  simp only [wS_for]
  simp [e1, sri_sp (show S.length ≤ 16777216 by omega)]
  refine for_map spD (sgI st S p t B (netD m ms)) ?_ ?_ _ _ _ ⟨[], _, _, rfl, rfl, rfl⟩
  · rintro ρ s ⟨done, r5, r6, e, rfl, rfl⟩
    simp only [List.append_nil] at e
    refine ⟨rfl, ?_⟩
    rw [wB_cons]
    simp
    rw [e, gc_one (o := .lst (((sortU S).foldl (goneS p t B) []).map gnD)) (by simp only [O.low]; exact gn_low)]
    exact ⟨rfl, rfl⟩
  · rintro z zs ρ s ⟨done, r5, r6, e, rfl, rfl⟩
    obtain ⟨G, eG⟩ : ∃ G, G = done.foldl (goneS p t B) [] := ⟨_, rfl⟩
    have hG : G.length ≤ done.length := by
      have : ∀ (R : List Sp) (G : List (Sp × Int)), (R.foldl (goneS p t B) G).length ≤ G.length + R.length := by
        intro R
        induction R with
        | nil => intro G; simp
        | cons x R ih =>
          intro G
          have := ih (goneS p t B G x)
          have := goneS_len (p := p) (t := t) (B := B) (G := G) (s := x)
          rw [List.foldl_cons, List.length_cons]
          omega
      have := this done []
      rw [eG]; simpa using this
    have hd : done.length ≤ 200000 := by
      have := congrArg List.length e
      rw [sortU_len] at this
      simp at this; omega
    have e2 := ahead_ok (n := n) (k := k) (st := st ++ [.lst (G.map gnD)]) (B := B) (s := z) H.soon H.ahead (G := G) (j := st.length) get_last
    have e3 := soon_ok (n := n) (k := k + 1) (st := st ++ [.lst (G.map gnD)]) (s := z) (t := t) (B := B) H.soon
    rw [← eG]
    refine ⟨rfl, _, rfl, ?_⟩
    show wB _ _ _ _ _ _
    rw [wB_cons]
    simp [e2]
    rw [wB_cons]
    have i1 : ∀ s0 : Sto, idxApp s0 (.val (spD z)) (.val (.int 1)) = some (.val (.int z.a)) := fun _ => rfl
    refine st_cut (sgP st p t B (netD m ms) G z) ?_ ?_
    · by_cases h1 : z.a = p
      · by_cases h2 : soonV z t B
        · simp [i1, h1, e3, h2, wB_cons]
          exact ⟨rfl, rfl, by rw [show ahF p t B G z = some (-1) from if_pos ⟨h1, h2⟩]; rfl⟩
        · simp [i1, h1, e3, h2]
          exact ⟨rfl, rfl, by rw [show ahF p t B G z = aheadF G z B from if_neg fun h => h2 h.2]⟩
      · simp [i1, h1]
        exact ⟨rfl, rfl, by rw [show ahF p t B G z = aheadF G z B from if_neg fun h => h1 h.1]⟩
    rintro f ρ s ⟨rfl, rfl, rfl⟩
    simp only []
    rw [wB_cons]
    have next : (done ++ [z]).foldl (goneS p t B) [] = goneS p t B G z := by rw [List.foldl_append, ← eG]; rfl
    cases ea : ahF p t B G z with
    | none =>
      simp [oiD, isNon]
      exact ⟨done ++ [z], _, _, by simp [e], by rw [next]; simp [goneS, ea], rfl⟩
    | some a =>
      simp [oiD, isNon]
      rw [wB_cons]
      simp [app_ref (get_last (st := st) (o := .lst (G.map gnD))) (by simp; omega)]
      exact ⟨done ++ [z], _, _, by simp [e], by rw [next]; simp [goneS, ea, gnD], rfl⟩
/-! ### waiting -/
def rowO (m : Nat) (f : Int → Option Int) : List D := (List.range m).map fun (q : Nat) => oiD (f (q : Int))
theorem rowO_len {f : Int → Option Int} : (rowO m f).length = m := by simp [rowO]
theorem rowO_get {f : Int → Option Int} {i : Int} (h0 : 0 ≤ i) (h1 : i.toNat < m) : (rowO m f)[i.toNat]? = some (oiD (f i)) := by
  unfold rowO
  rw [List.getElem?_map, List.getElem?_range h1]
  simp only [Option.map_some]
  rw [show ((i.toNat : Nat) : Int) = i by omega]
theorem rowO_set {f : Int → Option Int} {i v : Int} (h0 : 0 ≤ i) (h1 : i.toNat < m) : (rowO m f).set i.toNat (.int v) = rowO m fun q => if q = i then some v else f q := by
  refine List.ext_getElem? fun j => ?_
  unfold rowO
  by_cases hj : i.toNat = j
  · subst hj
    rw [List.getElem?_set_self (by simpa using h1), List.getElem?_map, List.getElem?_range h1]
    simp only [Option.map_some]
    rw [show ((i.toNat : Nat) : Int) = i by omega, if_pos rfl]
    rfl
  · rw [List.getElem?_set_ne hj, List.getElem?_map, List.getElem?_map]
    cases hr : (List.range m)[j]? with
    | none => rfl
    | some x =>
      have : x = j := by
        obtain ⟨hl, e⟩ := List.getElem?_eq_some_iff.mp hr
        simpa using e.symm
      subst this
      simp only [Option.map_some]
      rw [if_neg (by omega)]
theorem rowO_none : List.replicate m D.non = rowO m fun _ => none := by
  refine List.ext_getElem? fun j => ?_
  unfold rowO
  rw [List.getElem?_map]
  by_cases hj : j < m
  · rw [List.getElem?_range hj, List.getElem?_replicate, if_pos hj]; rfl
  · rw [List.getElem?_eq_none (by simp; omega), List.getElem?_eq_none (by simp; omega)]; rfl
theorem rowO_low {j : Nat} {f : Int → Option Int} : D.lowL j (rowO m f) = true := by
  rw [lowL_all]
  intro x hx
  obtain ⟨q, _, rfl⟩ := List.mem_map.mp hx
  cases f (q : Int) <;> rfl
theorem rowO_congr {f g : Int → Option Int} (h : ∀ q : Int, 0 ≤ q → q.toNat < m → f q = g q) : rowO m f = rowO m g := by
  unfold rowO
  refine List.map_congr_left fun q hq => ?_
  rw [h q (by omega) (by simpa using hq)]
theorem endsV_snoc {G : List (Sp × Int)} {g : Sp × Int} {q : Int} : endsV (G ++ [g]) q = if g.1.b = q then endsV G q ++ [g.1.u] else endsV G q := by
  unfold endsV
  rw [List.filter_append, List.map_append]
  by_cases h : g.1.b = q <;> simp [h]
def wtgI (st : Sto) (G : List (Sp × Int)) (m : Nat) (a : D) (p t B : Int) (zs : List (Sp × Int)) (ρ : Env) (s : Sto) : Prop :=
  ∃ (done : List (Sp × Int)) (r5 r6 r7 : Option D), done ++ zs = G ∧ s = st ++ [.lst (rowO m fun q => minI (endsV done q)), .lst (G.map gnD)] ∧ ρ = [some a, some (.int p), some (.int t), some (.int B), some (.ref st.length), r5, r6, r7]
theorem waiting_ok (H : HWt T) {ms : List Mt} (hl : ms.length ≤ 100000) (hm : m ≤ 1000) (hok : ∀ x ∈ ms, x.ok m) (hp : 0 ≤ p ∧ p.toNat < m) : callF T n (k + 4) "waiting" [netD m ms, .int p, .int t, .int B] st = some (.tup (rowO m (wtF (stepsF 0 ms) p t B)), st) := by
  have hS := stepsF_in (k := 0) hok
  have e1 := fun s : Sto => wgone_ok (n := n) (k := k) (m := m) (st := s) (p := p) (t := t) (B := B) H hl (S := stepsF 0 ms) rfl
  obtain ⟨G, eG⟩ : ∃ G, G = goneF (stepsF 0 ms) p t B := ⟨_, rfl⟩
  rw [← eG] at e1
  have hGm : ∀ g ∈ G, SpIn m g.1 := fun g hg => hS _ ((goneF_mem (p := p) (t := t) (B := B) fun s hs => (hS s hs).2.2.2.2).mp (by rw [← eG]; exact List.mem_map_of_mem hg)).mem
  refine callF_eq (callF_w H.wait rfl ?_)
  simp only [fVwaiting, cVwaiting]
  rw [wB_cons]
  have i0 : ∀ s : Sto, idxApp s (.val (netD m ms)) (.val (.int 0)) = some (.val (.int m)) := fun _ => rfl
  simp [i0, binApp_mul, mul_nons hm]
  rw [wB_cons]
  simp only [wS_for]
  have hg : ∀ X : O, (st ++ [X, O.lst (G.map gnD)])[st.length + 1]? = some (.lst (G.map gnD)) := fun X => by
    rw [List.getElem?_append_right (by omega), show st.length + 1 - st.length = 1 by omega]; rfl
  have h0 : ∀ (X Y : O), (st ++ [X, Y])[st.length]? = some X := fun X Y => by simp
  simp [e1, src_ref (hg _)]
  rw [rowO_none]
  refine for_map gnD (wtgI st G m (netD m ms) p t B) ?_ ?_ _ _ _ ⟨[], _, _, _, rfl, rfl, rfl⟩
  · rintro ρ s ⟨done, r5, r6, r7, e, rfl, rfl⟩
    simp only [List.append_nil] at e
    subst e
    refine ⟨chk_one (hg _), ?_⟩
    have hset : putApp (st ++ [O.lst (rowO m fun q => minI (endsV done q)), O.lst (done.map gnD)]) (.val (.ref st.length)) (.val (.int p)) (.int t) = some (st ++ [O.lst (rowO m (wtF (stepsF 0 ms) p t B)), O.lst (done.map gnD)]) := by
      rw [put_ref' (h0 _ _) hp.1 (by rw [rowO_len]; exact hp.2), rowO_set hp.1 hp.2]
      simp only [List.set_append_right _ _ (Nat.le_refl _), Nat.sub_self, List.set_cons_zero]
      congr 4
      refine rowO_congr fun q _ _ => ?_
      simp only [wtF, ← eG]
    rw [wB_cons]
    simp [hset]
    rw [wB_cons]
    simp [tup_ref (h0 _ _)]
    rw [gc_app (by simp [rowO_low])]
    exact ⟨rfl, rfl⟩
  · rintro z zs ρ s ⟨done, r5, r6, r7, e, rfl, rfl⟩
    obtain ⟨q1, q2, q3, q4, q5⟩ := hGm z (by rw [← e]; simp)
    refine ⟨chk_one (hg _), _, rfl, ?_⟩
    show wB _ _ _ _ _ _
    have i2 : ∀ s0 : Sto, idxApp s0 (.val (spD z.1)) (.val (.int 2)) = some (.val (.int z.1.b)) := fun _ => rfl
    have i4 : ∀ s0 : Sto, idxApp s0 (.val (spD z.1)) (.val (.int 4)) = some (.val (.int z.1.u)) := fun _ => rfl
    have ib : idxApp (st ++ [O.lst (rowO m fun q => minI (endsV done q)), O.lst (G.map gnD)]) (.val (.ref st.length)) (.val (.int z.1.b)) = some (.val (oiD (minI (endsV done z.1.b)))) := idx_ref' (h0 _ _) q3 (rowO_get q3 q4)
    have hset : putApp (st ++ [O.lst (rowO m fun q => minI (endsV done q)), O.lst (G.map gnD)]) (.val (.ref st.length)) (.val (.int z.1.b)) (.int z.1.u) = some (st ++ [O.lst (rowO m fun q => if q = z.1.b then some z.1.u else minI (endsV done q)), O.lst (G.map gnD)]) := by
      rw [put_ref' (h0 _ _) q3 (by rw [rowO_len]; exact q4), rowO_set q3 q4]
      simp only [List.set_append_right _ _ (Nat.le_refl _), Nat.sub_self, List.set_cons_zero]
    rw [wB_cons]
    simp [i2]
    rw [wB_cons]
    have same : ∀ q, q ≠ z.1.b → minI (endsV (done ++ [z]) q) = minI (endsV done q) := fun q hq => by rw [endsV_snoc, if_neg (Ne.symm hq)]
    have at_ : minI (endsV (done ++ [z]) z.1.b) = some (match minI (endsV done z.1.b) with
        | none => z.1.u
        | some v => if z.1.u < v then z.1.u else v) := by
      rw [endsV_snoc, if_pos rfl, minI_snoc]
      all_goals rfl
    cases em : minI (endsV done z.1.b) with
    | none =>
      rw [em] at ib at_
      simp [ib, oiD, isNon, wB_cons, i4, hset]
      refine ⟨done ++ [z], _, _, _, by simp [e], ?_, rfl⟩
      congr 3
      refine rowO_congr fun q _ _ => ?_
      by_cases hq : q = z.1.b
      · rw [if_pos hq, hq, at_]
      · rw [if_neg hq, same q hq]
    | some v =>
      rw [em] at ib at_
      by_cases hlt : z.1.u < v
      · simp [ib, oiD, isNon, wB_cons, i4, hset, hlt]
        refine ⟨done ++ [z], _, _, _, by simp [e], ?_, rfl⟩
        congr 3
        refine rowO_congr fun q _ _ => ?_
        by_cases hq : q = z.1.b
        · rw [if_pos hq, hq, at_]; simp [hlt]
        · rw [if_neg hq, same q hq]
      · simp [ib, oiD, isNon, i4, hlt]
        refine ⟨done ++ [z], _, _, _, by simp [e], ?_, rfl⟩
        congr 3
        refine rowO_congr fun q _ _ => ?_
        by_cases hq : q = z.1.b
        · rw [hq, at_, em]; simp [hlt]
        · rw [same q hq]
end
end Mw

set_option Elab.async false
set_option linter.all false
set_option autoImplicit false
set_option maxRecDepth 100000
/-! PyM8: all steps that go, by a list of what is to do; the row of waits; nets moved on (k44). -/
namespace Mw
open PySem
def cV_law_gone : CSs := (.cons (.asg (.nm 4) .dit0) (.cons (.asg (.nm 5) (.lst (.cons (.tup (.cons (.var 1) (.cons (.var 2) .nil))) .nil))) (.cons (.while (.cmp .ne (.var 5) (.lst .nil)) (.cons (.asg (.tp (.cons (.nm 6) (.cons (.nm 7) .nil))) (.mt .pop (.var 5) .nil)) (.cons (.for (.nm 8) (.ex (.var 0)) (.cons (.ite (.and (.cmp .eq (.idx (.var 8) (.cst (.int 1))) (.var 6)) (.and (.chain .le .le (.var 7) (.idx (.var 8) (.cst (.int 3))) (.bin .add (.var 7) (.var 3))) (.cmp .notin (.sli (.var 8) .nil (.cons (.cst (.int 2)) .nil)) (.var 4)))) (.cons (.put (.var 4) (.sli (.var 8) .nil (.cons (.cst (.int 2)) .nil)) (.var 8)) (.cons (.expr (.mt .append (.var 5) (.cons (.tup (.cons (.idx (.var 8) (.cst (.int 2))) (.cons (.idx (.var 8) (.cst (.int 4))) .nil))) .nil))) .nil)) .nil) .nil)) .nil))) (.cons (.ret (.vals (.var 4))) .nil))))
def fV_law_gone : Fd := ⟨4, 9, cV_law_gone⟩
def cV_law_waits : CSs := (.cons (.asg (.nm 5) (.bin .mul (.lst (.cons (.cst .non) .nil)) (.var 1))) (.cons (.for (.nm 6) (.ex (.call "_law_gone" (.cons (.var 0) (.cons (.var 2) (.cons (.var 3) (.cons (.var 4) .nil)))))) (.cons (.ite (.or (.cmp .isN (.idx (.var 5) (.idx (.var 6) (.cst (.int 2)))) (.cst .non)) (.cmp .lt (.idx (.var 6) (.cst (.int 4))) (.idx (.var 5) (.idx (.var 6) (.cst (.int 2)))))) (.cons (.put (.var 5) (.idx (.var 6) (.cst (.int 2))) (.idx (.var 6) (.cst (.int 4)))) .nil) .nil) .nil)) (.cons (.put (.var 5) (.var 2) (.var 3)) (.cons (.ret (.bi .tuple (.cons (.var 5) .nil))) .nil))))
def fV_law_waits : Fd := ⟨5, 7, cV_law_waits⟩
def cV_law_moved_on : CSs := (.cons (.asg (.nm 2) (.bin .add (.bin .pow (.cst (.int 10)) (.cst (.int 38))) (.call "_law_far" (.cons (.var 0) .nil)))) (.cons (.asg (.nm 3) (.lst (.cons (.bin .add (.cst (.str "places ")) (.bi .str (.cons (.bin .add (.idx (.var 1) (.cst (.int 0))) (.cst (.int 2))) .nil))) .nil))) (.cons (.for (.tp (.cons (.nm 4) (.cons (.nm 5) (.cons (.nm 6) (.cons (.nm 7) (.cons (.nm 8) .nil)))))) (.ex (.idx (.var 1) (.cst (.int 1)))) (.cons (.expr (.mt .append (.var 3) (.cons (.mt .join (.cst (.str " ")) (.cons (.lst (.cons (.var 4) (.cons (.bi .str (.cons (.var 5) .nil)) (.cons (.bi .str (.cons (.var 6) .nil)) (.cons (.bi .str (.cons (.bin .add (.var 7) (.var 2)) .nil)) (.cons (.bi .str (.cons (.var 8) .nil)) .nil)))))) .nil)) .nil))) .nil)) (.cons (.ret (.call "read_net" (.cons (.mt .join (.cst (.str "\n")) (.cons (.var 3) .nil)) .nil))) .nil))))
def fV_law_moved_on : Fd := ⟨2, 9, cV_law_moved_on⟩
/-! ### plain -/
def kaD (s : Sp) : D := .tup [.int s.k, .int s.a]
def kvG (G : List Sp) : List (D × D) := G.map fun s => (kaD s, spD s)
def hasK (G : List Sp) (z : Sp) : Bool := G.any fun s => decide (s.k = z.k ∧ s.a = z.a)
theorem kaD_eq {s z : Sp} : kaD s = kaD z ↔ s.k = z.k ∧ s.a = z.a := by
  simp only [kaD, D.tup.injEq, List.cons.injEq, D.int.injEq, and_true]
  omega
theorem get_kvG {z : Sp} : ∀ (G : List Sp), (dicGet (kaD z) (kvG G)).isSome = hasK G z
  | [] => rfl
  | s :: G => by
    have ih := get_kvG (z := z) G
    simp only [kvG, List.map_cons, dicGet, hasK, List.any_cons] at ih ⊢
    by_cases h : kaD s = kaD z
    · rw [if_pos h]; simp [kaD_eq.mp h]
    · rw [if_neg h, ih]
      have : decide (s.k = z.k ∧ s.a = z.a) = false := decide_eq_false fun h2 => h (kaD_eq.mpr h2)
      rw [this, Bool.false_or]
theorem put_kvG {z : Sp} {G : List Sp} (h : hasK G z = false) : dicPut (kaD z) (spD z) (kvG G) = kvG (G ++ [z]) := by
  unfold dicPut
  rw [if_neg]
  · simp [kvG]
  · intro h2
    obtain ⟨p, hp, e⟩ := List.any_eq_true.mp h2
    obtain ⟨s, hs, rfl⟩ := List.mem_map.mp hp
    have : hasK G z = true := List.any_eq_true.mpr ⟨s, hs, decide_eq_true (kaD_eq.mp (of_decide_eq_true e))⟩
    rw [h] at this; cases this
abbrev fitV (B : Int) (x : Int × Int) (s : Sp) : Prop := s.a = x.1 ∧ soonV s x.2 B
def ptsG (p t : Int) (G : List Sp) : List (Int × Int) := (p, t) :: G.map fun s => (s.b, s.u)
def ClV (S : List Sp) (B : Int) (G : List Sp) (q : Int × Int) : Prop := ∀ z ∈ S, fitV B q z → hasK G z = true
def lftV (S G : List Sp) : Nat := (S.filter fun z => !hasK G z).length
structure WlI (S : List Sp) (p t B : Int) (x : Option (Int × Int)) (G : List Sp) (R : List (Int × Int)) : Prop where
  gn : ∀ s ∈ G, Gn S p t B s
  pt : ∀ q ∈ R, q ∈ ptsG p t G
  px : ∀ q, x = some q → q ∈ ptsG p t G
  cl : ∀ q ∈ ptsG p t G, q ∈ R ∨ x = some q ∨ ClV S B G q
  le : G.length + lftV S G ≤ S.length
section
variable {S G : List Sp} {p t B : Int} {R A : List (Int × Int)} {x : Int × Int} {z : Sp}
theorem hasK_snoc {y : Sp} : hasK (G ++ [z]) y = (hasK G y || decide (z.k = y.k ∧ z.a = y.a)) := by simp [hasK]
theorem lft_lt (hz : z ∈ S) (h : hasK G z = false) : lftV S (G ++ [z]) < lftV S G := by
  unfold lftV
  have mono : ∀ S : List Sp, (S.filter fun y => !hasK (G ++ [z]) y).length ≤ (S.filter fun y => !hasK G y).length := fun S => by
    rw [← List.countP_eq_length_filter, ← List.countP_eq_length_filter]
    refine List.countP_mono_left fun y _ hy => ?_
    rw [hasK_snoc] at hy
    simp at hy ⊢; exact hy.1
  induction S with
  | nil => cases hz
  | cons y S ih =>
    rcases List.mem_cons.mp hz with rfl | hz
    · have := mono S
      have h2 : hasK (G ++ [z]) z = true := by rw [hasK_snoc]; simp
      rw [List.filter_cons, List.filter_cons]
      simp only [h, h2, Bool.not_true, Bool.not_false, Bool.false_eq_true, if_false, if_true, List.length_cons]
      omega
    · have := ih hz
      have hm := hasK_snoc (G := G) (z := z) (y := y)
      rw [List.filter_cons, List.filter_cons]
      cases h1 : hasK G y with
      | true => rw [h1] at hm; simp only [hm, Bool.true_or, Bool.not_true, Bool.false_eq_true, if_false]; exact this
      | false =>
        simp only [Bool.not_false, if_true]
        split <;> simp <;> omega
theorem WlI.start : WlI S p t B none [] [(p, t)] :=
  ⟨by simp, by simp [ptsG], by simp, by simp [ptsG], by simpa [lftV] using List.length_filter_le _ _⟩
theorem WlI.pop (h : WlI S p t B none G (A ++ [x])) : WlI S p t B (some x) G A :=
  ⟨h.gn, fun q hq => h.pt q (List.mem_append_left _ hq), fun q hq => by cases hq; exact h.pt x (by simp), fun q hq => by
    rcases h.cl q hq with h1 | h1 | h1
    · rcases List.mem_append.mp h1 with h1 | h1
      · exact .inl h1
      · rw [List.mem_singleton.mp h1]; exact .inr (.inl rfl)
    · cases h1
    · exact .inr (.inr h1), h.le⟩
theorem pts_snoc {q : Int × Int} : q ∈ ptsG p t (G ++ [z]) ↔ q ∈ ptsG p t G ∨ q = (z.b, z.u) := by
  simp [ptsG, or_assoc]
theorem WlI.add (h : WlI S p t B (some x) G R) (hz : z ∈ S) (hf : fitV B x z) (hk : hasK G z = false) : WlI S p t B (some x) (G ++ [z]) (R ++ [(z.b, z.u)]) := by
  refine ⟨fun s hs => ?_, fun q hq => ?_, fun q hq => pts_snoc.mpr (.inl (h.px q hq)), fun q hq => ?_, ?_⟩
  · rcases List.mem_append.mp hs with hs | hs
    · exact h.gn s hs
    · rw [List.mem_singleton.mp hs]
      have := h.px x rfl
      simp only [ptsG, List.mem_cons, List.mem_map] at this
      rcases this with rfl | ⟨r, hr, rfl⟩
      · exact .first hz hf.1 hf.2
      · exact .next (h.gn r hr) hz hf.1 hf.2
  · rcases List.mem_append.mp hq with hq | hq
    · exact pts_snoc.mpr (.inl (h.pt q hq))
    · exact pts_snoc.mpr (.inr (List.mem_singleton.mp hq))
  · rcases pts_snoc.mp hq with hq | rfl
    · rcases h.cl q hq with h1 | h1 | h1
      · exact .inl (List.mem_append_left _ h1)
      · exact .inr (.inl h1)
      · exact .inr (.inr fun y hy hy2 => by rw [hasK_snoc, h1 y hy hy2]; rfl)
    · exact .inl (by simp)
  · have := lft_lt hz hk
    have := h.le
    simp; omega
theorem WlI.fin (h : WlI S p t B (some x) G R) (hc : ClV S B G x) : WlI S p t B none G R :=
  ⟨h.gn, h.pt, by simp, fun q hq => by
    rcases h.cl q hq with h1 | h1 | h1
    · exact .inl h1
    · cases h1; exact .inr (.inr hc)
    · exact .inr (.inr h1), h.le⟩
theorem WlI.done (hU : ∀ s ∈ S, ∀ r ∈ S, s.k = r.k → s.a = r.a → s = r) (h : WlI S p t B none G []) (s : Sp) : s ∈ G ↔ Gn S p t B s := by
  refine ⟨h.gn s, fun hs => ?_⟩
  have key : ∀ r, r ∈ S → hasK G r = true → r ∈ G := fun r hr h1 => by
    obtain ⟨y, hy, e⟩ := List.any_eq_true.mp h1
    have e := of_decide_eq_true e
    rw [← hU y (h.gn y hy).mem r hr e.1 e.2]; exact hy
  induction hs with
  | first h1 h2 h3 =>
    refine key _ h1 ?_
    rcases h.cl (p, t) (by simp [ptsG]) with h4 | h4 | h4
    · cases h4
    · cases h4
    · exact h4 _ h1 ⟨h2, h3⟩
  | @next r s hr h1 h2 h3 ih =>
    refine key _ h1 ?_
    rcases h.cl (r.b, r.u) (List.mem_cons_of_mem _ (List.mem_map.mpr ⟨r, ih, rfl⟩)) with h4 | h4 | h4
    · cases h4
    · cases h4
    · exact h4 _ h1 ⟨h2, h3⟩
end
theorem minI_cong {l l' : List Int} (h : ∀ v, v ∈ l ↔ v ∈ l') : minI l = minI l' := by
  have key : ∀ v, minI l = some v ↔ minI l' = some v := fun v => by
    rw [minI_some, minI_some, h]
    exact and_congr_right fun _ => ⟨fun z w hw => z w ((h w).mpr hw), fun z w hw => z w ((h w).mp hw)⟩
  cases e : minI l with
  | some v => exact ((key v).mp e).symm
  | none =>
    cases e' : minI l' with
    | none => rfl
    | some v => rw [(key v).mpr e'] at e; cases e
def endsG (G : List Sp) (q : Int) : List Int := (G.filter fun g => decide (g.b = q)).map (·.u)
theorem endsG_snoc {G : List Sp} {g : Sp} {q : Int} : endsG (G ++ [g]) q = if g.b = q then endsG G q ++ [g.u] else endsG G q := by
  unfold endsG
  rw [List.filter_append, List.map_append]
  by_cases h : g.b = q <;> simp [h]
theorem endsG_min {S G : List Sp} {p t B q : Int} (hS : ∀ s ∈ S, s.t < s.u) (hG : ∀ s, s ∈ G ↔ Gn S p t B s) : minI (endsG G q) = minI (endsV (goneF S p t B) q) := by
  refine minI_cong fun v => ?_
  rw [endsV_mem hS]
  unfold endsG
  simp only [List.mem_map, List.mem_filter, decide_eq_true_eq]
  exact ⟨fun ⟨s, ⟨h1, h2⟩, h3⟩ => ⟨s, (hG s).mp h1, h2, h3⟩, fun ⟨s, h1, h2, h3⟩ => ⟨s, ⟨(hG s).mpr h1, h2⟩, h3⟩⟩
theorem steps_getV : ∀ {ms : List Mt} {i : Nat} {s : Sp}, s ∈ stepsF i ms → ∃ j mt, ms[j]? = some mt ∧ s.k = i + j ∧ s.t = mt.t ∧ s.u = mt.t + mt.l ∧ ((s.a = mt.a ∧ s.b = mt.b) ∨ (mt.bo = true ∧ s.a = mt.b ∧ s.b = mt.a))
  | [], i, s, h => by cases h
  | y :: ms, i, s, h => by
    simp only [stepsF, List.mem_cons, List.mem_append] at h
    rcases h with rfl | h | h
    · exact ⟨0, y, rfl, rfl, rfl, rfl, .inl ⟨rfl, rfl⟩⟩
    · split at h
      · rename_i hb
        rw [List.mem_singleton.mp h]
        exact ⟨0, y, rfl, rfl, rfl, rfl, .inr ⟨hb, rfl, rfl⟩⟩
      · cases h
    · obtain ⟨j, mt, h1, h2, h3⟩ := steps_getV h
      exact ⟨j + 1, mt, by simpa using h1, by omega, h3⟩
theorem steps_un {ms : List Mt} (hm : ∀ x ∈ ms, x.a ≠ x.b) : ∀ s ∈ stepsF 0 ms, ∀ r ∈ stepsF 0 ms, s.k = r.k → s.a = r.a → s = r := by
  intro s hs r hr h1 h2
  obtain ⟨i, x, a1, a2, a3, a4, a5⟩ := steps_getV hs
  obtain ⟨j, y, b1, b2, b3, b4, b5⟩ := steps_getV hr
  have e : i = j := by omega
  subst e
  rw [a1] at b1
  cases b1
  have hx := hm x (List.mem_of_getElem? a1)
  cases s; cases r
  simp only [Sp.mk.injEq] at *
  subst h1 h2
  refine ⟨rfl, rfl, ?_, by omega, by omega⟩
  rcases a5 with ⟨c1, c2⟩ | ⟨_, c1, c2⟩ <;> rcases b5 with ⟨d1, d2⟩ | ⟨_, d1, d2⟩
  · omega
  · exact absurd (c1.symm.trans d1) hx
  · exact absurd (d1.symm.trans c1) hx
  · omega
/-! ### by the program -/
section
variable {T : Tab} {n k m : Nat} {st : Sto} {S : List Sp} {p t B : Int}
def ptD (x : Int × Int) : D := .tup [.int x.1, .int x.2]
theorem pop_lastV {xs : List D} {q : Nat} {y : D} (h : st[q]? = some (.lst (xs ++ [y]))) : mtApp st .pop (.val (.ref q)) [] = some (.val y, st.set q (.lst xs)) := by
  simp only [mtApp, mtPop, h]
  simp
def wlW (st : Sto) (S : List Sp) (p t B : Int) (a : D) (j : Nat) (ρ : Env) (s : Sto) : Prop :=
  ∃ (G : List Sp) (R : List (Int × Int)) (r6 r7 r8 : Option D), WlI S p t B none G R ∧ j = 2 * lftV S G + R.length ∧ j ≤ 2 * S.length + 1 ∧ s = st ++ [.dit false (kvG G), .lst (R.map ptD)] ∧
    ρ = [some a, some (.int p), some (.int t), some (.int B), some (.ref st.length), some (.ref (st.length + 1)), r6, r7, r8]
def wlJ (st : Sto) (S : List Sp) (p t B : Int) (a : D) (j : Nat) (x : Int × Int) (zs : List Sp) (ρ : Env) (s : Sto) : Prop :=
  ∃ (done G : List Sp) (R : List (Int × Int)) (r8 : Option D), done ++ zs = S ∧ WlI S p t B (some x) G R ∧ (∀ z ∈ done, fitV B x z → hasK G z = true) ∧ 2 * lftV S G + R.length < j ∧ s = st ++ [.dit false (kvG G), .lst (R.map ptD)] ∧
    ρ = [some a, some (.int p), some (.int t), some (.int B), some (.ref st.length), some (.ref (st.length + 1)), some (.int x.1), some (.int x.2), r8]
theorem wl_ok (hT : Has T "_law_gone" fV_law_gone) (hl : S.length ≤ 1000) (hn : 5000 < n) (hU : ∀ s ∈ S, ∀ r ∈ S, s.k = r.k → s.a = r.a → s = r) {js : Nat} (hj : st[js]? = some (.lst (S.map spD))) :
    ∃ G : List Sp, (∀ s, s ∈ G ↔ Gn S p t B s) ∧ callF T n (k + 1) "_law_gone" [.ref js, .int p, .int t, .int B] st = some (.ref st.length, st ++ [.lst (G.map spD)]) := by
  have key : ok2 (callF T n (k + 1) "_law_gone" [.ref js, .int p, .int t, .int B] st) fun d s => ∃ G : List Sp, (∀ s, s ∈ G ↔ Gn S p t B s) ∧ d = .ref st.length ∧ s = st ++ [.lst (G.map spD)] := by
    refine callF_w hT rfl ?_
    simp only [fV_law_gone, cV_law_gone]
    rw [wB_cons]
    simp
    rw [wB_cons]
    simp
    rw [wB_cons]
    simp
    have h0 : lftV S [] ≤ S.length := List.length_filter_le _ _
    refine while_w (wlW st S p t B (.ref js)) ?_ n (2 * lftV S [] + 1) _ _ (by omega) ⟨[], [(p, t)], none, none, none, .start, rfl, by omega, rfl, rfl⟩
    rintro j ρ s ⟨G, R, r6, r7, r8, h, ej, hj2, rfl, rfl⟩
    have gD : ∀ (A : List Sp) (B : List (Int × Int)), (st ++ [O.dit false (kvG A), .lst (B.map ptD)])[st.length]? = some (.dit false (kvG A)) := fun A B => by simp
    have gR : ∀ (A : List Sp) (B : List (Int × Int)), (st ++ [O.dit false (kvG A), .lst (B.map ptD)])[st.length + 1]? = some (.lst (B.map ptD)) := fun A B => by
      rw [List.getElem?_append_right (by omega), show st.length + 1 - st.length = 1 by omega]; rfl
    have gS : ∀ (A : List Sp) (B : List (Int × Int)), (st ++ [O.dit false (kvG A), .lst (B.map ptD)])[js]? = some (.lst (S.map spD)) := fun A B => get_old hj
    have p1 : ∀ A : List (Int × Int), plL 59 (A.map ptD) = true := fun A => by rw [plL_all]; intro x hx; obtain ⟨y, _, rfl⟩ := List.mem_map.mp hx; rfl
    have p2 : ∀ A : List (Int × Int), nbL (A.map ptD) = true := fun A => by rw [nbL_all]; intro x hx; obtain ⟨y, _, rfl⟩ := List.mem_map.mp hx; rfl
    have heq : pyEq (st ++ [O.dit false (kvG G), .lst (R.map ptD)]) (.val (.ref (st.length + 1))) (.tmp []) = some (decide (R = [])) := by
      rw [pyEq_list (xs := R.map ptD) (ys := []) (listOf_ref (gR G R)) rfl (p1 _) rfl (p2 _) rfl]; simp
    refine ⟨!decide (R = []), ?_, fun hf => ?_, fun ht => ?_⟩
    · have : wE (callF T n k) (.cmp .ne (.var 5) (.lst .nil)) [some (.ref js), some (.int p), some (.int t), some (.int B), some (.ref st.length), some (.ref (st.length + 1)), r6, r7, r8] (st ++ [O.dit false (kvG G), .lst (R.map ptD)]) fun r s => r = .val (.bl (!decide (R = []))) ∧ s = st ++ [O.dit false (kvG G), .lst (R.map ptD)] := by
        simp [heq]
      unfold evT
      rw [ev_eq this]
      rfl
    · have h0 : R = [] := by simpa using hf
      subst h0
      have hlow : O.low st.length (.lst (G.map spD)) = true := by
        simp only [O.low, lowL_all]; intro x hx; obtain ⟨y, _, rfl⟩ := List.mem_map.mp hx; rfl
      have hv : valsApp (st ++ [O.dit false (kvG G), .lst (([] : List (Int × Int)).map ptD)]) (.val (.ref st.length)) = some (.tmp (G.map spD)) := by
        have e : (kvG G).map (·.2) = G.map spD := by simp [kvG]
        simp only [valsApp, gD, e]
      have := gc_new (st := st) (s2 := st) (j := 2) (g := [.dit false (kvG G), .lst ([].map ptD), .lst (G.map spD)]) .refl rfl hlow
      simp at this hv
      simp [wB_cons, hv, this]
      exact ⟨G, fun s => h.done hU s, rfl⟩
    · have hne : R ≠ [] := by simpa using ht
      obtain ⟨A, x, rfl⟩ : ∃ A x, R = A ++ [x] := by
        rcases List.eq_nil_or_concat R with h | ⟨A, x, h⟩
        · exact absurd h hne
        · exact ⟨A, x, by rw [h, List.concat_eq_append]⟩
      have hpop : mtApp (st ++ [O.dit false (kvG G), .lst ((A ++ [x]).map ptD)]) .pop (.val (.ref (st.length + 1))) [] = some (.val (ptD x), st ++ [O.dit false (kvG G), .lst (A.map ptD)]) := by
        rw [pop_lastV (xs := A.map ptD) (y := ptD x) (by rw [gR]; simp)]
        rw [seta (i := 1)]
        simp
      have kR : ∀ (A : List Sp) (B : List (Int × Int)), kdOf (st ++ [O.dit false (kvG A), .lst (B.map ptD)]) (.val (.ref (st.length + 1))) = .lst := fun A B => kdw_ref (gR A B)
      show wB _ _ _ _ _ _
      rw [wB_cons]
      have hs := h.pop
      simp only [List.map_append, List.map_cons, List.map_nil, ptD] at hpop
      have kR0 := kR G (A ++ [x])
      simp only [List.map_append, List.map_cons, List.map_nil, ptD] at kR0
      simp [ptD, kR0, hpop]
      rw [wB_cons]
      simp only [wS_for]
      have hfold : List.map (fun x : Int × Int => D.tup [.int x.1, .int x.2]) A = A.map ptD := rfl
      simp
      rw [src_ref (gS G A)]
      simp only [okO_some]
      simp only [List.length_append, List.length_cons, List.length_nil] at ej
      refine for_map spD (wlJ st S p t B (.ref js) j x) ?_ ?_ _ _ _ ⟨[], G, A, _, rfl, hs, by simp, by omega, rfl, rfl⟩
      · rintro ρ s ⟨done, G', R', q8, e, g1, g2, g3, rfl, rfl⟩
        simp only [List.append_nil] at e
        subst e
        refine ⟨chk_one (gS _ _), ?_⟩
        exact ⟨_, g3, G', R', _, _, _, g1.fin g2, rfl, by omega, rfl, rfl⟩
      · rintro z zs ρ s ⟨done, G', R', q8, e, g1, g2, g3, rfl, rfl⟩
        refine ⟨chk_one (gS _ _), _, rfl, ?_⟩
        have hzS : z ∈ S := by rw [← e]; simp
        have gle := g1.le
        show wB _ _ _ _ _ _
        have i1 : ∀ s0 : Sto, idxApp s0 (.val (spD z)) (.val (.int 1)) = some (.val (.int z.a)) := fun _ => rfl
        have i2 : ∀ s0 : Sto, idxApp s0 (.val (spD z)) (.val (.int 2)) = some (.val (.int z.b)) := fun _ => rfl
        have i3 : ∀ s0 : Sto, idxApp s0 (.val (spD z)) (.val (.int 3)) = some (.val (.int z.t)) := fun _ => rfl
        have i4 : ∀ s0 : Sto, idxApp s0 (.val (spD z)) (.val (.int 4)) = some (.val (.int z.u)) := fun _ => rfl
        have i5 : ∀ s0 : Sto, sliApp s0 (.val (spD z)) none (some 2) = some (.val (kaD z)) := fun _ => rfl
        have hin : ∀ s0 : Sto, s0[st.length]? = some (.dit false (kvG G')) → inApp s0 (.val (kaD z)) (.val (.ref st.length)) = some (hasK G' z) := fun s0 h0 => by
          have hk : tkOk (kaD z) = true := rfl
          simp only [inApp, h0, hk, if_true, get_kvG]
        have hin1 := hin _ (gD G' R')
        rw [wB_cons]
        have skip : ¬ (fitV B x z ∧ hasK G' z = false) → ∀ w ∈ done ++ [z], fitV B x w → hasK G' w = true := fun hno w hw hfw => by
          rcases List.mem_append.mp hw with hw | hw
          · exact g2 w hw hfw
          · rw [List.mem_singleton.mp hw] at hfw ⊢
            cases hk : hasK G' z with
            | true => rfl
            | false => exact absurd ⟨hfw, hk⟩ hno
        by_cases ha : z.a = x.1
        · by_cases hb1 : x.2 ≤ z.t
          · by_cases hb2 : z.t ≤ x.2 + B
            · cases hk : hasK G' z with
              | true =>
                rw [hk] at hin1
                simp [i1, i3, i5, ha, hb1, hb2, hin1]
                exact ⟨done ++ [z], G', R', _, by simp [e], g1, skip (by simp [hk]), g3, rfl, rfl⟩
              | false =>
                rw [hk] at hin1
                have hput : putApp (st ++ [O.dit false (kvG G'), .lst (R'.map ptD)]) (.val (.ref st.length)) (.val (kaD z)) (spD z) = some (st ++ [O.dit false (kvG (G' ++ [z])), .lst (R'.map ptD)]) := by
                  have hk2 : tkOk (kaD z) = true := rfl
                  have hsz : decide ((kvG G').length < 16777216) = true := decide_eq_true (by simp [kvG]; omega)
                  simp only [putApp, gD, hk2, hsz, Bool.and_self, if_true, put_kvG hk, seta0, List.set_cons_zero]
                have hap : mtApp (st ++ [O.dit false (kvG (G' ++ [z])), .lst (R'.map ptD)]) .append (.val (.ref (st.length + 1))) [.val (ptD (z.b, z.u))] = some (.val .non, st ++ [O.dit false (kvG (G' ++ [z])), .lst ((R' ++ [(z.b, z.u)]).map ptD)]) := by
                  have := app_ref (st := st ++ [O.dit false (kvG (G' ++ [z])), .lst (R'.map ptD)]) (r := .val (ptD (z.b, z.u))) (gR _ _) (by simp; omega)
                  rw [this]
                  simp only [mat_val]
                  rw [seta (i := 1)]
                  simp
                have kR1 := kR (G' ++ [z]) R'
                simp only [ptD] at hap
                obtain ⟨s1, es1⟩ : ∃ s1, s1 = st ++ [O.dit false (kvG (G' ++ [z])), .lst (R'.map ptD)] := ⟨_, rfl⟩
                rw [← es1] at hput hap kR1
                simp [i1, i2, i3, i4, i5, ha, hb1, hb2, hin1, wB_cons, hput, kR1, hap]
                refine ⟨done ++ [z], G' ++ [z], R' ++ [(z.b, z.u)], _, by simp [e], g1.add hzS ⟨ha, hb1, hb2⟩ hk, fun w hw hfw => ?_, ?_, by simp [ptD], rfl⟩
                · rw [hasK_snoc]
                  rcases List.mem_append.mp hw with hw | hw
                  · rw [g2 w hw hfw]; rfl
                  · rw [List.mem_singleton.mp hw]; simp
                · have := lft_lt hzS hk
                  simp; omega
            · simp [i1, i3, i5, ha, hb1, hb2]
              exact ⟨done ++ [z], G', R', _, by simp [e], g1, skip (fun h => hb2 h.1.2.2), g3, rfl, rfl⟩
          · simp [i1, i3, i5, ha, hb1]
            exact ⟨done ++ [z], G', R', _, by simp [e], g1, skip (fun h => hb1 h.1.2.1), g3, rfl, rfl⟩
        · simp [i1, i3, i5, ha]
          exact ⟨done ++ [z], G', R', _, by simp [e], g1, skip (fun h => ha h.1.1), g3, rfl, rfl⟩
  obtain ⟨d, s, e, G, h, rfl, rfl⟩ := ok2_ex.mp key
  exact ⟨G, h, e⟩
def wrV (st : Sto) (G : List Sp) (m : Nat) (a : D) (p t B : Int) (zs : List Sp) (ρ : Env) (s : Sto) : Prop :=
  ∃ (done : List Sp) (r6 : Option D), done ++ zs = G ∧ s = st ++ [.lst (rowO m fun q => minI (endsG done q)), .lst (G.map spD)] ∧ ρ = [some a, some (.int m), some (.int p), some (.int t), some (.int B), some (.ref st.length), r6]
theorem lwaits_ok (hW : Has T "_law_waits" fV_law_waits) (hT : Has T "_law_gone" fV_law_gone) (hl : S.length ≤ 1000) (hn : 5000 < n) (hm : m ≤ 1000) (hp : 0 ≤ p ∧ p.toNat < m) (hS : ∀ s ∈ S, SpIn m s) (hU : ∀ s ∈ S, ∀ r ∈ S, s.k = r.k → s.a = r.a → s = r) {js : Nat} (hj : st[js]? = some (.lst (S.map spD))) :
    callF T n (k + 2) "_law_waits" [.ref js, .int m, .int p, .int t, .int B] st = some (.tup (rowO m (wtF S p t B)), st) := by
  refine callF_eq (callF_w hW rfl ?_)
  simp only [fV_law_waits, cV_law_waits]
  rw [wB_cons]
  simp [binApp_mul, mul_nons hm]
  rw [wB_cons]
  simp only [wS_for]
  rw [rowO_none]
  obtain ⟨G, hG, e1⟩ := wl_ok (n := n) (k := k) (st := st ++ [O.lst (rowO m fun _ => none)]) (p := p) (t := t) (B := B) hT hl hn hU (get_old hj)
  have hg : ∀ X : O, (st ++ [X, O.lst (G.map spD)])[st.length + 1]? = some (.lst (G.map spD)) := fun X => by
    rw [List.getElem?_append_right (by omega), show st.length + 1 - st.length = 1 by omega]; rfl
  have h0 : ∀ (X Y : O), (st ++ [X, Y])[st.length]? = some X := fun X Y => by simp
  simp at e1
  simp [e1, src_ref (hg _)]
  refine for_map spD (wrV st G m (.ref js) p t B) ?_ ?_ _ _ _ ⟨[], _, rfl, rfl, rfl⟩
  · rintro ρ s ⟨done, r6, e, rfl, rfl⟩
    simp only [List.append_nil] at e
    subst e
    refine ⟨chk_one (hg _), ?_⟩
    have hset : putApp (st ++ [O.lst (rowO m fun q => minI (endsG done q)), O.lst (done.map spD)]) (.val (.ref st.length)) (.val (.int p)) (.int t) = some (st ++ [O.lst (rowO m (wtF S p t B)), O.lst (done.map spD)]) := by
      rw [put_ref' (h0 _ _) hp.1 (by rw [rowO_len]; exact hp.2), rowO_set hp.1 hp.2]
      simp only [List.set_append_right _ _ (Nat.le_refl _), Nat.sub_self, List.set_cons_zero]
      congr 4
      refine rowO_congr fun q _ _ => ?_
      simp only [wtF, endsG_min (fun s hs => (hS s hs).2.2.2.2) hG]
    rw [wB_cons]
    simp [hset]
    rw [wB_cons]
    simp [tup_ref (h0 _ _)]
    rw [gc_app (by simp [rowO_low])]
    exact ⟨rfl, rfl⟩
  · rintro z zs ρ s ⟨done, r6, e, rfl, rfl⟩
    obtain ⟨q1, q2, q3, q4, q5⟩ := hS z ((hG z).mp (by rw [← e]; simp)).mem
    refine ⟨chk_one (hg _), _, rfl, ?_⟩
    show wB _ _ _ _ _ _
    have i2 : ∀ s0 : Sto, idxApp s0 (.val (spD z)) (.val (.int 2)) = some (.val (.int z.b)) := fun _ => rfl
    have i4 : ∀ s0 : Sto, idxApp s0 (.val (spD z)) (.val (.int 4)) = some (.val (.int z.u)) := fun _ => rfl
    have ib : idxApp (st ++ [O.lst (rowO m fun q => minI (endsG done q)), O.lst (G.map spD)]) (.val (.ref st.length)) (.val (.int z.b)) = some (.val (oiD (minI (endsG done z.b)))) := idx_ref' (h0 _ _) q3 (rowO_get q3 q4)
    have hset : putApp (st ++ [O.lst (rowO m fun q => minI (endsG done q)), O.lst (G.map spD)]) (.val (.ref st.length)) (.val (.int z.b)) (.int z.u) = some (st ++ [O.lst (rowO m fun q => if q = z.b then some z.u else minI (endsG done q)), O.lst (G.map spD)]) := by
      rw [put_ref' (h0 _ _) q3 (by rw [rowO_len]; exact q4), rowO_set q3 q4]
      simp only [List.set_append_right _ _ (Nat.le_refl _), Nat.sub_self, List.set_cons_zero]
    rw [wB_cons]
    have same : ∀ q, q ≠ z.b → minI (endsG (done ++ [z]) q) = minI (endsG done q) := fun q hq => by rw [endsG_snoc, if_neg (Ne.symm hq)]
    have at_ : minI (endsG (done ++ [z]) z.b) = some (match minI (endsG done z.b) with
        | none => z.u
        | some v => if z.u < v then z.u else v) := by
      rw [endsG_snoc, if_pos rfl, minI_snoc]
      all_goals rfl
    cases em : minI (endsG done z.b) with
    | none =>
      rw [em] at ib at_
      simp [ib, oiD, isNon, wB_cons, i2, i4, hset]
      refine ⟨done ++ [z], _, by simp [e], ?_, rfl⟩
      congr 3
      refine rowO_congr fun q _ _ => ?_
      by_cases hq : q = z.b
      · rw [if_pos hq, hq, at_]
      · rw [if_neg hq, same q hq]
    | some v =>
      rw [em] at ib at_
      by_cases hlt : z.u < v
      · simp [ib, oiD, isNon, wB_cons, i2, i4, hset, hlt]
        refine ⟨done ++ [z], _, by simp [e], ?_, rfl⟩
        congr 3
        refine rowO_congr fun q _ _ => ?_
        by_cases hq : q = z.b
        · rw [if_pos hq, hq, at_]; simp [hlt]
        · rw [if_neg hq, same q hq]
      · simp [ib, oiD, isNon, i2, i4, hlt]
        refine ⟨done ++ [z], _, by simp [e], ?_, rfl⟩
        congr 3
        refine rowO_congr fun q _ _ => ?_
        by_cases hq : q = z.b
        · rw [hq, at_, em]; simp [hlt]
        · rw [same q hq]
/-! ### nets moved on -/
variable {r N : Nat} {o : O} {ms : List Mt}
def mvI (st : Sto) (r : Nat) (o : O) (m : Nat) (d : Int) (ms : List Mt) (a : D) (zs : List Mt) (ρ : Env) (s : Sto) : Prop :=
  ∃ (done : List Mt) (r4 r5 r6 r7 r8 : Option D), done ++ zs = ms ∧ s = (st ++ [O.lst ((netP (m + 2) (done.map (shM d))).map .str)]).set r o ∧ ρ = [some (.ref r), some a, some (.int d), some (.ref st.length), r4, r5, r6, r7, r8]
theorem movedV (HR : HRd T) (W : DrawOk T n) (hF : Has T "_law_far" fS_law_far) (hT : Has T "_law_moved_on" fV_law_moved_on) (hr : r < st.length) (h : okd (N + 3) o) (hE : ∀ d : Int, 0 ≤ d → d < 10 ^ 39 → EarOk (m + 2) (ms.map (shM d))) {Q : D → Sto → Prop}
    (q : ∀ d o', 0 ≤ d → d < 10 ^ 39 → okd N o' → Q (netD ((m + 2 : Nat) : Int) (ms.map (shM d))) (st.set r o')) : ok2 (callF T n (k + 6) "_law_moved_on" [.ref r, netD m ms] (st.set r o)) Q := by
  refine callF_w hT rfl ?_
  simp only [fV_law_moved_on, cV_law_moved_on]
  have p38 : powOk 10 38 = true := by decide
  rw [wB_cons]
  simp [p38]
  refine farS W hF hr (N := N) h fun x o1 a1 b1 h1 => ?_
  obtain ⟨d, ed⟩ : ∃ d : Int, d = 10 ^ 38 + x := ⟨_, rfl⟩
  have hd0 : 0 ≤ d := by have : (0 : Int) ≤ 10 ^ 38 := by decide
                         omega
  have hd1 : d < 10 ^ 39 := by have : (10 : Int) ^ 38 + 10 ^ 13 ≤ 10 ^ 39 := by decide
                               omega
  have h := hE d hd0 hd1
  have htx : ∀ x ∈ ms, (shM d x).tx := fun x hx => h.tx _ (List.mem_map_of_mem hx)
  have hs1 : ∀ s : Sto, biApp s .str [.val (.int ((m : Int) + 2))] = some (.val (.str (numS (m + 2)))) := fun s => by
    have := str_nat (st := s) h.m300
    simpa using this
  have hrd := fun s : Sto => HR.read (n := n) (k := k) (st := s) h
  simp at ed
  simp
  rw [← ed]
  rw [wB_cons]
  simp [idx_net0, idx_net1, hs1, head_sz h.m300, head_txt, pull hr]
  rw [wB_cons]
  simp only [wS_for]
  simp [idx_net1]
  have gA : ∀ (X : O) (o : O), ((st ++ [X]).set r o)[st.length]? = some X := fun X o => by rw [get_d (by omega)]; simp
  refine for_map mtD (mvI st r o1 m d ms (netD m ms)) ?_ ?_ ms _ _ ⟨[], none, none, none, none, none, rfl, rfl, rfl⟩
  · rintro ρ s ⟨done, r4, r5, r6, r7, r8, e, rfl, rfl⟩
    simp at e
    subst e
    refine ⟨rfl, ?_⟩
    have hj := net_join (st := (st ++ [O.lst ((netP (m + 2) (done.map (shM d))).map .str)]).set r o1) h (gA _ _)
    simp only [netP, List.map_cons, List.map_map] at hj
    rw [wB_cons]
    simp [netP, hj]
    simp at hrd
    simp [hrd]
    have hlow := lowL_mt (j := st.length) (ms := done.map (shM d))
    rw [gc_da hr h1 (by simp [netD]; simpa using hlow)]
    have := q d o1 hd0 hd1 h1
    simpa using this
  · rintro z zs ρ s ⟨done, r4, r5, r6, r7, r8, e, rfl, rfl⟩
    refine ⟨rfl, _, rfl, ?_⟩
    have hz := htx z (by rw [← e]; simp)
    obtain ⟨t1, t2, t3, t4⟩ := id hz
    have s1 := fun s : Sto => str_z (st := s) t1
    have s2 := fun s : Sto => str_z (st := s) t2
    have s3 := fun s : Sto => str_z (st := s) t3
    have s4 := fun s : Sto => str_z (st := s) t4
    have hj : ∀ s : Sto, mtApp s .join (.val (.str " ")) [.tmp [wdD z.bo, .str (numS z.a.toNat), .str (numS z.b.toNat), .str (numS (z.t + d).toNat), .str (numS z.l.toNat)]] = some (.val (.str (lineS (shM d z))), s) := fun s => line_join (m := shM d z) hz
    have hlen : done.length + 1 ≤ 5000 := by
      have := h.len
      have := congrArg List.length e
      simp at *
      omega
    simp only [shM] at s1 s2 s3 s4
    show wB _ _ _ _ _ _
    have kd1 : kdOf ((st ++ [O.lst ((netP (m + 2) (done.map (shM d))).map .str)]).set r o1) (.val (.ref st.length)) = .lst := kdw_ref (gA _ _)
    have hap := app_ref (st := (st ++ [O.lst ((netP (m + 2) (done.map (shM d))).map .str)]).set r o1) (r := .val (.str (lineS (shM d z)))) (gA _ _) (by simp [netP]; omega)
    simp [wB_cons, mtD, s1, s2, s3, s4, hj, hap, kdOf, kd1]
    exact ⟨done ++ [z], _, _, _, _, _, by simp [e], by simp [netP, setd0 hr], rfl⟩
end
end Mw

set_option Elab.async false
set_option linter.all false
set_option maxRecDepth 100000
set_option maxHeartbeats 0
namespace Mw.K44
open PySem PySem.Spec PyProof.Rows L2
def claw : CSs := (.cons (.for (.nm 1) (.rng (.cons (.bi .max (.cons (.cst (.int 1)) (.cons (.bi .min (.cons (.bi .len (.cons (.var 0) .nil)) (.cons (.cst (.int 6)) .nil))) .nil))) .nil)) (.cons (.asg (.nm 2) (.call "_law_deck" (.cons (.call "_law_cell_at" (.cons (.var 0) (.cons (.var 1) .nil))) .nil))) (.cons (.asg (.nm 3) (.cmp .eq (.call "_law_draw" (.cons (.var 2) (.cons (.cst (.int 8)) .nil))) (.cst (.int 5)))) (.cons (.asg (.nm 4) (.call "_law_net" (.cons (.var 2) .nil))) (.cons (.ite (.and (.var 3) (.cmp .ne (.idx (.var 4) (.cst (.int 1))) (.tup .nil))) (.cons (.asg (.nm 4) (.call "_law_moved_on" (.cons (.var 2) (.cons (.var 4) .nil)))) .nil) .nil) (.cons (.asg (.nm 5) (.call "_law_steps" (.cons (.var 4) .nil))) (.cons (.for (.nm 6) (.rng (.cons (.cst (.int 4)) .nil)) (.cons (.asg (.nm 7) (.call "_law_draw" (.cons (.var 2) (.cons (.idx (.var 4) (.cst (.int 0))) .nil)))) (.cons (.asg (.nm 8) (.call "_law_moment" (.cons (.var 2) (.cons (.var 5) .nil)))) (.cons (.ite (.and (.var 3) (.cmp .ne (.var 5) (.lst .nil))) (.cons (.asg (.nm 8) (.idx (.idx (.var 5) (.call "_law_draw" (.cons (.var 2) (.cons (.bi .len (.cons (.var 5) .nil)) .nil)))) (.bin .add (.cst (.int 3)) (.call "_law_draw" (.cons (.var 2) (.cons (.cst (.int 2)) .nil)))))) .nil) .nil) (.cons (.asg (.nm 9) (.call "_law_bound" (.cons (.var 2) (.cons (.var 5) .nil)))) (.cons (.asg (.nm 10) (.call "_law_waits" (.cons (.var 5) (.cons (.idx (.var 4) (.cst (.int 0))) (.cons (.var 7) (.cons (.var 8) (.cons (.var 9) .nil))))))) (.cons (.for (.nm 11) (.rng (.cons (.cst (.int 2)) .nil)) (.cons (.asg (.nm 12) (.call "waiting" (.cons (.var 4) (.cons (.var 7) (.cons (.var 8) (.cons (.var 9) .nil)))))) (.cons (.ite (.or (.not (.isi (.var 12) .tuple)) (.cmp .ne (.bi .repr (.cons (.var 12) .nil)) (.bi .repr (.cons (.var 10) .nil)))) (.cons (.ret (.cst (.bl false))) .nil) .nil) .nil))) .nil))))))) .nil))))))) (.cons (.ret (.cst (.bl true))) .nil))
abbrev topS (i : Nat) : Stmt := PySem.Challenge.pw_meetways_k44_waits_told.main.body.getD i (.Pass ⟨0, 0, 0, 0⟩)
def eis_whole : Fe := ⟨"is_whole", topS 2, ["thing"], 1, Mw.cis_whole, "is_whole", none⟩
def eis_place : Fe := ⟨"is_place", topS 3, ["many", "thing"], 2, Mw.cis_place, "is_place", none⟩
def eis_meeting : Fe := ⟨"is_meeting", topS 4, ["many", "thing", "word", "one", "other", "begin", "long"], 2, Mw.cis_meeting, "is_meeting", none⟩
def eis_net : Fe := ⟨"is_net", topS 5, ["thing", "many", "meetings", "meeting"], 1, Mw.cis_net, "is_net", none⟩
def esteps_of : Fe := ⟨"steps_of", topS 6, ["net", "found", "number", "meeting", "word", "one", "other", "begin", "long"], 1, Mw.csteps_of, "steps_of", none⟩
def eis_soon : Fe := ⟨"is_soon", topS 9, ["step", "moment", "bound"], 3, Mw.cVis_soon, "is_soon", none⟩
def eahead_of : Fe := ⟨"ahead_of", topS 10, ["gone", "step", "bound", "at", "one", "ahead"], 3, Mw.cVahead_of, "ahead_of", none⟩
def esteps_gone : Fe := ⟨"steps_gone", topS 11, ["net", "place", "moment", "bound", "gone", "step", "ahead"], 4, Mw.cVsteps_gone, "steps_gone", none⟩
def ewaiting : Fe := ⟨"waiting", topS 12, ["net", "place", "moment", "bound", "found", "step", "ahead", "there"], 4, Mw.cVwaiting, "waiting", none⟩
def eis_number_word : Fe := ⟨"is_number_word", topS 18, ["word", "sign"], 1, Mw.cis_number_word, "is_number_word", none⟩
def eread_number : Fe := ⟨"read_number", topS 19, ["word"], 1, Mw.cread_number, "read_number", none⟩
def eread_meeting : Fe := ⟨"read_meeting", topS 20, ["line", "words", "word"], 1, Mw.cread_meeting, "read_meeting", none⟩
def eread_net : Fe := ⟨"read_net", topS 21, ["text", "lines", "head", "net", "line"], 1, Mw.cread_net, "read_net", none⟩
def e_law_cell_at : Fe := ⟨"_law_cell_at", topS 23, ["_law_script", "_law_k"], 2, Mw.cV_law_cell_at, "_law_cell_at", none⟩
def e_law_deck : Fe := ⟨"_law_deck", topS 24, ["_law_cell"], 1, Mw.cV_law_deck, "_law_deck", none⟩
def e_law_draw : Fe := ⟨"_law_draw", topS 25, ["_law_deck_here", "_law_most", "_law_found", "_law_number"], 2, Mw.cV_law_draw, "_law_draw", none⟩
def e_law_far : Fe := ⟨"_law_far", topS 26, ["_law_deck_here"], 1, Mw.cS_law_far, "_law_far", none⟩
def e_law_meeting : Fe := ⟨"_law_meeting", topS 27, ["_law_deck_here", "_law_many", "_law_meetings", "_law_way", "_law_word", "_law_one", "_law_begin", "_law_like", "_law_long"], 3, Mw.cV_law_meeting, "_law_meeting", none⟩
def e_law_net : Fe := ⟨"_law_net", topS 28, ["_law_deck_here", "_law_way", "_law_many", "_law_count", "_law_meetings", "_law_k"], 1, Mw.cV_law_net, "_law_net", none⟩
def e_law_steps : Fe := ⟨"_law_steps", topS 29, ["_law_net_here", "_law_found", "_law_number", "_law_meeting_here", "_law_word", "_law_one", "_law_other", "_law_begin", "_law_long"], 1, Mw.cV_law_steps, "_law_steps", none⟩
def e_law_moment : Fe := ⟨"_law_moment", topS 30, ["_law_deck_here", "_law_steps_here", "_law_way", "_law_step"], 2, Mw.cV_law_moment, "_law_moment", none⟩
def e_law_bound : Fe := ⟨"_law_bound", topS 31, ["_law_deck_here", "_law_steps_here", "_law_way", "_law_one", "_law_other"], 2, Mw.cV_law_bound, "_law_bound", none⟩
def e_law_gone : Fe := ⟨"_law_gone", topS 32, ["_law_steps_here", "_law_place", "_law_moment_here", "_law_bound_here", "_law_gone_here", "_law_todo", "_law_here", "_law_since", "_law_step"], 4, Mw.cV_law_gone, "_law_gone", none⟩
def e_law_waits : Fe := ⟨"_law_waits", topS 33, ["_law_steps_here", "_law_many", "_law_place", "_law_moment_here", "_law_bound_here", "_law_found", "_law_step"], 5, Mw.cV_law_waits, "_law_waits", none⟩
def e_law_moved_on : Fe := ⟨"_law_moved_on", topS 34, ["_law_deck_here", "_law_net_here", "_law_far_here", "_law_rows", "_law_word", "_law_one", "_law_other", "_law_begin", "_law_long"], 2, Mw.cV_law_moved_on, "_law_moved_on", none⟩
def elaw : Fe := ⟨"law", topS 35, ["_law_script", "_law_k", "_law_deck_here", "_law_far_here", "_law_net_here", "_law_steps_here", "_law_turn", "_law_place", "_law_moment_here", "_law_bound_here", "_law_due", "_law_again", "_law_found"], 1, claw, "law", none⟩
def fes : List Fe := [eis_whole, eis_place, eis_meeting, eis_net, esteps_of, eis_soon, eahead_of, esteps_gone, ewaiting, eis_number_word, eread_number, eread_meeting, eread_net, e_law_cell_at, e_law_deck, e_law_draw, e_law_far, e_law_meeting, e_law_net, e_law_steps, e_law_moment, e_law_bound, e_law_gone, e_law_waits, e_law_moved_on, elaw]
def ci : Ci := ⟨[], [], [], {}, [(("steps_gone", none), "steps_gone")]⟩
def fr : List Str := ["isinstance", "int", "bool", "tuple", "len", "str", "all", "enumerate", "sorted", "max", "min", "range", "list", "repr"]
def cs : List (Str × D) := [("WORDS", (.tup [(.str "to"), (.str "both")])), ("FIRST", (.int (-1))), ("FIGURES", (.str "0123456789"))]
def loose0 : List PySem.Str := ["WORDS", "is_whole", "is_place", "is_meeting", "is_net", "steps_of", "FIRST", "is_soon", "ahead_of", "steps_gone", "waiting", "MeetError", "NoText", "FIGURES", "is_number_word", "read_number", "read_meeting", "read_net", "_law_cell_at", "_law_deck", "_law_draw", "_law_far", "_law_meeting", "_law_net", "_law_steps", "_law_moment", "_law_bound", "_law_gone", "_law_waits", "_law_moved_on"]
def loose : List PySem.Str := loose0
theorem nd : (fes.map (·.nm)).Nodup := by decide +kernel
theorem ck : (fes.all fun e => ckF fr (fnsOf fes) cs e (msOf fes) ci) = true := by kernel_rfl
abbrev R : PySem.W.OpenRow := PySem.W.OpenLaw.row PySem.Challenge.rw_meetways_k44_waits_told
abbrev hk : PySem.W.Hook := hkOf fr fes cs ci
def ob (s : PySem.W.SharedT) : hk.α := He.obsX 5 (faOf fr fes ci) (fes.map Fe.dd) [] (ci.lm.map (·.1)) (ciIn cs ci) (HandSHeadRun.getT s)
theorem ob_eq (s : PySem.W.SharedT) : ob s = hk.obs s.abs := He.obsX_eq (HandSHeadRun.getT_eq s)
theorem run (w : World) : HandSHeadRun.RunEq R (PySem.W.view R.prog [35]) hk ob 3000 loose w := by
  intro os
  kernel_rfl
-- uses: PyM8
/-! the law, by the core alone -/
structure HL (T : Tab) (n : Nat) : Prop where
  draw : DrawOk T n
  far : Has T "_law_far" fS_law_far
  meet : Has T "_law_meeting" fV_law_meeting
  net : Has T "_law_net" fV_law_net
  moved : Has T "_law_moved_on" fV_law_moved_on
  mom : Has T "_law_moment" fV_law_moment
  bound : Has T "_law_bound" fV_law_bound
  deck : Has T "_law_deck" fV_law_deck
  cell : Has T "_law_cell_at" fV_law_cell_at
  steps : Has T "_law_steps" fV_law_steps
  gone : Has T "_law_gone" fV_law_gone
  waits : Has T "_law_waits" fV_law_waits
  rd : HRd T
  wt : HWt T
  law : Has T "law" ⟨1, 13, claw⟩
  n0 : 10000 < n
section
variable {T : Tab} {n k m : Nat} {st : Sto} {ms : List Mt} {p t B : Int}
theorem deckV' (hT : Has T "_law_deck" fV_law_deck) {x : Int} {Q : D → Sto → Prop} (q : ∀ (st' : Sto) (r : Nat) (o : O), r < st'.length → okd (2 ^ 59) o → Q (.ref r) (st'.set r o)) : ok2 (callF T n (k + 1) "_law_deck" [.int x] st) Q := by
  obtain ⟨o, e, h⟩ := deckV (n := n) (k := k) (st := st) hT (x := x)
  rw [e]
  have e2 : st ++ [o] = (st ++ [o]).set st.length o := by simp
  rw [e2]
  exact q _ _ _ (by simp) h
theorem mts_neT {s : Sto} : pyEq s (.val (.tup (ms.map mtD))) (.val (.tup [])) = some (decide (ms = [])) := by
  rw [pyEq_val (by simp only [pl]; exact plL_mt) rfl (by simp only [nb]; exact nbL_mt) rfl]
  simp
/-- a net of small rows, its moments bounded far off -/
structure NetE (m : Nat) (ms : List Mt) : Prop where
  ear : EarOk m ms
  m12 : m ≤ 12
  len : ms.length ≤ 40
theorem netE1 (h : NetV m ms) : NetE m ms :=
  ⟨⟨fun x hx => (h.ok x hx).1, h.m1, by have := h.m2; omega, by have := h.len; omega, fun x hx => by
    obtain ⟨_, b1, b2⟩ := h.ok x hx
    have e : (10 : Int) ^ 13 + 10 ^ 6 < 10 ^ 200 := by decide
    omega⟩, by have := h.m2; omega, h.len⟩
theorem netE2 (h : NetV m ms) {d : Int} (d0 : 0 ≤ d) (d1 : d < 10 ^ 39) : NetE (m + 2) (ms.map (shM d)) :=
  ⟨⟨fun x hx => by
    obtain ⟨y, hy, rfl⟩ := List.mem_map.mp hx
    obtain ⟨⟨h1, h2, h3, h4, h5, h6, h7⟩, b1, b2⟩ := h.ok y hy
    simp only [Mt.ok, shM]
    omega, by omega, by have := h.m2; omega, by have := h.len; simp; omega, fun x hx => by
    obtain ⟨y, hy, rfl⟩ := List.mem_map.mp hx
    obtain ⟨_, b1, b2⟩ := h.ok y hy
    have e : (10 : Int) ^ 13 + 10 ^ 6 + 10 ^ 39 < 10 ^ 200 := by decide
    simp only [shM]
    omega⟩, by have := h.m2; omega, by have := h.len; simpa using this⟩
theorem row_shE (hN : NetE m ms) (ht : 0 ≤ t ∧ t < 10 ^ 200) : shOk (.tup (rowO m (wtF (stepsF 0 ms) p t B))) = true ∧ pl 60 (.tup (rowO m (wtF (stepsF 0 ms) p t B))) = true ∧ wt (.tup (rowO m (wtF (stepsF 0 ms) p t B))) ≤ 16777216 := by
  have e : rowO m (wtF (stepsF 0 ms) p t B) = ((List.range m).map fun (q : Nat) => wtF (stepsF 0 ms) p t B (q : Int)).map oiD := by simp [rowO]
  rw [e]
  have hS := stepsF_in (k := 0) hN.ear.ok
  have hm2 := hN.m12
  have hlt : ∀ s ∈ stepsF 0 ms, s.t < s.u := fun s hs => (hS s hs).2.2.2.2
  have hb := steps_bd (B := 10 ^ 200) (j := 0) (ms := ms) fun x hx => by
    obtain ⟨_, _, _, _, _, h6, h7⟩ := hN.ear.ok x hx
    exact ⟨h6, h7, hN.ear.bd x hx⟩
  refine oi_sh (by simp; omega) fun v hv => ?_
  obtain ⟨q, _, hq⟩ := List.mem_map.mp hv
  unfold wtF at hq
  split at hq
  · simp only [Option.some.injEq] at hq; omega
  · obtain ⟨s, hs, _, rfl⟩ := (endsV_mem hlt).mp (minI_some.mp hq).1
    exact hb s hs.mem
end
def lawI (sc : D) (_ : Nat) (ρ : Env) (_ : Sto) : Prop := ∃ r1 r2 r3 r4 r5 r6 r7 r8 r9 r10 r11 r12 : Option D, ρ = [some sc, r1, r2, r3, r4, r5, r6, r7, r8, r9, r10, r11, r12]
def netP (st : Sto) (r N : Nat) (sc c1 fb : D) (R : Env) (f : Fl) (ρ : Env) (s : Sto) : Prop := ∃ (m : Nat) (ms : List Mt) (o : O), f = .nx ∧ NetE m ms ∧ okd N o ∧ s = st.set r o ∧ ρ = some sc :: some c1 :: some (.ref r) :: some fb :: some (netD m ms) :: R
def turI (st : Sto) (r : Nat) (E : Env) (i : Nat) (ρ : Env) (s : Sto) : Prop := ∃ (o : O) (r6 r7 r8 r9 r10 r11 r12 : Option D), okd (2 ^ 50 + 100 * (4 - i)) o ∧ s = st.set r o ∧ ρ = E ++ [r6, r7, r8, r9, r10, r11, r12]
def momP (st : Sto) (r N : Nat) (E R : Env) (f : Fl) (ρ : Env) (s : Sto) : Prop := ∃ (t : Int) (o : O), f = .nx ∧ 0 ≤ t ∧ t < 10 ^ 200 ∧ okd N o ∧ s = st.set r o ∧ ρ = E ++ some (.int t) :: R
def agI (s0 : Sto) (E : Env) (_ : Nat) (ρ : Env) (s : Sto) : Prop := s = s0 ∧ ∃ r11 r12 : Option D, ρ = E ++ [r11, r12]
theorem key {T : Tab} {n : Nat} (H : HL T n) {ns : List Int} (hl : ns.length ≤ 63) : ok2 (callF T n 10 "law" [.rol (ns.map .int)] []) fun d _ => d = .bl true := by
  refine callF_f H.law rfl ?_
  unfold claw
  rw [wB_cons]
  simp only [wS_for]
  obtain ⟨j, ej, hj⟩ := turns (a := 1) (b := 6) (c := (ns.length : Int)) (by decide) (by decide) (by omega) (by omega)
  simp
  have ej' : (if 1 < (if 6 < (ns.length : Int) then 6 else (ns.length : Int)) then (if 6 < (ns.length : Int) then 6 else (ns.length : Int)) else 1) = (j : Int) := by
    rw [← ej]; repeat (first | omega | split)
  rw [ej']
  simp [rngN (show j < 2 ^ 62 by omega)]
  refine for_rng (lawI (.rol (ns.map .int))) ?_ ?_ _ _ ⟨none, none, none, none, none, none, none, none, none, none, none, none, rfl⟩
  · rintro ρ s ⟨r1, r2, r3, r4, r5, r6, r7, r8, r9, r10, r11, r12, rfl⟩
    simp [wB_cons, gc_fst_bl]
  · rintro i ρ s hi ⟨r1, r2, r3, r4, r5, r6, r7, r8, r9, r10, r11, r12, rfl⟩
    refine ⟨_, rfl, ?_⟩
    obtain ⟨v, hv⟩ := cellV (T := T) (n := n) (k := 8) H.cell (xs := ns) (i := i)
    show wB _ _ _ _ _ _
    rw [wB_cons]
    simp [hv]
    refine deckV' H.deck fun st r o hr ho => ?_
    rw [wB_cons]
    simp
    refine dr_w H.draw hr (N := 2 ^ 58) (ho.mono (by decide)) (by decide) (by decide) fun x1 o1 a1 b1 h1 => ?_
    obtain ⟨fb, efb⟩ : ∃ fb : Bool, fb = decide (x1 = 5) := ⟨_, rfl⟩
    simp [← efb]
    rw [wB_cons]
    simp
    refine netV (k := 5) H.draw H.far H.meet H.net hr (N := 2 ^ 57) (h1.mono (by decide)) fun m0 ms0 o2 hN0 h2 => ?_
    rw [wB_cons]
    have i1 : ∀ s : Sto, idxApp s (.val (netD m0 ms0)) (.val (.int 1)) = some (.val (.tup (ms0.map mtD))) := fun _ => rfl
    refine st_cut (netP st r (2 ^ 56) (.rol (ns.map .int)) (.int i) (.bl fb) [r5, r6, r7, r8, r9, r10, r11, r12]) ?_ ?_
    · cases fb with
      | false => simp; exact ⟨m0, ms0, o2, rfl, netE1 hN0, h2.mono (by decide), rfl, rfl⟩
      | true =>
        by_cases h0 : ms0 = []
        · simp [i1, mts_neT, h0]
          exact ⟨m0, ms0, o2, rfl, netE1 hN0, h2.mono (by decide), rfl, by rw [h0]⟩
        · simp [i1, mts_neT, h0, wB_cons]
          refine movedV (k := 3) H.rd H.draw H.far H.moved hr (N := 2 ^ 56) (h2.mono (by decide)) (fun d d0 d1 => (netE2 hN0 d0 d1).ear) fun d o3 d0 d1 h3 => ?_
          simp
          exact ⟨m0 + 2, ms0.map (shM d), o3, rfl, (netE2 hN0 d0 d1), h3, rfl, rfl⟩
    rintro f ρ s ⟨m, ms, o2, rfl, hN, h2, rfl, rfl⟩
    simp only []
    have hm2 := hN.m12
    have hm1 := hN.ear.m1
    have hll := hN.len
    have hok := hN.ear.ok
    have hS := stepsF_in (k := 0) hok
    have hlt : ∀ s ∈ stepsF 0 ms, s.t < s.u := fun s hs => (hS s hs).2.2.2.2
    have hU := steps_un (ms := ms) fun x hx => (hok x hx).2.2.2.2.1
    have hsl := steps_len 0 ms
    have hbd := steps_bd (B := 10 ^ 200) (j := 0) (ms := ms) fun x hx => by
      obtain ⟨_, _, _, _, _, h6, h7⟩ := hok x hx
      exact ⟨h6, h7, hN.ear.bd x hx⟩
    have hst : ∀ s ∈ stepsF 0 ms, 0 ≤ s.t := fun s hs => by
      obtain ⟨_, mt, c1, _, c3, _⟩ := steps_getV hs
      have := (hok mt (List.mem_of_getElem? c1)).2.2.2.2.2.1
      omega
    have e1 := fun s : Sto => lstepsV (n := n) (k := 8) (st := s) H.steps (m := (m : Int)) (ms := ms) (by omega)
    rw [wB_cons]
    simp [e1, pull hr]
    have hr2 : ∀ g : Sto, r < (st ++ g).length := fun g => by simp; omega
    have i0 : ∀ s : Sto, idxApp s (.val (netD m ms)) (.val (.int 0)) = some (.val (.int m)) := fun _ => rfl
    obtain ⟨SL, eSL⟩ : ∃ SL, SL = O.lst ((stepsF 0 ms).map spD) := ⟨_, rfl⟩
    rw [← eSL]
    have gS : ∀ (o : O), ((st ++ [SL]).set r o)[st.length]? = some (.lst ((stepsF 0 ms).map spD)) := fun o => by rw [get_d (by omega), eSL]; simp
    rw [wB_cons]
    simp only [wS_for]
    simp [rngN (show 4 < 2 ^ 62 by omega)]
    have e4 := rngN (j := 4) (by omega)
    refine for_rng (turI (st ++ [SL]) r [some (.rol (ns.map .int)), some (.int i), some (.ref r), some (.bl fb), some (netD m ms), some (.ref st.length)]) ?_ ?_ _ _ ⟨o2, _, _, _, _, _, _, _, h2.mono (by decide), rfl, rfl⟩
    · rintro ρ s ⟨o3, q6, q7, q8, q9, q10, q11, q12, h3, rfl, rfl⟩
      exact ⟨_, _, _, _, _, _, _, _, _, _, _, _, rfl⟩
    · rintro i2 ρ s hi2 ⟨o3, q6, q7, q8, q9, q10, q11, q12, h3, rfl, rfl⟩
      refine ⟨_, rfl, ?_⟩
      obtain ⟨N', eN⟩ : ∃ N', N' = 2 ^ 50 + 100 * (4 - (i2 + 1)) := ⟨_, rfl⟩
      have h3 : okd (N' + 100) o3 := h3.mono (by omega)
      show wB _ _ _ _ _ _
      rw [wB_cons]
      simp [i0]
      refine dr_w H.draw (hr2 _) (N := N' + 99) h3 (by omega) (by omega) fun p o4 a4 b4 h4 => ?_
      rw [wB_cons]
      simp
      refine momentV (k := 6) H.draw H.far H.mom (hr2 _) (N := N' + 93) h4 (j := st.length) (S := stepsF 0 ms) (by rw [eSL]; simp) (by omega) (by omega) fun t0 o5 a5 b5 h5 => ?_
      rw [wB_cons]
      refine st_cut (momP (st ++ [SL]) r (N' + 90) [some (.rol (ns.map .int)), some (.int i), some (.ref r), some (.bl fb), some (netD m ms), some (.ref st.length), some (.int i2), some (.int p)] [q9, q10, q11, q12]) ?_ ?_
      · have t0b : t0 < 10 ^ 200 := by
          have e : (10 : Int) ^ 13 < 10 ^ 200 := by decide
          omega
        cases hfb : fb with
        | false => simp; exact ⟨t0, o5, rfl, a5, t0b, h5.mono (by omega), rfl, rfl⟩
        | true =>
          by_cases h0 : stepsF 0 ms = []
          · simp [sps_ne (gS _), h0]
            exact ⟨t0, o5, rfl, a5, t0b, h5.mono (by omega), rfl, rfl⟩
          · have hpos := List.length_pos_iff.mpr h0
            simp [sps_ne (gS _), h0, wB_cons, len_ref (gS _)]
            refine dr_w H.draw (hr2 _) (N := N' + 92) h5 (by omega) (by omega) fun y1 o6 a6 b6 h6 => ?_
            obtain ⟨s1, hs1, es1⟩ := atI_map (f := spD) (ys := stepsF 0 ms) a6 b6
            simp [idx_ref (gS _), es1]
            refine dr_w H.draw (hr2 _) (N := N' + 91) h6 (by omega) (by omega) fun y2 o7 a7 b7 h7 => ?_
            obtain ⟨t1, et1, ht1⟩ : ∃ t1, idxApp ((st ++ [SL]).set r o7) (.val (spD s1)) (.val (.int (3 + y2))) = some (.val (.int t1)) ∧ 0 ≤ t1 ∧ t1 < 10 ^ 200 := by
              have hb := hbd s1 hs1
              have hl := hlt s1 hs1
              have hz := hst s1 hs1
              rcases (show y2 = 0 ∨ y2 = 1 by omega) with rfl | rfl
              · exact ⟨s1.t, rfl, hz, by omega⟩
              · exact ⟨s1.u, rfl, hb⟩
            simp [et1]
            exact ⟨t1, o7, rfl, ht1.1, ht1.2, h7.mono (by omega), rfl, rfl⟩
      rintro f ρ s ⟨t, o5, rfl, a5, b5, h5, rfl, rfl⟩
      simp only []
      rw [wB_cons]
      simp
      refine boundV (k := 7) H.draw H.bound (hr2 _) (N := N' + 85) (h5.mono (by omega)) (j := st.length) (S := stepsF 0 ms) (by rw [eSL]; simp) (by omega) (by omega) fun B o6 a6 b6 h6 => ?_
      have hS := hS
      have ew := lwaits_ok (n := n) (k := 7) (p := p) (t := t) (B := B) (m := m) H.waits H.gone (S := stepsF 0 ms) (by omega) (by have := H.n0; omega) (by omega) ⟨a4, by omega⟩ hS hU (gS o6)
      rw [wB_cons]
      simp [i0, ew]
      rw [wB_cons]
      simp only [wS_for]
      simp [rngN (show 2 < 2 ^ 62 by omega)]
      obtain ⟨s0, es0⟩ : ∃ s0, s0 = (st ++ [SL]).set r o6 := ⟨_, rfl⟩
      rw [← es0]
      refine for_rng (agI s0 [some (.rol (ns.map .int)), some (.int i), some (.ref r), some (.bl fb), some (netD m ms), some (.ref st.length), some (.int i2), some (.int p), some (.int t), some (.int B), some (.tup (rowO m (wtF (stepsF 0 ms) p t B)))]) ?_ ?_ _ _ ⟨rfl, _, _, rfl⟩
      · rintro ρ s ⟨rfl, r11, r12, rfl⟩
        exact ⟨o6, _, _, _, _, _, _, _, h6.mono (by omega), es0, rfl⟩
      · rintro i3 ρ s hi3 ⟨rfl, r11, r12, rfl⟩
        refine ⟨_, rfl, ?_⟩
        show wB _ _ _ _ _ _
        have ewt := waiting_ok (n := n) (k := 5) (st := s) (p := p) (t := t) (B := B) H.wt (ms := ms) (by omega) (by omega) hok ⟨a4, by omega⟩
        rw [wB_cons]
        simp [ewt]
        rw [wB_cons]
        obtain ⟨s1, s2, s3⟩ := row_shE (p := p) (t := t) (B := B) hN ⟨a5, b5⟩
        have hrep := fun s : Sto => repr_sh (st := s) s1 s2 s3
        have heq := fun s : Sto => eq_sh (st := s) s1
        simp [hrep, heq]
        exact ⟨rfl, _, _, rfl⟩
theorem lawok : LawOk fes 3000000 10 63 := by
  intro ns hl
  have H : HL (tabOf fes) 3000000 := ⟨drawV (by rfl), by rfl, by rfl, by rfl, by rfl, by rfl, by rfl, by rfl, by rfl, by rfl, by rfl, by rfl, ⟨by rfl, by rfl, by rfl, by rfl, by rfl, by rfl, by rfl, by rfl⟩, ⟨by rfl, by rfl, by rfl, by rfl, by rfl⟩, by rfl, by decide⟩
  obtain ⟨d, st', e, h⟩ := ok2_ex.mp (key H hl)
  subst h
  exact ⟨st', e⟩

end Mw.K44
open PySem PySem.W PySem.Calls PyProof.Rows
theorem PySem.Challenge.cw_meetways_k44_waits_told_holds : PySem.Challenge.rw_meetways_k44_waits_told.Holds := by
  w_on; o_law
  refine HandSHeadRun.head_any (r := OpenLaw.row PySem.Challenge.rw_meetways_k44_waits_told) (q := view (OpenLaw.row PySem.Challenge.rw_meetways_k44_waits_told).prog [35]) (H := Mw.K44.hk) (ob := Mw.K44.ob) (M := 3000) (loose := Mw.K44.loose) (d := HandSHeadRun.topDef (OpenLaw.row PySem.Challenge.rw_meetways_k44_waits_told).prog 35) (kwd := []) Mw.K44.ob_eq
    (by kernel_rfl) (fun s => by kernel_rfl) Mw.K44.run (by kernel_rfl) (by kernel_rfl) (by kernel_rfl) (by rfl) (by first | assumption | decide +kernel) (by decide +kernel) ⟨rfl, rfl, rfl, rfl, rfl, by decide +kernel⟩ ?hw ?hc
  case hw => w_witness2
  case hc =>
    refine Mw.walk_ofG (l := PySem.Challenge.rw_meetways_k44_waits_told) (n := 63) (k := 10) (x := "_law_script") rfl (by decide) (by kernel_rfl) ⟨rfl, by decide, by decide⟩ ?F (fun _ _ _ _ z => z)
    intro w mg fa h Y G hmg0
    have hn : (HandSHeadRun.topDef (OpenLaw.row PySem.Challenge.rw_meetways_k44_waits_told).prog 35).name = Str.ofString "law" := by kernel_rfl
    exact Mw.law_F (P := (PySem.Challenge.rw_meetways_k44_waits_told).prog) (e := Mw.K44.elaw) (List.mem_of_getElem? (i := 25) (by rfl)) (by rfl) (by rfl) (by rfl) Mw.K44.nd Mw.K44.ck Mw.K44.lawok w mg fa h Y G (hn ▸ hmg0)

