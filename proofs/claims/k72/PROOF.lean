import PyProof.Rows.All
import Wide.All
import OpenK.AllK
import Wide.FinOn
import HandS.ForMost
import KE.LtData
import KE.SortData
import KE.DataMinMax
import HandS.ForExc
import HandS.Lambda
import HandS.Slots
import HandS.SlotsOwn
import HandS.TupAny
import HandS.TupMul
import HandS.Conv
import HandS.IsInst
import HandS.TupLe
import HandS.Wide
import HandS.SortInts
import HandS.Deep
import HandS.CallSlots
import KE.GoesEnum
import KE.GoesZip
import KE.GoesMore
import HandS.CallLocal
import KE.KStar
import HandS.ExcOwn
import HandS.Star
import KE.KIndexOf
import HandS.Iter
import HandS.Style
import HandS.TryMany
import HandS.ExcField
import HandS.HeadWalk
import HandS.SetFor
import HandS.RaiseMore
import KE.KExcSuper
import KE.KExcInit
import HandS.EndTab
import HandS.WordsExc
import KE.RegKSuper
import HandS.Codes
import PySem.Challenge.RW_heedcells_k72_errors_of_nets
set_option Elab.async false
set_option linter.all false
set_option maxRecDepth 100000
set_option maxHeartbeats 4000000
/-! Mini: abstract values, abstract heap, syntax, evaluator -/
namespace Mi
open PySem

/-- abstract values: tuples by value, mutable things by a local index -/
inductive AV where
  | non | bl (b : Bool) | int (i : Int) | str (x : Str)
  | tup (xs : List AV)
  | fl (xs : List AV)
  | sc (xs : List AV)
  | ref (r : Nat)
  | fn (k : Nat)
  | obj (c : Nat) (xs : List AV)
  | fd (ks vs : List AV)
  deriving Inhabited

/-- abstract objects: a list with its epoch -/
inductive AO where
  | lst (ep : Nat) (xs : List AV)
  deriving Inhabited

abbrev AH := List AO
abbrev ASt := List (Option AV)

/-- results -/
inductive Rs (α : Type) where
  | ok (a : α) (m : AH)
  | ex (c : Nat) (vs : List AV) (m : AH)
  | no

def Rs.bind {α β : Type} (r : Rs α) (k : α → AH → Rs β) : Rs β :=
  match r with
  | .ok a m => k a m
  | .ex c vs m => .ex c vs m
  | .no => .no
def Rs.op {α : Type} (o : Option (α × AH)) : Rs α := match o with | some (a, m) => .ok a m | none => .no
def Rs.of {α : Type} (o : Option α) (m : AH) : Rs α := match o with | some a => .ok a m | none => .no

/-- results of statements -/
inductive RS where
  | nx (s : ASt) (m : AH)
  | rt (v : AV) (m : AH)
  | bk (s : ASt) (m : AH)
  | ct (s : ASt) (m : AH)
  | ex (c : Nat) (vs : List AV) (s : ASt) (m : AH)
  | no

structure FT where
  call : Nat → List AV → AH → Rs AV
  wf : Nat
  low : Nat → List AV → AH → Rs AV := fun _ _ _ => .no
/-- what a lambda's body may call -/
def FT.dn (F : FT) : FT := { call := F.low, wf := F.wf }

inductive Op where | add | sub | mul | fdiv | mod | pow | xor | band | bor | shl | shr
inductive Cm where | eq | ne | lt | le | gt | ge | inn | nin | isn | isnot
inductive BI where | len | tuple | list | sum | all | any | int | abs | sorted | max2 | min2 | max1 | min1 | isInt | isBool | isTuple | isStr
  deriving DecidableEq
inductive It where | e | rng1 | rng2 | rng3 | zip | enum

/-- syntax -/
inductive A where
  | nil | cons (a b : A)
  | var (i : Nat) | int (i : Int) | bl (b : Bool) | non | str (x : Str)
  | gi (x : Str) (i : Int) | gs (x y : Str)
  | fnm (k : Nat)
  | bin (o : Op) (a b : A)
  | neg (a : A)
  | cmp (o : Cm) (a b : A)
  | chn (o o' : Cm) (a b c : A)
  | and (a b : A) | or (a b : A) | one (a : A) | not (a : A)
  | ite (c a b : A)
  | tup (es : A) | lst (es : A) | stc (x y : A)
  | idx (a b : A)
  | slc (a lo hi : A)
  | call (k : Nat) (es : A)
  | fz (a : A)
  | calv (i : Nat) (es : A)
  | bi (b : BI) (es : A) | isi (b : BI) (a : A)
  | bir1 (b : BI) (a : A) | bir2 (b : BI) (a c : A)
  | lc (vs : List Nat) (tg it ifs elt : A)
  | lc2 (vs vs1 : List Nat) (tg it ifs tg1 it1 ifs1 elt : A)
  | met (hs : List (Nat × PySem.Str × Bool)) (e : A) | repr (a : A)
  | get (c i : Nat) (a : A) | meth (c k : Nat) (o es : A) | lenO (c k : Nat) (a : A) | isO (c : Nat) (a : A) | lset (a : A) | dnil | eNo
  | iter (k : It) (es : A) | itE (a : A)
  | app (o a : A) | popL (o : A) | popA (o a : A) | index (o a : A) | extend (o a : A)
  -- targets
  | gn (i : Nat) | gt (es : A)
  -- statements
  | sE (e : A) | sA (i : Nat) (e : A) | sAl (i : Nat) (e : A) | sG (t e : A) | sP (is : List Nat) (es : A)
  | sI (o i e : A) | sU (i : Nat) (o : Op) (e : A)
  | sIf (c a b : A) | sFor (t it b : A) | sWh (c b : A)
  | sR (e : A) | sRn | sPass | sBrk | sCnt
  | sRaise (c : Nat) (e : A) | sRz (c : Nat) | sNo

/-! ### helpers -/
def lim : Nat := 16777216
def okN (n : Nat) : Bool := Nat.ble n lim
def getL (m : AH) (r : Nat) : Option (Nat × List AV) := match m[r]? with | some (.lst e xs) => some (e, xs) | none => none
/-- the items of a sequence value -/
def items (m : AH) : AV → Option (List AV)
  | .tup xs => some xs
  | .fl xs => some xs
  | .sc xs => some xs
  | .ref r => (getL m r).map Prod.snd
  | _ => none
abbrev Ro := Option (AV × AH)
def newL (fr : Bool) (xs : List AV) (m : AH) : Ro := if okN xs.length then (if fr then some (.fl xs, m) else some (.ref m.length, m ++ [.lst 0 xs])) else none
def mkT (xs : List AV) (m : AH) : Ro := if okN xs.length then some (.tup xs, m) else none
/-- a list's new contents -/
def setL (r : Nat) (e : Nat) (xs : List AV) (m : AH) : AH := m.set r (.lst (e + 1) xs)

def optM {α β : Type} (f : α → Option β) : List α → Option (List β)
  | [] => some []
  | x :: xs => match f x with | some y => (match optM f xs with | some ys => some (y :: ys) | none => none) | none => none
/-- a value with the present contents of its lists -/
def frz (m : AH) : Nat → AV → Option AV
  | 0, _ => none
  | n + 1, v => match v with
    | .non => some .non
    | .bl b => some (.bl b)
    | .int i => some (.int i)
    | .str x => if PyData.strOk x then some (.str x) else none
    | .tup xs => (optM (frz m n) xs).map AV.tup
    | .fl xs => (optM (frz m n) xs).map AV.fl
    | .sc _ => none
    | .ref r => match getL m r with | some (_, xs) => (optM (frz m n) xs).map AV.fl | none => none
    | .fn _ => none
    | .obj _ _ => none
    | .fd _ _ => none
def b2i (b : Bool) : Int := if b then 1 else 0
def all2 {α : Type} (f : α → α → Bool) : List α → List α → Bool
  | [], [] => true
  | x :: xs, y :: ys => f x y && all2 f xs ys
  | [], _ :: _ => false
  | _ :: _, [] => false
def eqF : Nat → AV → AV → Bool
  | 0, _, _ => false
  | n + 1, v, w => match v, w with
    | .non, .non => true
    | .bl a, .bl b => a == b
    | .bl a, .int j => (if a then 1 else 0) == j
    | .int i, .bl b => i == (if b then 1 else 0)
    | .int i, .int j => i == j
    | .str x, .str y => x == y
    | .tup xs, .tup ys => all2 (eqF n) xs ys
    | .fl xs, .fl ys => all2 (eqF n) xs ys
    | _, _ => false
def eqV (m : AH) (v w : AV) : Option Bool := match frz m 60 v, frz m 60 w with | some a, some b => some (eqF 60 a b) | _, _ => none
def inF (m : AH) (v : AV) (ys : List AV) : Option Bool := match frz m 60 v, optM (frz m 60) ys with | some a, some bs => some (bs.any fun b => eqF 60 b a) | _, _ => none
def isFlat : AV → Bool
  | .non => true | .bl _ => true | .int _ => true | .str _ => true | _ => false
def intOf : AV → Option Int | .int i => some i | _ => none
def boolOf : AV → Option Bool | .bl b => some b | _ => none

/-! ### data -/
mutual
def toP : AV → PyData
  | .non => .none
  | .bl b => .bool b
  | .int i => .int i
  | .str x => .str x
  | .tup xs => .tuple (toPs xs)
  | .fl xs => .list (toPs xs)
  | .sc _ => .none
  | .ref _ => .none
  | .fn _ => .none
  | .obj _ _ => .none
  | .fd _ _ => .none
def toPs : List AV → List PyData
  | [] => []
  | x :: xs => toP x :: toPs xs
end
/-- repr of a plain value -/
def repr0 (v : AV) : Option PySem.Str := match v with
  | .non => some (PySem.Str.ofString "None")
  | .bl b => some (PySem.Str.ofString (if b then "True" else "False"))
  | .int i => if Nat.blt i.natAbs.log2 1920 then some (PySem.Str.ofString (toString i)) else none
  | .str x => if okN (reprText x).length then some (reprText x) else none
  | _ => none
/-- repr of a plain value, of a tuple of plain values -/
def reprV (v : AV) : Option PySem.Str := match v with
  | .tup xs => (match optM repr0 xs with | some ts => if okN (tupleText ts).length then some (tupleText ts) else none | none => none)
  | v => repr0 v
/-- the word of a caught exception -/
def metW (hs : List (Nat × PySem.Str × Bool)) (c : Nat) (vs : List AV) : Option PySem.Str := match hs.find? fun h => Nat.beq h.1 c with
  | some (_, w, false) => some w
  | some (_, w, true) => (match vs with
    | [v] => (match reprV v with | some x => if okN (w.length + x.length) then some (w ++ x) else none | none => none)
    | _ => none)
  | none => none

/-! ### the order of nested tuples -/
def ordV : Nat → AV → Bool
  | 0, _ => false
  | n + 1, v => match v with | .int _ => true | .str _ => true | .tup xs => xs.all (ordV n) | _ => false
def ltA (a b : AV) : Bool := PySem.W.dataLt (toP a) (toP b)
def insA (x : AV) : List AV → List AV
  | [] => [x]
  | y :: ys => if ltA y x then y :: insA x ys else x :: y :: ys
def sortA : List AV → List AV
  | [] => []
  | x :: xs => insA x (sortA xs)
def minA (a : AV) (xs : List AV) : AV := xs.foldl (fun a y => if ltA y a then y else a) a
def alkA (xs : List AV) : Bool := xs.all fun a => xs.all fun b => PySem.W.alike (toP a) (toP b)
def tupNE : AV → Bool | .tup (_ :: _) => true | _ => false
def flatO : AV → Bool | .int _ => true | .str _ => true | _ => false
def ordA (xs : List AV) : Bool := xs.all (ordV 8) && alkA xs
def srtA (xs : List AV) : Bool := xs.all tupNE || xs.all flatO
/-! ### operators -/
def big : Nat := 2 ^ 4000
def mulOk (i j : Int) : Bool := Nat.blt i.natAbs big && Nat.blt j.natAbs big
def divOk (j : Int) : Bool := !(j == 0) && (Nat.blt j.natAbs 1073741824 || (decide (0 < j) && Nat.blt j.natAbs big))
def powOk (i j : Int) : Bool := decide (0 ≤ j) && Nat.ble j.natAbs 1000 && Nat.blt i.natAbs (2 ^ 1000)
def opI : Op → Int → Int → Option Int
  | .add, i, j => some (i + j)
  | .sub, i, j => some (i - j)
  | .mul, i, j => if mulOk i j then some (i * j) else none
  | .fdiv, i, j => if divOk j then some (i.fdiv j) else none
  | .mod, i, j => if j == 0 then none else some (i.fmod j)
  | .pow, i, j => if powOk i j then some (i ^ j.toNat) else none
  | .xor, i, j => some (Builtin.bitXor i j)
  | .band, i, j => some (Builtin.bitAnd i j)
  | .bor, i, j => some (Builtin.bitOr i j)
  | .shl, _, _ => none
  | .shr, _, _ => none
def repN (k : Int) : Nat := k.toNat
/-- the items of a list that is not the script -/
def lstI (m : AH) : AV → Option (List AV)
  | .fl xs => some xs
  | .ref r => (getL m r).map Prod.snd
  | _ => none
def binV (fr : Bool) (o : Op) (v w : AV) (m : AH) : Ro := match v, w with
  | .int i, .int j => (opI o i j).map fun z => (AV.int z, m)
  | .tup xs, .tup ys => (match o with | .add => mkT (xs ++ ys) m | _ => none)
  | .str x, .str y => (match o with | .add => if okN (x.length + y.length) then some (.str (x ++ y), m) else none | _ => none)
  | .tup xs, .int k => (match o with | .mul => if decide (2 ≤ k) && decide (k ≤ 1000) && Nat.ble xs.length 1000 && !xs.isEmpty then some (.tup (List.replicate k.toNat xs).flatten, m) else none | _ => none)
  | v, .int k => (match o, lstI m v with | .mul, some xs => if decide (-(2 ^ 62) < k) && decide (k < 2 ^ 62) && okN (xs.length * k.toNat) then newL fr (List.replicate k.toNat xs).flatten m else none | _, _ => none)
  | v, w => (match o, lstI m v, lstI m w with | .add, some xs, some ys => newL fr (xs ++ ys) m | _, _, _ => none)
def cmI : Cm → Int → Int → Option Bool
  | .lt, i, j => some (decide (i < j))
  | .le, i, j => some (decide (i ≤ j))
  | .gt, i, j => some (decide (j < i))
  | .ge, i, j => some (decide (j ≤ i))
  | .eq, i, j => some (i == j)
  | .ne, i, j => some (!(i == j))
  | _, _, _ => none
def isNon : AV → Bool | .non => true | _ => false
def cmV (o : Cm) (v w : AV) (m : AH) : Option Bool := match o with
  | .eq => eqV m v w
  | .ne => (eqV m v w).map (!·)
  | .inn => (match items m w with | some ys => inF m v ys | none => none)
  | .nin => (match items m w with | some ys => (inF m v ys).map (!·) | none => none)
  | .isn => (match w, v with | .non, v => some (isNon v) | .bl b, .bl a => some (decide (a = b)) | _, _ => none)
  | .isnot => (match w, v with | .non, v => some (!isNon v) | .bl b, .bl a => some (!decide (a = b)) | _, _ => none)
  | o => (match v, w with | .int i, .int j => cmI o i j | _, _ => none)

/-! ### places -/
def ixA (xs : List AV) (i : Int) : Option AV := L2.atI xs i
def cutA (xs : List AV) (lo hi : Option Int) : List AV := (xs.drop (HT.sIx xs.length 0 lo)).take (HT.sIx xs.length xs.length hi - HT.sIx xs.length 0 lo)
def sliceV (fr : Bool) (v : AV) (lo hi : Option Int) (m : AH) : Ro := match v with
  | .tup xs => some (.tup (cutA xs lo hi), m)
  | v => (match lstI m v with | some xs => newL fr (cutA xs lo hi) m | none => none)

/-! ### builtins -/
def insI (x : Int) : List Int → List Int
  | [] => [x]
  | y :: ys => if x ≤ y then x :: y :: ys else y :: insI x ys
def sortI : List Int → List Int
  | [] => []
  | x :: xs => insI x (sortI xs)
def maxI : Int → List Int → Int
  | a, [] => a
  | a, x :: xs => maxI (if a < x then x else a) xs
def minI : Int → List Int → Int
  | a, [] => a
  | a, x :: xs => minI (if x < a then x else a) xs
def sumI : List Int → Int
  | [] => 0
  | x :: xs => x + sumI xs
def intsOf (m : AH) (v : AV) : Option (List Int) := match v with | .tup _ => none | v => (match items m v with | some xs => optM intOf xs | none => none)
def boolsOf (m : AH) (v : AV) : Option (List Bool) := match v with | .tup _ => none | v => (match items m v with | some xs => optM boolOf xs | none => none)
def strL : AV → Option Int | .str x => if okN x.length then some ((x.length : Nat) : Int) else none | _ => none
def bi1 (fr : Bool) (b : BI) (v : AV) (m : AH) : Ro := match b with
  | .len => (match items m v with
    | some xs => some (.int (xs.length : Nat), m)
    | none => (strL v).map fun n => (AV.int n, m))
  | .tuple => (match items m v with | some xs => some (.tup xs, m) | none => none)
  | .list => (match items m v with | some xs => newL fr xs m | none => none)
  | .int => (match v with | .int i => some (.int i, m) | .bl b => some (.int (b2i b), m) | _ => none)
  | .abs => (match v with | .int i => some (.int (if i < 0 then -i else i), m) | _ => none)
  | .sum => (intsOf m v).map fun ns => (AV.int (sumI ns), m)
  | .all => (boolsOf m v).map fun bs => (AV.bl (bs.all id), m)
  | .any => (boolsOf m v).map fun bs => (AV.bl (bs.any id), m)
  | .sorted => (match intsOf m v with | some ns => newL fr ((sortI ns).map AV.int) m | none => (match lstI m v with | some xs => if ordA xs && srtA xs then newL fr (sortA xs) m else none | none => none))
  | .max1 => (match intsOf m v with | some (a :: ns) => some (.int (maxI a ns), m) | _ => none)
  | .min1 => (match intsOf m v with | some (a :: ns) => some (.int (minI a ns), m) | some [] => none | none => (match lstI m v with | some (a :: xs) => if ordA (a :: xs) then some (minA a xs, m) else none | _ => none))
  | .isInt => (match v with | .int _ => some (.bl true, m) | .bl _ => some (.bl true, m) | .fn _ => none | .obj _ _ => none | _ => some (.bl false, m))
  | .isBool => (match v with | .bl _ => some (.bl true, m) | .fn _ => none | .obj _ _ => none | _ => some (.bl false, m))
  | .isStr => (match v with | .str _ => some (.bl true, m) | .fn _ => none | .obj _ _ => none | _ => some (.bl false, m))
  | .isTuple => (match v with | .tup _ => some (.bl true, m) | .fn _ => none | .obj _ _ => none | _ => some (.bl false, m))
  | _ => none
def bi2 (b : BI) (v w : AV) (m : AH) : Ro := match b, v, w with
  | .max2, .int i, .int j => some (.int (if j > i then j else i), m)
  | .min2, .int i, .int j => some (.int (if j < i then j else i), m)
  | _, _, _ => none
def biV (fr : Bool) (b : BI) (vs : List AV) (m : AH) : Ro := match vs with
  | [v] => bi1 fr b v m
  | [v, w] => bi2 b v w m
  | _ => none

/-! ### truth -/
def truV (m : AH) : AV → Option Bool
  | .non => some false
  | .bl b => some b
  | .int i => some (i != 0)
  | .tup xs => some (!xs.isEmpty)
  | .fl xs => some (!xs.isEmpty)
  | .sc xs => some (!xs.isEmpty)
  | .ref r => (getL m r).map fun p => !p.2.isEmpty
  | _ => none

/-! ### what is walked -/
/-- items, and the lists (with their epochs) that must stand still; a plain list may grow -/
structure AI where
  its : List AV
  live : List (Nat × Nat)
  grow : Option Nat
def liveOf (m : AH) : AV → List (Nat × Nat)
  | .ref r => (match getL m r with | some (e, _) => [(r, e)] | none => [])
  | _ => []
def growOf : AV → Option Nat | .ref r => some r | _ => none
def still (lv : List (Nat × Nat)) (m : AH) : Bool := lv.all fun p => match getL m p.1 with | some (e, _) => Nat.beq e p.2 | none => false
def rngI (lo c : Int) : Nat → List AV
  | 0 => []
  | n + 1 => .int lo :: rngI (lo + c) c n
def zipI : List AV → List AV → List AV
  | x :: xs, y :: ys => .tup [x, y] :: zipI xs ys
  | _, _ => []
def enumI : Int → List AV → List AV
  | _, [] => []
  | i, x :: xs => .tup [.int i, x] :: enumI (i + 1) xs
def small62 (i : Int) : Bool := decide (-(2 ^ 61) < i) && decide (i < 2 ^ 61)
def rngN (i j c : Int) : Nat := if c > 0 then (if i < j then ((j - i - 1).fdiv c).toNat + 1 else 0) else (if j < i then ((i - j - 1).fdiv (-c)).toNat + 1 else 0)
def iterV (k : It) (vs : List AV) (m : AH) : Option AI := match k, vs with
  | .e, [v] => (match items m v with | some xs => some ⟨xs, liveOf m v, growOf v⟩ | none => none)
  | .rng1, [.int j] => if small62 j then some ⟨rngI 0 1 j.toNat, [], none⟩ else none
  | .rng2, [.int i, .int j] => if small62 i && small62 j then some ⟨rngI i 1 (j - i).toNat, [], none⟩ else none
  | .rng3, [.int i, .int j, .int c] => if small62 i && small62 j && (c == -1) then some ⟨rngI i c (i - j).toNat, [], none⟩ else none
  | .zip, [v, w] => (match items m v, items m w with | some xs, some ys => some ⟨zipI xs ys, liveOf m v ++ liveOf m w, none⟩ | _, _ => none)
  | .enum, [v] => (match items m v with | some xs => some ⟨enumI 0 xs, liveOf m v, none⟩ | none => none)
  | _, _ => none

/-! ### targets -/
/-- the stores of a target -/
abbrev TGt := AV → ASt → Option ASt
def setS (s : ASt) (i : Nat) (v : AV) : ASt := s.set i (some v)
def wipeS (s : ASt) : List Nat → ASt
  | [] => s
  | v :: vs => (wipeS s vs).set v none

/-! ### calls: the callee runs on its own small heap -/
mutual
def refsV : AV → List Nat
  | .ref r => [r]
  | .tup xs => refsL xs
  | .fl xs => refsL xs
  | .sc xs => refsL xs
  | .obj _ xs => refsL xs
  | .fd ks vs => refsL ks ++ refsL vs
  | _ => []
def refsL : List AV → List Nat
  | [] => []
  | x :: xs => refsV x ++ refsL xs
end
mutual
def pureV : AV → Bool
  | .ref _ => false
  | .tup xs => pureL xs
  | .fl xs => pureL xs
  | .sc xs => pureL xs
  | .obj _ xs => pureL xs
  | .fd ks vs => pureL ks && pureL vs
  | _ => true
def pureL : List AV → Bool
  | [] => true
  | x :: xs => pureV x && pureL xs
end
def addU (rs : List Nat) (r : Nat) : List Nat := if rs.any (Nat.beq r) then rs else rs ++ [r]
def uniq (rs : List Nat) : List Nat := rs.foldl addU []
def posN (r : Nat) : List Nat → Option Nat
  | [] => none
  | x :: xs => if Nat.beq r x then some 0 else (posN r xs).map (· + 1)
mutual
def renV (f : Nat → Option Nat) : AV → Option AV
  | .ref r => (f r).map AV.ref
  | .tup xs => (renL f xs).map AV.tup
  | .fl xs => (renL f xs).map AV.fl
  | .sc xs => (renL f xs).map AV.sc
  | .non => some .non | .bl b => some (.bl b) | .int i => some (.int i) | .str x => some (.str x) | .fn k => some (.fn k)
  | .obj c xs => (renL f xs).map (AV.obj c)
  | .fd ks vs => match renL f ks, renL f vs with | some a, some b => some (.fd a b) | _, _ => none
def renL (f : Nat → Option Nat) : List AV → Option (List AV)
  | [] => some []
  | x :: xs => match renV f x, renL f xs with | some y, some ys => some (y :: ys) | _, _ => none
end
def pureO : AO → Bool | .lst _ xs => pureL xs
/-- the callee's heap: the objects at rs -/
def subH (m : AH) (rs : List Nat) : Option AH := optM (fun r => match m[r]? with | some o => if pureO o then some o else none | none => none) rs
/-- back: the objects at rs as the callee left them -/
def putH : AH → List Nat → AH → Option AH
  | m, [], _ => some m
  | m, r :: rs, o :: os => if pureO o then putH (m.set r o) rs os else none
  | _, _ :: _, [] => none
/-- the new objects that a value bears: js (indices of the callee's heap), laid in a row behind the caller's heap -/
def newH (m' : AH) (m : AH) (js : List Nat) : Option AH := match subH m' js with | some os => some (m ++ os) | none => none
/-- a value whose new lists (from lo on) are frozen -/
def fzV (lo : Nat) (m : AH) : Nat → AV → Option AV
  | 0, _ => none
  | n + 1, v => match v with
    | .tup xs => (optM (fzV lo m n) xs).map AV.tup
    | .fl xs => (optM (fzV lo m n) xs).map AV.fl
    | .ref r => if Nat.ble lo r then (match getL m r with | some (_, xs) => (optM (fzV lo m n) xs).map AV.fl | none => none) else none
    | v => if pureV v then some v else none
def callV (fr : Bool) (F : FT) (k : Nat) (vs : List AV) (m : AH) : Rs AV :=
  let rs := uniq (refsL vs)
  match subH m rs, renL (fun r => posN r rs) vs with
  | some m0, some ws => (match F.call k ws m0 with
    | .ok v m1 => (match putH m rs m1 with
      | some m2 => if pureV v then .ok v m2 else if fr then .of (fzV rs.length m1 60 v) m2 else
        let js := uniq ((refsV v).filter fun j => Nat.ble rs.length j)
        (match newH m1 m2 js, renV (fun j => if Nat.blt j rs.length then rs[j]? else (posN j js).map (· + m2.length)) v with
          | some m3, some v' => .ok v' m3
          | _, _ => .no)
      | none => .no)
    | .ex c ws m1 => (match putH m rs m1 with | some m2 => if pureL ws then .ex c ws m2 else .no | none => .no)
    | .no => .no)
  | _, _ => .no

/-! ### the roles of a piece of syntax -/
structure D where
  /-- a value (the Bool: new lists are frozen) -/
  e : Bool → FT → ASt → AH → Rs AV := fun _ _ _ _ => .no
  /-- a row of values -/
  a : FT → ASt → AH → Rs (List AV) := fun _ _ _ => .no
  /-- a row of tests -/
  t : FT → ASt → AH → Rs Bool := fun _ _ _ => .no
  /-- an end of a slice -/
  o : FT → ASt → AH → Rs (Option Int) := fun _ _ _ => .no
  /-- what is walked -/
  i : FT → ASt → AH → Rs AI := fun _ _ _ => .no
  /-- a target; a row of targets -/
  g : TGt := fun _ _ => none
  gs : List AV → ASt → Option ASt := fun _ _ => none
  /-- a statement; a block -/
  s : FT → ASt → AH → RS := fun _ _ _ => .no
  b : FT → ASt → AH → RS := fun _ _ _ => .no

def toRS (r : Rs AV) (s : ASt) (k : AV → AH → RS) : RS := match r with
  | .ok v m => k v m
  | .ex c vs m => .ex c vs s m
  | .no => .no
def RS.seq (r : RS) (k : ASt → AH → RS) : RS := match r with | .nx s m => k s m | r => r

/-- a comprehension's turns -/
def lcGo (g : TGt) (t : FT → ASt → AH → Rs Bool) (e : ASt → AH → Rs (List AV)) (F : FT) (s : ASt) (lv : List (Nat × Nat)) : List AV → List AV → AH → Rs (List AV)
  | [], acc, m => .ok acc m
  | x :: xs, acc, m => match g x s with
    | some s1 => (t F s1 m).bind fun c m1 => match c with
      | true => (e s1 m1).bind fun ys m2 => if still lv m2 then lcGo g t e F s lv xs (acc ++ ys) m2 else .no
      | false => if still lv m1 then lcGo g t e F s lv xs acc m1 else .no
    | none => .no

def forGo (F : FT) (g : TGt) (b : FT → ASt → AH → RS) (gr : Option Nat) : Nat → Nat → List (Nat × Nat) → List AV → ASt → AH → RS
  | 0, _, _, _, _, _ => .no
  | f + 1, i, lv, its, s, m => match its with
    | [] => .nx s m
    | x :: xs => match g x s with
      | none => .no
      | some s1 =>
        let go := fun s2 m2 => if still lv m2 then forGo F g b gr f (i + 1) lv xs s2 m2 else (match gr with
          | some r => (match getL m2 r with | some (ep, ys) => forGo F g b gr f (i + 1) [(r, ep)] (ys.drop (i + 1)) s2 m2 | none => .no)
          | none => .no)
        match b F s1 m with
        | .nx s2 m2 => go s2 m2
        | .ct s2 m2 => go s2 m2
        | .bk s2 m2 => .nx s2 m2
        | r => r

def whGo (F : FT) (c : FT → ASt → AH → Rs AV) (b : FT → ASt → AH → RS) : Nat → ASt → AH → RS
  | 0, _, _ => .no
  | f + 1, s, m => toRS (c F s m) s fun v m1 => match truV m1 v with
    | some true => (match b F s m1 with
      | .nx s2 m2 => whGo F c b f s2 m2
      | .ct s2 m2 => whGo F c b f s2 m2
      | .bk s2 m2 => .nx s2 m2
      | r => r)
    | some false => .nx s m1
    | none => .no

def optI : AV → Option (Option Int)
  | .non => some none
  | .int i => some (some i)
  | _ => none
def setIx (xs : List AV) (i : Int) (v : AV) : Option (List AV) := (L2.ixN xs.length i).map fun j => xs.set j v
def idxV (v w : AV) (m : AH) : Option AV := match w with
  | .int i => (match items m v with | some xs => ixA xs i | none => none)
  | _ => none

/-! ### the meaning -/
abbrev SE := Bool → FT → ASt → AH → Rs AV
abbrev SA := FT → ASt → AH → Rs (List AV)
abbrev SS := FT → ASt → AH → RS
def oOf (e : SE) : FT → ASt → AH → Rs (Option Int) := fun F s m => (e true F s m).bind fun v m1 => match v with | .int i => .ok (some i) m1 | _ => .no
def dE (e : SE) : D := { e := e, o := oOf e }
def dS (x : SS) : D := { s := x }
def eVar (i : Nat) : SE := fun _ _ s m => match s[i]? with | some (some v) => .ok v m | _ => .no
def eLit (v : AV) : SE := fun _ _ _ m => .ok v m
def eBin (o : Op) (a b : D) : SE := fun fr F s m => (a.e true F s m).bind fun v m1 => (b.e true F s m1).bind fun w m2 => .op (binV fr o v w m2)
def eNeg (a : D) : SE := fun fr F s m => (a.e fr F s m).bind fun v m1 => .of ((intOf v).map fun i => AV.int (-i)) m1
def eCmp (o : Cm) (a b : D) : SE := fun _ F s m => (a.e true F s m).bind fun v m1 => (b.e true F s m1).bind fun w m2 => .of ((cmV o v w m2).map AV.bl) m2
def eChn (o o' : Cm) (a b c : D) : SE := fun _ F s m => (a.e true F s m).bind fun v m1 => (b.e true F s m1).bind fun w m2 => match v, w with
  | .int i, .int j => (match cmI o i j with
    | some false => .ok (.bl false) m2
    | some true => (c.e true F s m2).bind fun u m3 => (match u with | .int k => .of ((cmI o' j k).map AV.bl) m3 | _ => .no)
    | none => .no)
  | _, _ => .no
def eAnd (a b : D) : SE := fun fr F s m => (a.e fr F s m).bind fun v m1 => match v with | .bl true => b.e fr F s m1 | .bl false => .ok (.bl false) m1 | _ => .no
def eOr (a b : D) : SE := fun fr F s m => (a.e fr F s m).bind fun v m1 => match v with | .bl false => b.e fr F s m1 | .bl true => .ok (.bl true) m1 | _ => .no
def eNot (a : D) : SE := fun fr F s m => (a.e fr F s m).bind fun v m1 => match v with | .bl c => .ok (.bl (!c)) m1 | _ => .no
def eIte (c a b : D) : SE := fun fr F s m => (c.e true F s m).bind fun v m1 => match truV m1 v with | some true => a.e fr F s m1 | some false => b.e fr F s m1 | none => .no
def eTup (es : D) : SE := fun _ F s m => (es.a F s m).bind fun vs m1 => .op (mkT vs m1)
def eLst (es : D) : SE := fun fr F s m => (es.a F s m).bind fun vs m1 => .op (newL fr vs m1)
def aSt (a b : D) : SA := fun F s m => (a.e true F s m).bind fun v m1 => match items m1 v with | some xs => (b.a F s m1).bind fun ys m2 => .ok (xs ++ ys) m2 | none => .no
def eIdx (a b : D) : SE := fun _ F s m => (a.e true F s m).bind fun v m1 => (b.e true F s m1).bind fun w m2 => .of (idxV v w m2) m2
def eSlc (a lo hi : D) : SE := fun fr F s m => (a.e true F s m).bind fun v m1 => (lo.o F s m1).bind fun l m2 => (hi.o F s m2).bind fun h m3 => .op (sliceV fr v l h m3)
def eCall (k : Nat) (es : D) : SE := fun fr F s m => (es.a F s m).bind fun vs m1 => callV fr F k vs m1
def eCalv (i : Nat) (es : D) : SE := fun fr F s m => (eVar i true F s m).bind fun f m1 => match f with | .fn k => (es.a F s m1).bind fun vs m2 => callV fr F k vs m2 | _ => .no
def eBi (b : BI) (es : D) : SE := fun fr F s m => (es.a F s m).bind fun vs m1 => .op (biV fr b vs m1)
def eIsi (b : BI) (a : D) : SE := fun fr F s m => (a.e true F s m).bind fun v m1 => .op (bi1 fr b v m1)
def rngV (fr : Bool) (b : BI) (i j : Int) (m : AH) : Ro := if small62 i && small62 j && okN (j - i).toNat then (match b with
  | .tuple => mkT (rngI i 1 (j - i).toNat) m
  | .list => newL fr (rngI i 1 (j - i).toNat) m
  | _ => none) else none
def eBir1 (b : BI) (a : D) : SE := fun fr F s m => (a.e true F s m).bind fun v m1 => match v with | .int j => .op (rngV fr b 0 j m1) | _ => .no
def eBir2 (b : BI) (a c : D) : SE := fun fr F s m => (a.e true F s m).bind fun v m1 => (c.e true F s m1).bind fun w m2 => match v, w with | .int i, .int j => .op (rngV fr b i j m2) | _, _ => .no
def noEx : Rs (List AV) → Rs (List AV) | .ok a m => if okN a.length then .ok a m else .no | _ => .no
def eLc (vs : List Nat) (tg it ifs elt : D) : SE := fun fr F s m => (it.i F s m).bind fun w m1 => if !still w.live m1 then .no else
  (noEx <| lcGo tg.g ifs.t (fun s m => (elt.e true F s m).bind fun v m => .ok [v] m) F (wipeS s vs) w.live w.its [] m1).bind fun xs m2 => .op (newL fr xs m2)
def eLc2 (vs vs1 : List Nat) (tg it ifs tg1 it1 ifs1 elt : D) : SE := fun fr F s m => (it.i F s m).bind fun w m1 => if !still w.live m1 then .no else
  (noEx <| lcGo tg.g ifs.t (fun s m => (it1.i F s m).bind fun w1 m => if !still w1.live m then .no else lcGo tg1.g ifs1.t (fun s m => (elt.e true F s m).bind fun v m => .ok [v] m) F (wipeS s vs1) w1.live w1.its [] m) F (wipeS s vs) w.live w.its [] m1).bind fun xs m2 => .op (newL fr xs m2)
def refD (o : D) (k : Nat → AH → Rs AV) (F : FT) (s : ASt) (m : AH) : Rs AV := (o.e true F s m).bind fun v m1 => match v with | .ref r => k r m1 | _ => .no
def appV (r : Nat) (w : AV) (m : AH) : Ro := match getL m r with | some (e, xs) => if okN (xs.length + 1) then some (.non, setL r e (xs ++ [w]) m) else none | none => none
def extV (r : Nat) (w : AV) (m : AH) : Ro := match getL m r, lstI m w with | some (e, xs), some ys => if okN (xs.length + ys.length) then some (.non, setL r e (xs ++ ys) m) else none | _, _ => none
def popV (r : Nat) (m : AH) : Ro := match getL m r with | some (e, xs) => (match xs[xs.length - 1]? with | some y => some (y, setL r e xs.dropLast m) | none => none) | none => none
def popAV (r : Nat) (w : AV) (m : AH) : Ro := match w, getL m r with
  | .int i, some (e, xs) => if small62 i then (match L2.ixN xs.length i with | some j => (match xs[j]? with | some y => some (y, setL r e (xs.eraseIdx j) m) | none => none) | none => none) else none
  | _, _ => none
def eApp (o a : D) : SE := fun _ F s m => refD o (fun r m1 => (a.e true F s m1).bind fun w m2 => .op (appV r w m2)) F s m
def eExt (o a : D) : SE := fun _ F s m => refD o (fun r m1 => (a.e true F s m1).bind fun w m2 => .op (extV r w m2)) F s m
def ePopL (o : D) : SE := fun _ F s m => refD o (fun r m1 => .op (popV r m1)) F s m
def ePopA (o a : D) : SE := fun _ F s m => refD o (fun r m1 => (a.e true F s m1).bind fun w m2 => .op (popAV r w m2)) F s m
def idxP (d : AV) : List AV → Nat → Option Nat
  | [], _ => none
  | y :: ys, i => if eqF 60 y d then some i else idxP d ys (i + 1)
def idxI (w : Int) : List Int → Nat → Option Nat
  | [], _ => none
  | y :: ys, i => if y == w then some i else idxI w ys (i + 1)
def indexV (v w : AV) (m : AH) : Option Nat := match v with
  | .tup xs => (match optM intOf xs, w with | some ns, .int j => idxI j ns 0 | _, _ => none)
  | v => (match lstI m v with | some xs => (match optM (frz m 60) xs, frz m 60 w with | some ps, some d => idxP d ps 0 | _, _ => none) | none => none)
def isTupV : AV → Bool | .tup _ => true | _ => false
def isLstV : AV → Bool | .ref _ => true | .fl _ => true | _ => false
def eIndex (o a : D) : SE := fun _ F s m => (o.e true F s m).bind fun v m1 => if isTupV v || isLstV v then (a.e true F s m1).bind fun w m2 => .of ((indexV v w m2).map fun i => AV.int (i : Nat)) m2 else .no
def eMet (hs : List (Nat × PySem.Str × Bool)) (a : D) : SE := fun _ F s m => match a.e true F.dn s m with
  | .ok _ m1 => .ok (.str "none") m1
  | .ex c vs m1 => .of ((metW hs c vs).map AV.str) m1
  | .no => .no
def eRepr (a : D) : SE := fun _ F s m => (a.e true F s m).bind fun v m1 => .of ((reprV v).map AV.str) m1
def eGet (c i : Nat) (a : D) : SE := fun _ F s m => (a.e true F s m).bind fun v m1 => match v with | .obj d xs => if Nat.beq c d then .of xs[i]? m1 else .no | _ => .no
def eMeth (c k : Nat) (o es : D) : SE := fun fr F s m => (o.e true F s m).bind fun v m1 => match v with | .obj d xs => if Nat.beq c d then (es.a F s m1).bind fun vs m2 => callV fr F k (.obj d xs :: vs) m2 else .no | _ => .no
def lenI (v : AV) : Option AV := match v with | .int n => if decide (0 ≤ n) && decide (n < 2 ^ 63) then some (.int n) else none | _ => none
def eLenO (c k : Nat) (a : D) : SE := fun _ F s m => (a.e true F s m).bind fun v m1 => match v with
  | .obj d xs => if Nat.beq c d then (callV true F k [.obj d xs] m1).bind fun w m2 => .of (lenI w) m2 else .no
  | v => .op (bi1 true .len v m1)
def isOV (c : Nat) (v : AV) : Option Bool := match v with | .obj d _ => (if Nat.beq c d then some true else none) | .fn _ => none | _ => some false
def eIsO (c : Nat) (a : D) : SE := fun _ F s m => (a.e true F s m).bind fun v m1 => .of ((isOV c v).map AV.bl) m1
def cntI : List Int → Nat
  | [] => 0
  | x :: xs => if xs.any fun y => x == y then cntI xs else cntI xs + 1
def lsetV (v : AV) : Option AV := match v with | .tup xs => (match optM intOf xs with | some ns => if Nat.blt ns.length 60 then some (.int (cntI ns : Nat)) else none | none => none) | _ => none
def eLset (a : D) : SE := fun _ F s m => (a.e true F s m).bind fun v m1 => .of (lsetV v) m1
def tCons (a b : D) : FT → ASt → AH → Rs Bool := fun F s m => (a.e true F s m).bind fun v m1 => match truV m1 v with | some true => b.t F s m1 | some false => .ok false m1 | none => .no
def aCons (a b : D) : SA := fun F s m => (a.e false F s m).bind fun v m1 => (b.a F s m1).bind fun vs m2 => .ok (v :: vs) m2
def iIter (k : It) (es : D) : FT → ASt → AH → Rs AI := fun F s m => (es.a F s m).bind fun vs m1 => .of (iterV k vs m1) m1
def iE (a : D) : FT → ASt → AH → Rs AI := fun F s m => (a.e true F s m).bind fun v m1 => .of (iterV .e [v] m1) m1
def gCons (a b : D) : List AV → ASt → Option ASt := fun vs s => match vs with | v :: r => (match a.g v s with | some s1 => b.gs r s1 | none => none) | [] => none
def gTup (es : D) (m : AH) : TGt := fun v s => match v with | .tup xs => es.gs xs s | _ => none
def bCons (a b : D) : SS := fun F s m => (a.s F s m).seq fun s1 m1 => b.b F s1 m1
def sE (e : D) : SS := fun F s m => toRS (e.e true F s m) s fun _ m1 => .nx s m1
def sA (i : Nat) (e : D) : SS := fun F s m => toRS (e.e false F s m) s fun v m1 => .nx (setS s i v) m1
def sG (t e : D) : SS := fun F s m => toRS (e.e false F s m) s fun v m1 => match t.g v s with | some s1 => .nx s1 m1 | none => .no
def setAll : List Nat → List AV → ASt → Option ASt
  | [], [], s => some s
  | i :: is, v :: vs, s => setAll is vs (setS s i v)
  | _, _, _ => none
def toRSl (r : Rs (List AV)) (s : ASt) (k : List AV → AH → RS) : RS := match r with
  | .ok v m => k v m
  | .ex c vs m => .ex c vs s m
  | .no => .no
def sP (is : List Nat) (es : D) : SS := fun F s m => toRSl (es.a F s m) s fun vs m1 => match setAll is vs s with | some s1 => .nx s1 m1 | none => .no
def sI (o i e : D) : SS := fun F s m => toRS (e.e false F s m) s fun v m1 => toRS (o.e true F s m1) s fun l m2 => toRS (i.e true F s m2) s fun j m3 => match l, j with
  | .ref r, .int j => (match getL m3 r with | some (ep, xs) => (match setIx xs j v with | some ys => .nx s (setL r ep ys m3) | none => .no) | none => .no)
  | _, _ => .no
def augF : Op → Option (Int → Int → Int) | .add => some (fun i j => i + j) | .xor => some Builtin.bitXor | .bor => some Builtin.bitOr | _ => none
def augV (o : Op) (x : Int) (v : AV) : Option AV := match augF o, v with | some f, .int y => some (.int (f x y)) | _, _ => none
def sU (i : Nat) (o : Op) (e : D) : SS := fun F s m => match s[i]? with
  | some (some (.int x)) => toRS (e.e true F s m) s fun v m1 => (match augV o x v with | some z => .nx (setS s i z) m1 | none => .no)
  | _ => .no
def sIf (c a b : D) : SS := fun F s m => toRS (c.e true F s m) s fun v m1 => match truV m1 v with | some true => a.b F s m1 | some false => b.b F s m1 | none => .no
def sFor (t it b : D) : SS := fun F s m => match it.i F s m with
  | .ok w m1 => if !still w.live m1 then .no else forGo F t.g b.b w.grow F.wf 0 w.live w.its s m1
  | .ex c vs m1 => .ex c vs s m1
  | .no => .no
def sWh (c b : D) : SS := fun F s m => whGo F (c.e true) b.b F.wf s m
def sR (e : D) : SS := fun F s m => toRS (e.e false F s m) s fun v m1 => .rt v m1
def sRaise (c : Nat) (e : D) : SS := fun F s m => toRS (e.e true F s m) s fun v m1 => .ex c [v] s m1
def sRz (c : Nat) : SS := fun _ s m => .ex c [] s m

noncomputable def den (x : A) : D := A.rec (motive := fun _ => D)
  { a := fun _ _ m => .ok [] m, t := fun _ _ m => .ok true m, o := fun _ _ m => .ok none m, gs := fun vs s => match vs with | [] => some s | _ => none, b := fun _ s m => .nx s m }
  (fun _ _ a b => { a := aCons a b, t := tCons a b, gs := gCons a b, b := bCons a b })
  (fun i => dE (eVar i)) (fun i => dE (eLit (.int i))) (fun b => dE (eLit (.bl b))) (dE (eLit .non)) (fun x => dE (eLit (.str x)))
  (fun _ i => dE (eLit (.int i))) (fun _ y => dE (eLit (.str y)))
  (fun k => dE (eLit (.fn k)))
  (fun o _ _ a b => dE (eBin o a b))
  (fun _ a => dE (eNeg a))
  (fun o _ _ a b => dE (eCmp o a b))
  (fun o o' _ _ _ a b c => dE (eChn o o' a b c))
  (fun _ _ a b => dE (eAnd a b)) (fun _ _ a b => dE (eOr a b)) (fun _ a => dE a.e) (fun _ a => dE (eNot a))
  (fun _ _ _ c a b => dE (eIte c a b))
  (fun _ es => dE (eTup es)) (fun _ es => dE (eLst es)) (fun _ _ x y => { a := aSt x y })
  (fun _ _ a b => dE (eIdx a b))
  (fun _ _ _ a lo hi => dE (eSlc a lo hi))
  (fun k _ es => dE (eCall k es))
  (fun _ a => dE fun _ => a.e true)
  (fun i _ es => dE (eCalv i es))
  (fun b _ es => dE (eBi b es)) (fun b _ a => dE (eIsi b a))
  (fun b _ a => dE (eBir1 b a)) (fun b _ _ a c => dE (eBir2 b a c))
  (fun vs _ _ _ _ tg it ifs elt => dE (eLc vs tg it ifs elt))
  (fun vs vs1 _ _ _ _ _ _ _ tg it ifs tg1 it1 ifs1 elt => dE (eLc2 vs vs1 tg it ifs tg1 it1 ifs1 elt))
  (fun hs _ a => dE (eMet hs a)) (fun _ a => dE (eRepr a))
  (fun c i _ a => dE (eGet c i a)) (fun c k _ _ o es => dE (eMeth c k o es)) (fun c k _ a => dE (eLenO c k a)) (fun c _ a => dE (eIsO c a)) (fun _ a => dE (eLset a)) (dE (eLit (.fd [] []))) (dE fun _ _ _ _ => .no)
  (fun k _ es => { i := iIter k es }) (fun _ a => { i := iE a })
  (fun _ _ o a => dE (eApp o a)) (fun _ o => dE (ePopL o)) (fun _ _ o a => dE (ePopA o a)) (fun _ _ o a => dE (eIndex o a)) (fun _ _ o a => dE (eExt o a))
  (fun i => { g := fun v s => some (setS s i v) })
  (fun _ es => { g := fun v s => match v with | .tup xs => es.gs xs s | _ => none })
  (fun _ e => dS (sE e)) (fun i _ e => dS (sA i e)) (fun i _ e => dS (sA i e)) (fun _ _ t e => dS (sG t e)) (fun is _ es => dS (sP is es))
  (fun _ _ _ o i e => dS (sI o i e)) (fun i o _ e => dS (sU i o e))
  (fun _ _ _ c a b => dS (sIf c a b)) (fun _ _ _ t it b => dS (sFor t it b)) (fun _ _ c b => dS (sWh c b))
  (fun _ e => dS (sR e)) (dS fun _ _ m => .rt .non m) (dS fun _ s m => .nx s m) (dS fun _ s m => .bk s m) (dS fun _ s m => .ct s m)
  (fun c _ e => dS (sRaise c e)) (fun c => dS (sRz c)) (dS fun _ _ _ => .no)
  x

/-- a def: its names by slot (the parameters first), how many parameters, its body; whether it is a def of the law's own that makes lambdas, tells reprs; whether it is a class c's __init__ (np without self; its last statement, the store, is told as a return) -/
structure Df where
  name : Str
  N : List Str
  np : Nat
  body : A
  top : Bool := false
  ini : Option Nat := none

noncomputable def runD (d : Df) (F : FT) (vs : List AV) (m : AH) : Rs AV :=
  if Nat.beq vs.length d.np then (match (den d.body).b F (vs.map some ++ List.replicate (d.N.length - vs.length) none) m with
    | .nx _ m1 => .ok .non m1
    | .rt v m1 => .ok v m1
    | .ex c ws _ m1 => .ex c ws m1
    | _ => .no) else .no
/-- a class is called: a new object of it -/
noncomputable def runI (c : Nat) (d : Df) (F : FT) (vs : List AV) (m : AH) : Rs AV :=
  if Nat.beq vs.length d.np then (match (den d.body).b F (none :: vs.map some ++ List.replicate (d.N.length - (vs.length + 1)) none) m with
    | .rt v m1 => if pureV v then .ok (.obj c [v]) m1 else .no
    | .ex c ws _ m1 => .ex c ws m1
    | _ => .no) else .no
def noF : Nat → List AV → AH → Rs AV := fun _ _ _ => .no
/-- what a body at level n + 5 may call: a plain def's, one of the law's own; an __init__'s -/
def ftN (f : Nat → Bool → Nat → List AV → AH → Rs AV) (wf n : Nat) : FT := ⟨f (n + 3) false, wf, noF⟩
def ftT (f : Nat → Bool → Nat → List AV → AH → Rs AV) (wf n : Nat) : FT := ⟨f (n + 3) true, wf, f n false⟩
def ftI (f : Nat → Bool → Nat → List AV → AH → Rs AV) (wf n : Nat) : FT := ⟨f (n + 2) false, wf, noF⟩
/-- the defs' meaning, by the depth of calls; tp: whether the law's own may be called -/
noncomputable def sem (Ds : List Df) (wf : Nat) : Nat → Bool → Nat → List AV → AH → Rs AV
  | 0, _, _, _, _ => .no
  | 1, _, _, _, _ => .no
  | 2, _, _, _, _ => .no
  | 3, _, _, _, _ => .no
  | 4, _, _, _, _ => .no
  | n + 5, tp, k, vs, m => match Ds[k]? with
    | some d => (match d.ini with
      | some c => runI c d ⟨sem Ds wf (n + 2) false, wf, noF⟩ vs m
      | none => (match d.top, tp with
        | false, _ => runD d ⟨sem Ds wf (n + 3) false, wf, noF⟩ vs m
        | true, true => runD d ⟨sem Ds wf (n + 3) true, wf, sem Ds wf n false⟩ vs m
        | true, false => .no))
    | none => .no
theorem sem_low (Ds : List Df) (wf : Nat) {n : Nat} (h : n < 5) (tp : Bool) (k : Nat) (vs : List AV) (m : AH) : sem Ds wf n tp k vs m = .no := by
  match n, h with
  | 0, _ => rfl
  | 1, _ => rfl
  | 2, _ => rfl
  | 3, _ => rfl
  | 4, _ => rfl
theorem sem_I {Ds : List Df} {wf n k c : Nat} {d : Df} (hd : Ds[k]? = some d) (hi : d.ini = some c) (tp : Bool) (vs : List AV) (m : AH) : sem Ds wf (n + 5) tp k vs m = runI c d (ftI (sem Ds wf) wf n) vs m := by
  show (match Ds[k]? with | some d => _ | none => _) = _
  rw [hd]
  show (match d.ini with | some c => _ | none => _) = _
  rw [hi]
  rfl
theorem sem_N {Ds : List Df} {wf n k : Nat} {d : Df} (hd : Ds[k]? = some d) (hi : d.ini = none) (ht : d.top = false) (tp : Bool) (vs : List AV) (m : AH) : sem Ds wf (n + 5) tp k vs m = runD d (ftN (sem Ds wf) wf n) vs m := by
  show (match Ds[k]? with | some d => _ | none => _) = _
  rw [hd]
  show (match d.ini with | some c => _ | none => _) = _
  rw [hi]
  show (match d.top, tp with | false, _ => _ | true, true => _ | true, false => _) = _
  rw [ht]
  rfl
theorem sem_T {Ds : List Df} {wf n k : Nat} {d : Df} (hd : Ds[k]? = some d) (hi : d.ini = none) (ht : d.top = true) (vs : List AV) (m : AH) : sem Ds wf (n + 5) true k vs m = runD d (ftT (sem Ds wf) wf n) vs m := by
  show (match Ds[k]? with | some d => _ | none => _) = _
  rw [hd]
  show (match d.ini with | some c => _ | none => _) = _
  rw [hi]
  show (match d.top, true with | false, _ => _ | true, true => _ | true, false => _) = _
  rw [ht]
  rfl
theorem sem_TN {Ds : List Df} {wf n k : Nat} {d : Df} (hd : Ds[k]? = some d) (hi : d.ini = none) (ht : d.top = true) (vs : List AV) (m : AH) : sem Ds wf (n + 5) false k vs m = .no := by
  show (match Ds[k]? with | some d => _ | none => _) = _
  rw [hd]
  show (match d.ini with | some c => _ | none => _) = _
  rw [hi]
  show (match d.top, false with | false, _ => _ | true, true => _ | true, false => _) = _
  rw [ht]
end Mi
set_option Elab.async false
set_option linter.all false
set_option maxRecDepth 100000
set_option maxHeartbeats 4000000
/-! Mini: abstract values and heaps against HandS's -/
namespace Mi
open PySem PySem.Spec PyProof.Rows L2

/-- the written part, and where the text's defs and classes stand -/
structure Tb where
  K : PySem.W.Frag
  fa : Nat → Option Addr
  ca : Nat → Addr
  /-- an exception class's own field (by __init__), if any -/
  fld : Nat → Option Str
  /-- what the callers' indices name -/
  fb : Addr → Prop
  /-- the tables of code objects, with the lambdas' name -/
  tabs : List (Addr × Str) := []
abbrev Tb.wb (T : Tb) (fb : Addr → Prop) : Tb := { T with fb := fb }

/-- the script: known to the object, or of the written part -/
def SqSc (K : PySem.W.Frag) (H : Hp) (a : Addr) (xs : List V) : Prop :=
  (∃ o, H a = some (.frz o (.lst xs))) ∨
    ∃ (o : Obj) (its : Array Value) (n : Nat), K.lookup a = some o ∧ o.cls = .type "list" ∧ o.dict = none ∧ o.data = .seq its n ∧ its.size ≤ sizeLine ∧ Vals xs its.toList
theorem SqSc.sql {K : PySem.W.Frag} {H : Hp} {a : Addr} {xs : List V} (h : SqSc K H a xs) : SqL K H a xs := by
  rcases h with h | h
  · exact .inl (.inr h)
  · exact .inr h
mutual
inductive Rep (T : Tb) (ρ : List Addr) (H : Hp) : AV → V → Prop
  | non : Rep T ρ H .non .non
  | bl (b : Bool) : Rep T ρ H (.bl b) (.bl b)
  | int (i : Int) : Rep T ρ H (.int i) (.int i)
  | str (x : Str) : Rep T ρ H (.str x) (.str x)
  | tup {xs : List AV} {a : Addr} {vs : List V} {o : Obj} : H a = some (.frz o (.tup vs)) ∧ o.dict = none → Reps T ρ H xs vs → Rep T ρ H (.tup xs) (.ref a)
  | fl {xs : List AV} {a : Addr} {vs : List V} : H a = some (.lst vs) → a ∉ ρ ∧ ¬ T.fb a → Reps T ρ H xs vs → Rep T ρ H (.fl xs) (.ref a)
  | sc {xs : List AV} {a : Addr} {vs : List V} : SqSc T.K H a vs → Reps T ρ H xs vs → Rep T ρ H (.sc xs) (.ref a)
  | ref {r : Nat} {a : Addr} : ρ[r]? = some a → Rep T ρ H (.ref r) (.ref a)
  | fn {k : Nat} {a : Addr} : T.fa k = some a → Rep T ρ H (.fn k) (.ref a)
  | obj {c : Nat} {xs : List AV} {a dx : Addr} {vs : List V} : H a = some (SlX.SlO a (T.ca c) dx (vs.map some)) ∧ H dx = some (.xd []) → (a ∉ ρ ∧ ¬ T.fb a) ∧ (dx ∉ ρ ∧ ¬ T.fb dx) → Reps T ρ H xs vs → Rep T ρ H (.obj c xs) (.ref a)
  | fd {ks xs : List AV} {a : Addr} {kvs : List (Key × V)} : H a = some (.dK kvs) → a ∉ ρ ∧ ¬ T.fb a → Reps T ρ H ks (kvs.map fun p => kV p.1) → Reps T ρ H xs (kvs.map Prod.snd) → Rep T ρ H (.fd ks xs) (.ref a)
inductive Reps (T : Tb) (ρ : List Addr) (H : Hp) : List AV → List V → Prop
  | nil : Reps T ρ H [] []
  | cons {x : AV} {v : V} {xs : List AV} {vs : List V} : Rep T ρ H x v → Reps T ρ H xs vs → Reps T ρ H (x :: xs) (v :: vs)
end

/-- no table of code objects -/
def NoTb (o : HO) : Prop := ∀ ps, o ≠ .tbl ps
/-- nothing stands there, but for a table -/
def Nw (o : Option HO) : Prop := ∀ u, o = some u → ¬ NoTb u
theorem Nw.no {o : Option HO} {u : HO} (h : Nw o) (e : o = some u) (n : NoTb u) : False := h u e n
theorem nw_none {o : Option HO} (h : o = none) : Nw o := fun u e => by rw [h] at e; cases e
structure Ext (ρ : List Addr) (H : Hp) (ρ' : List Addr) (H' : Hp) : Prop where
  pre : ρ <+: ρ'
  keep : ∀ b o, H b = some o → b ∉ ρ → NoTb o → H' b = some o
  new : ∀ b ∈ ρ', b ∈ ρ ∨ Nw (H b)
theorem Ext.refl (ρ : List Addr) (H : Hp) : Ext ρ H ρ H := ⟨List.prefix_refl _, fun _ _ h _ _ => h, fun _ h => .inl h⟩
theorem Ext.trans {ρ ρ1 ρ2 : List Addr} {H H1 H2 : Hp} (a : Ext ρ H ρ1 H1) (b : Ext ρ1 H1 ρ2 H2) : Ext ρ H ρ2 H2 where
  pre := a.pre.trans b.pre
  keep := fun c o h n t => b.keep c o (a.keep c o h n t) (fun z => by
    rcases a.new c z with q | q
    · exact n q
    · exact q.no h t) t
  new := fun c z => by
    rcases b.new c z with q | q
    · exact a.new c q
    · by_cases n : c ∈ ρ
      · exact .inl n
      · exact .inr fun u e t => q.no (a.keep c u e n t) t

/-- plain things that change -/
def Pl : Option HO → Prop
  | some (.lst _) => True
  | some (.dK _) => True
  | some (.dT _) => True
  | some (.set _ _) => True
  | some (.ins _ _ _) => True
  | _ => False
theorem Pl.noTb {o : HO} (h : Pl (some o)) : NoTb o := fun ps z => by rw [z] at h; exact h
/-- what the indices name are things that change -/
def Muts (ρ : List Addr) (H : Hp) : Prop := ∀ a ∈ ρ, Pl (H a)
theorem Muts.out {ρ : List Addr} {H : Hp} (m : Muts ρ H) {a : Addr} {o : HO} (h : H a = some o) (n : ¬ Pl (some o)) : a ∉ ρ := fun z => by
  have := m a z
  rw [h] at this
  exact n this
theorem tabs_mv {ts : List (Addr × Str)} {H H' : Hp} (t : LamX.Tabs ts H) (k : ∀ b o, H b = some o → ¬ Pl (some o) → H' b = some o) : LamX.Tabs ts H' := fun p hp => by
  obtain ⟨ps, h1, h2, h3⟩ := t p hp
  refine ⟨ps, k _ _ h1 (fun z => z), h2, fun pos cv hc => ?_⟩
  obtain ⟨c, e1, e2⟩ := h3 pos cv hc
  exact ⟨c, e1, k _ _ e2 (fun z => z)⟩
theorem tabs_upd {ts : List (Addr × Str)} {H : Hp} {a : Addr} {o : HO} (t : LamX.Tabs ts H) (k : H a = none ∨ Pl (H a)) : LamX.Tabs ts (upd H a o) := tabs_mv t fun b u e n => by
  have : b ≠ a := fun z => by
    rw [z] at e
    rcases k with k | k
    · rw [k] at e; cases e
    · rw [e] at k; exact n k
  rw [upd_ne this]
  exact e
theorem Muts.tup {ρ : List Addr} {H : Hp} (m : Muts ρ H) {a : Addr} {vs : List V} (h : H a = some (.tup vs)) : a ∉ ρ := fun z => by
  have := m a z
  rw [h] at this
  exact this
theorem Muts.frz {ρ : List Addr} {H : Hp} (m : Muts ρ H) {a : Addr} {o : Obj} {u : HO} (h : H a = some (.frz o u)) : a ∉ ρ := fun z => by
  have := m a z
  rw [h] at this
  exact this

theorem pre_get {ρ ρ' : List Addr} (p : ρ <+: ρ') {r : Nat} {a : Addr} (h : ρ[r]? = some a) : ρ'[r]? = some a := by
  obtain ⟨t, rfl⟩ := p
  have hr : r < ρ.length := by
    rw [List.getElem?_eq_some_iff] at h
    exact h.1
  rw [List.getElem?_append_left hr]
  exact h

section
variable {T : Tb} {ρ ρ' : List Addr} {H H' : Hp}
mutual
theorem Rep.mono (m : Muts ρ H) (e : Ext ρ H ρ' H') : ∀ {x : AV} {v : V}, Rep T ρ H x v → Rep T ρ' H' x v
  | _, _, .non => .non
  | _, _, .bl b => .bl b
  | _, _, .int i => .int i
  | _, _, .str x => .str x
  | _, _, .tup h r => .tup ⟨e.keep _ _ h.1 (m.frz h.1) (fun _ z => nomatch z), h.2⟩ (Reps.mono m e r)
  | _, _, .fl h n r => .fl (e.keep _ _ h n.1 (fun _ z => nomatch z)) ⟨(fun z => by
      rcases e.new _ z with q | q
      · exact n.1 q
      · exact q.no h (fun _ z => nomatch z)), n.2⟩ (Reps.mono m e r)
  | _, _, .sc h r => .sc (by
      rcases h with ⟨o, h⟩ | h
      · exact .inl ⟨o, e.keep _ _ h (m.frz h) (fun _ z => nomatch z)⟩
      · exact .inr h) (Reps.mono m e r)
  | _, _, .ref h => .ref (pre_get e.pre h)
  | _, _, .fn h => .fn h
  | _, _, .obj h n r => .obj ⟨e.keep _ _ h.1 n.1.1 (fun _ z => nomatch (show HO.ext _ = _ from z)), e.keep _ _ h.2 n.2.1 (fun _ z => nomatch z)⟩ ⟨⟨(fun z => by
      rcases e.new _ z with q | q
      · exact n.1.1 q
      · exact q.no h.1 (fun _ z => nomatch (show HO.ext _ = _ from z))), n.1.2⟩, ⟨(fun z => by
      rcases e.new _ z with q | q
      · exact n.2.1 q
      · exact q.no h.2 (fun _ z => nomatch z)), n.2.2⟩⟩ (Reps.mono m e r)
  | _, _, .fd h n r1 r2 => .fd (e.keep _ _ h n.1 (fun _ z => nomatch z)) ⟨(fun z => by
      rcases e.new _ z with q | q
      · exact n.1 q
      · exact q.no h (fun _ z => nomatch z)), n.2⟩ (Reps.mono m e r1) (Reps.mono m e r2)
theorem Reps.mono (m : Muts ρ H) (e : Ext ρ H ρ' H') : ∀ {xs : List AV} {vs : List V}, Reps T ρ H xs vs → Reps T ρ' H' xs vs
  | _, _, .nil => .nil
  | _, _, .cons h t => .cons (Rep.mono m e h) (Reps.mono m e t)
end
end

theorem Reps.length {T : Tb} {ρ : List Addr} {H : Hp} : ∀ {xs : List AV} {vs : List V}, Reps T ρ H xs vs → xs.length = vs.length
  | _, _, .nil => rfl
  | _, _, .cons _ t => by rw [List.length_cons, List.length_cons, Reps.length t]
theorem Reps.append {T : Tb} {ρ : List Addr} {H : Hp} : ∀ {xs ys : List AV} {vs ws : List V}, Reps T ρ H xs vs → Reps T ρ H ys ws → Reps T ρ H (xs ++ ys) (vs ++ ws)
  | _, _, _, _, .nil, h => h
  | _, _, _, _, .cons a t, h => .cons a (Reps.append t h)
theorem Reps.get {T : Tb} {ρ : List Addr} {H : Hp} : ∀ {xs : List AV} {vs : List V} {i : Nat} {x : AV}, Reps T ρ H xs vs → xs[i]? = some x → ∃ v, vs[i]? = some v ∧ Rep T ρ H x v
  | _, _, _, _, .nil, h => by simp at h
  | _, _, 0, _, .cons a t, h => by
    simp at h; subst h; exact ⟨_, rfl, a⟩
  | _, _, i + 1, x, .cons a t, h => by
    obtain ⟨v, e, r⟩ := Reps.get (i := i) (x := x) t (by simpa using h)
    exact ⟨v, by simpa using e, r⟩
theorem Reps.set {T : Tb} {ρ : List Addr} {H : Hp} {x : AV} {v : V} (h : Rep T ρ H x v) : ∀ {xs : List AV} {vs : List V} (i : Nat), Reps T ρ H xs vs → Reps T ρ H (xs.set i x) (vs.set i v)
  | _, _, _, .nil => .nil
  | _, _, 0, .cons _ t => .cons h t
  | _, _, i + 1, .cons a t => .cons a (Reps.set h i t)
theorem Reps.take {T : Tb} {ρ : List Addr} {H : Hp} : ∀ {xs : List AV} {vs : List V} (n : Nat), Reps T ρ H xs vs → Reps T ρ H (xs.take n) (vs.take n)
  | _, _, 0, _ => .nil
  | _, _, _ + 1, .nil => .nil
  | _, _, n + 1, .cons r t => .cons r (Reps.take n t)
theorem Reps.drop {T : Tb} {ρ : List Addr} {H : Hp} : ∀ {xs : List AV} {vs : List V} (n : Nat), Reps T ρ H xs vs → Reps T ρ H (xs.drop n) (vs.drop n)
  | _, _, 0, r => r
  | _, _, _ + 1, .nil => .nil
  | _, _, n + 1, .cons _ t => Reps.drop n t
theorem Reps.eraseIdx {T : Tb} {ρ : List Addr} {H : Hp} : ∀ {xs : List AV} {vs : List V} (n : Nat), Reps T ρ H xs vs → Reps T ρ H (xs.eraseIdx n) (vs.eraseIdx n)
  | _, _, _, .nil => .nil
  | _, _, 0, .cons _ t => t
  | _, _, n + 1, .cons r t => .cons r (Reps.eraseIdx n t)
theorem Reps.dropLast {T : Tb} {ρ : List Addr} {H : Hp} {xs : List AV} {vs : List V} (h : Reps T ρ H xs vs) : Reps T ρ H xs.dropLast vs.dropLast := by
  rw [List.dropLast_eq_take, List.dropLast_eq_take, h.length]
  exact h.take _
theorem Reps.rep {T : Tb} {ρ : List Addr} {H : Hp} {xs : List AV} {vs : List V} (h : Reps T ρ H xs vs) : ∀ k : Nat, Reps T ρ H (List.replicate k xs).flatten (List.replicate k vs).flatten
  | 0 => .nil
  | k + 1 => by
    rw [List.replicate_succ, List.replicate_succ, List.flatten_cons, List.flatten_cons]
    exact h.append (Reps.rep h k)

/-- an object -/
def Ob (T : Tb) (ρ : List Addr) (H : Hp) (a : Addr) : AO → Prop
  | .lst _ xs => ∃ vs, H a = some (.lst vs) ∧ Reps T ρ H xs vs

structure Rl (T : Tb) (ρ : List Addr) (H : Hp) (m : AH) : Prop where
  len : ρ.length = m.length
  nd : ρ.Nodup
  ob : ∀ (r : Nat) (a : Addr) (o : AO), ρ[r]? = some a → m[r]? = some o → Ob T ρ H a o
  fb : ∀ b, T.fb b → b ∉ ρ ∧ Pl (H b)
  tb : LamX.Tabs T.tabs H
theorem mut_ne {o : Option HO} (h : Pl o) : o ≠ none := fun z => by rw [z] at h; exact h
theorem Ext.fb {T : Tb} {ρ ρ' : List Addr} {H H' : Hp} (e : Ext ρ H ρ' H') (h : ∀ b, T.fb b → b ∉ ρ ∧ Pl (H b)) : ∀ b, T.fb b → b ∉ ρ' ∧ Pl (H' b) := fun b q => by
  obtain ⟨h1, h2⟩ := h b q
  refine ⟨fun z => ?_, ?_⟩
  · rcases e.new b z with k | k
    · exact h1 k
    · cases ko : H b with
      | none => exact mut_ne h2 ko
      | some o => exact k.no ko (by rw [ko] at h2; exact h2.noTb)
  · cases k : H b with
    | none => exact absurd k (mut_ne h2)
    | some o => rw [e.keep b o k h1 (by rw [k] at h2; exact h2.noTb), ← k]; exact h2
theorem Ob.mut {T : Tb} {ρ : List Addr} {H : Hp} {a : Addr} {o : AO} (h : Ob T ρ H a o) : Pl (H a) := by
  cases o with
  | lst e xs =>
    obtain ⟨vs, h, _⟩ := h
    rw [h]
    exact True.intro
theorem Rl.muts {T : Tb} {ρ : List Addr} {H : Hp} {m : AH} (h : Rl T ρ H m) : Muts ρ H := fun a ha => by
  obtain ⟨r, hr⟩ := List.mem_iff_getElem?.mp ha
  have hlt : r < m.length := by
    rw [← h.len]
    rw [List.getElem?_eq_some_iff] at hr
    exact hr.1
  exact (h.ob r a m[r] hr (List.getElem?_eq_getElem hlt)).mut
/-- epochs: a list that has its epoch still has its items -/
def Mono (m m' : AH) : Prop := ∀ (r e : Nat) (xs : List AV), m[r]? = some (.lst e xs) → ∃ e' xs', m'[r]? = some (.lst e' xs') ∧ e ≤ e' ∧ (e' = e → xs' = xs)
theorem Mono.refl (m : AH) : Mono m m := fun _ e xs h => ⟨e, xs, h, Nat.le_refl _, fun _ => rfl⟩
theorem Mono.trans {m m1 m2 : AH} (a : Mono m m1) (b : Mono m1 m2) : Mono m m2 := fun r e xs h => by
  obtain ⟨e1, x1, h1, l1, q1⟩ := a r e xs h
  obtain ⟨e2, x2, h2, l2, q2⟩ := b r e1 x1 h1
  refine ⟨e2, x2, h2, Nat.le_trans l1 l2, fun z => ?_⟩
  have z1 : e1 = e := by omega
  rw [q2 (by omega), q1 z1]
theorem Mono.app (m l : AH) : Mono m (m ++ l) := fun r e xs h => ⟨e, xs, by
  have hr : r < m.length := by
    rw [List.getElem?_eq_some_iff] at h
    exact h.1
  rw [List.getElem?_append_left hr]
  exact h, Nat.le_refl _, fun _ => rfl⟩
theorem Mono.set {m : AH} {r e : Nat} {xs ys : List AV} (h : m[r]? = some (.lst e xs)) : Mono m (m.set r (.lst (e + 1) ys)) := fun q f zs hq => by
  by_cases z : q = r
  · subst z
    rw [h] at hq; cases hq
    have hr : q < m.length := by
      rw [List.getElem?_eq_some_iff] at h
      exact h.1
    exact ⟨e + 1, ys, by rw [List.getElem?_set_self hr], Nat.le_succ _, fun k => by omega⟩
  · exact ⟨f, zs, by rw [List.getElem?_set_ne (Ne.symm z)]; exact hq, Nat.le_refl _, fun _ => rfl⟩

/-- from one state to a later one -/
structure Nx (T : Tb) (ρ : List Addr) (H : Hp) (m : AH) (ρ' : List Addr) (H' : Hp) (m' : AH) : Prop where
  ext : Ext ρ H ρ' H'
  rl : Rl T ρ' H' m'
  mono : Mono m m'
theorem Nx.refl {T : Tb} {ρ : List Addr} {H : Hp} {m : AH} (h : Rl T ρ H m) : Nx T ρ H m ρ H m := ⟨Ext.refl _ _, h, Mono.refl _⟩
theorem Nx.trans {T : Tb} {ρ ρ1 ρ2 : List Addr} {H H1 H2 : Hp} {m m1 m2 : AH} (a : Nx T ρ H m ρ1 H1 m1) (b : Nx T ρ1 H1 m1 ρ2 H2 m2) : Nx T ρ H m ρ2 H2 m2 :=
  ⟨a.ext.trans b.ext, b.rl, a.mono.trans b.mono⟩

/-- slots -/
structure RS1 (T : Tb) (ρ : List Addr) (H : Hp) (as : ASt) (σ : L2.St) : Prop where
  len : as.length = σ.length
  at_ : ∀ (i : Nat) (x : AV), as[i]? = some (some x) → ∃ v, σ[i]? = some (some v) ∧ Rep T ρ H x v
theorem RS1.mono {T : Tb} {ρ ρ' : List Addr} {H H' : Hp} {as : ASt} {σ : L2.St} (m : Muts ρ H) (e : Ext ρ H ρ' H') (h : RS1 T ρ H as σ) : RS1 T ρ' H' as σ :=
  ⟨h.len, fun i x q => let ⟨v, a, b⟩ := h.at_ i x q; ⟨v, a, b.mono m e⟩⟩
theorem RS1.set {T : Tb} {ρ : List Addr} {H : Hp} {as : ASt} {σ : L2.St} {x : AV} {v : V} (h : RS1 T ρ H as σ) (r : Rep T ρ H x v) (i : Nat) : RS1 T ρ H (setS as i x) (σ.set i (some v)) := by
  refine ⟨by unfold setS; rw [List.length_set, List.length_set]; exact h.len, fun j y q => ?_⟩
  unfold setS at q
  by_cases z : j = i
  · subst z
    by_cases hj : j < as.length
    · rw [List.getElem?_set_self hj] at q
      cases q
      exact ⟨v, by rw [List.getElem?_set_self (by rw [← h.len]; exact hj)], r⟩
    · rw [List.getElem?_eq_none (by rw [List.length_set]; omega)] at q
      cases q
  · rw [List.getElem?_set_ne (Ne.symm z)] at q ⊢
    exact h.at_ j y q
theorem RS1.wipe {T : Tb} {ρ : List Addr} {H : Hp} {as : ASt} {σ : L2.St} (h : RS1 T ρ H as σ) : ∀ vs : List Nat, RS1 T ρ H (wipeS as vs) (wipe σ vs)
  | [] => h
  | v :: vs => by
    have ih := RS1.wipe h vs
    refine ⟨by show ((wipeS as vs).set v none).length = ((L2.wipe σ vs).set v none).length; rw [List.length_set, List.length_set]; exact ih.len, fun j y q => ?_⟩
    have q' : ((wipeS as vs).set v none)[j]? = some (some y) := q
    show ∃ w, ((L2.wipe σ vs).set v none)[j]? = some (some w) ∧ _
    by_cases z : j = v
    · subst z
      by_cases hj : j < (wipeS as vs).length
      · rw [List.getElem?_set_self hj] at q'; cases q'
      · rw [List.getElem?_eq_none (by rw [List.length_set]; omega)] at q'; cases q'
    · rw [List.getElem?_set_ne (Ne.symm z)] at q' ⊢
      exact ih.at_ j y q'

/-! ### results -/
/-- an exception as it lies -/
def ExAt (T : Tb) (c : Nat) (vs : List AV) (d : Option Addr) (ρ : List Addr) (H : Hp) : Prop :=
  match T.fld c with
  | none => d = none ∧ vs = []
  | some f => ∃ x v da, vs = [x] ∧ d = some da ∧ H da = some (.xd [(f, v)]) ∧ Rep T ρ H x v ∧ da ∉ ρ ∧ ¬ T.fb da
def Good (T : Tb) (W : WX) (σ : L2.St) (ρ : List Addr) (H : Hp) (m : AH) {α : Type} (r : Rs α) (P : α → List Addr → Hp → AH → Prop) : Prop :=
  match r with
  | .ok a m' => ∀ ρ' H', Nx T ρ H m ρ' H' m' → P a ρ' H' m'
  | .ex c vs m' => ∀ ρ' H' d, Nx T ρ H m ρ' H' m' → ExAt T c vs d ρ' H' → W (.ref (T.ca c)) d σ H'
  | .no => False
section
variable {T : Tb} {W : WX} {σ : L2.St} {ρ ρ1 : List Addr} {H H1 : Hp} {m m1 : AH} {α β : Type}
theorem Good.step {r : Rs α} {P : α → List Addr → Hp → AH → Prop} (g : Good T W σ ρ H m r P) (n : Nx T ρ H m ρ1 H1 m1) : Good T W σ ρ1 H1 m1 r P := by
  cases r with
  | ok a m' => exact fun ρ' H' k => g ρ' H' (n.trans k)
  | ex c vs m' => exact fun ρ' H' d k e => g ρ' H' d (n.trans k) e
  | no => exact g
theorem Good.imp {r : Rs α} {P P' : α → List Addr → Hp → AH → Prop} (g : Good T W σ ρ H m r P) (h : ∀ a ρ' H' m', Nx T ρ H m ρ' H' m' → P a ρ' H' m' → P' a ρ' H' m') : Good T W σ ρ H m r P' := by
  cases r with
  | ok a m' => exact fun ρ' H' k => h _ _ _ _ k (g ρ' H' k)
  | ex c vs m' => exact g
  | no => exact g
theorem Good.bind {r : Rs α} {k : α → AH → Rs β} {P : β → List Addr → Hp → AH → Prop} (g : Good T W σ ρ H m (r.bind k) P) :
    Good T W σ ρ H m r fun a ρ' H' m' => Good T W σ ρ' H' m' (k a m') P := by
  cases r with
  | ok a m' => exact fun ρ' H' n => Good.step (r := k a m') g n
  | ex c vs m' => exact g
  | no => exact g
theorem Good.ok {a : α} {P : α → List Addr → Hp → AH → Prop} (h : Rl T ρ H m) (g : Good T W σ ρ H m (.ok a m) P) : P a ρ H m := g ρ H (Nx.refl h)
theorem Good.op {o : Option (α × AH)} {P : α → List Addr → Hp → AH → Prop} (g : Good T W σ ρ H m (.op o) P) : ∃ a m', o = some (a, m') ∧ ∀ ρ' H', Nx T ρ H m ρ' H' m' → P a ρ' H' m' := by
  cases o with
  | none => exact g.elim
  | some a => exact ⟨a.1, a.2, rfl, g⟩
theorem Good.of {o : Option α} {P : α → List Addr → Hp → AH → Prop} (h : Rl T ρ H m) (g : Good T W σ ρ H m (.of o m) P) : ∃ a, o = some a ∧ P a ρ H m := by
  cases o with
  | none => exact g.elim
  | some a => exact ⟨a, rfl, Good.ok h g⟩
end
end Mi
set_option Elab.async false
set_option linter.all false
set_option maxRecDepth 100000
set_option maxHeartbeats 4000000
/-! Mini: tuples that are laid as exactly known objects -/
namespace Mi
open PySem PySem.Spec PyProof.Rows L2
def tObj (us : List Value) : Obj := { cls := .type "tuple", data := .seq us.toArray }
abbrev TX (us : List Value) (vs : List V) : HO := .frz (tObj us) (.tup vs)
section
variable {X : Cx} {pins : List (Addr × Obj)} {σ : L2.St} {H : Hp} {s : Shared}
/-- a tuple is laid -/
theorem laidT {us : List Value} {vs : List V} {h1 : Heap} {t : Nat} (I : Inv X pins σ H s) (keep : ∀ b u, s.heap.get? b = some u → h1.get? b = some u) (r : Vals vs us) (z : vs.length ≤ sizeLine) {Q : VK}
    (q : ∀ p ws, H p = none → Q (.ref p) (upd H p (TX ws vs))) : EP X pins σ Q (.ref h1.objs.size) { s with heap := h1.push (tObj us), toks := t } := by
  have J : Inv X pins σ H { s with heap := h1, toks := t } := I.kept (t' := t) keep
  have new : (h1.push (tObj us)).get? h1.objs.size = some (tObj us) := Heap.get?_push_size _ rfl
  have K := J.laid (a := h1.objs.size) (o := TX us vs) (h' := h1.push (tObj us)) (t' := t) (fun b u e => Heap.get?_push_of_some _ e) (Nat.le_refl _) ⟨new, z, us, r, ⟨_, new, rfl, _, rfl⟩⟩
  exact ⟨V.ref h1.objs.size, _, K, rfl, q _ us (J.hok.fresh (Nat.le_refl _))⟩
/-- the wish of a rule that lays a tuple -/
def NewT (H : Hp) (vs : List V) (Q : VK) : Prop := ∀ p ws, H p = none → Q (.ref p) (upd H p (TX ws vs))
variable {es : List Expr} {ta : TA} {pos : Pos}
def tTupX (t : TA) : TE := fun σ H Q => t σ H fun vs H1 => vs.length ≤ sizeLine ∧ NewT H1 vs Q
theorem px_tup {j : Nat} (h : PA X es ta) : PE X (.Tuple es j pos) (tTupX ta) := by
  refine ⟨fun pins s σ H Q I w => ?_⟩
  refine wpAny_Tuple_spliced ?_
  refine thn (h.run pos pins s σ H _ I w) ?_
  rintro us s1 ⟨vs, H1, J, r, z, q⟩
  exact ⟨by rw [← r.length]; exact z, laidT (t := s1.toks) J (fun _ _ e => e) r z q⟩
theorem cx_tup : CallR X (.type "tuple") (fun xs H Q => ∃ p ys, xs = [.ref p] ∧ ((SqL X.K H p ys ∧ NewT H ys Q) ∨ (SqT X.K H p ys ∧ Q (.ref p) H))) := by
  rintro pins s σ H xs us Q I r ⟨p, ys, rfl, h⟩
  obtain ⟨u, rfl, ru⟩ := vals1 r
  cases ru
  cases h with
  | inl h =>
    obtain ⟨its, ri, pl, z⟩ := I.list h.1
    have lt : its.toArray.size ≤ sizeLine := by rw [List.size_toArray, ← ri.length]; exact z
    exact call_tuple_list pl.isList (fun h1 keep => laidT (t := s.toks) I keep ri z h.2) lt
  | inr h =>
    obtain ⟨its, ri, pl, z⟩ := I.tuple h.1
    exact call_tuple_same pl ⟨V.ref p, H, I, rfl, h.2⟩
theorem ox_cat : OpR X (binaryOp .Add) (fun x y H Q => ∃ a b xs ys, x = .ref a ∧ y = .ref b ∧ SqT X.K H a xs ∧ SqT X.K H b ys ∧ xs.length + ys.length ≤ sizeLine ∧ (xs = [] → Q y H) ∧ (ys = [] → Q x H) ∧ NewT H (xs ++ ys) Q) := by
  rintro pins s σ H x y v u Q I rx ry ⟨a, b, xs, ys, rfl, rfl, ha, hb, z, q0, q1, q2⟩
  by_cases e : xs = []
  · refine op_catA pins s σ H _ _ v u Q I rx ry ⟨a, b, xs, ys, rfl, rfl, ha, hb, z, q0, fun k => absurd e k, fun k => absurd e k⟩
  · cases rx
    cases ry
    obtain ⟨i1, r1, p1, _⟩ := I.tuple ha
    obtain ⟨i2, r2, p2, _⟩ := I.tuple hb
    have zl : (xs ++ ys).length ≤ sizeLine := by rw [List.length_append]; exact z
    have z2 : i1.length + i2.length ≤ sizeLine := by have := r1.length; have := r2.length; omega
    have ne : i1 ≠ [] := fun k => e (r1.nil_iff.mp k)
    exact HT.cat_tup p1 p2 ne (fun k => ⟨V.ref a, H, I, rfl, q1 (r2.nil_iff.mp k)⟩) (fun _ => laidT (t := s.toks) I (fun _ _ e => e) (r1.append r2) zl q2) z2
theorem sx_cut : SlR X (fun x lo hi H Q => ∃ a xs, x = .ref a ∧ SqT X.K H a xs ∧ (HT.sIx xs.length 0 lo = 0 ∧ HT.sIx xs.length xs.length hi = xs.length → Q x H) ∧ NewT H (cutV xs lo hi) Q) := by
  rintro pins s σ H x v vl vu lo hi sl Q I rx hs pl pu ⟨a, xs, rfl, hx, q0, q1⟩
  by_cases hw : HT.sIx xs.length 0 lo = 0 ∧ HT.sIx xs.length xs.length hi = xs.length
  · exact sl_tupA pins s σ H _ v vl vu lo hi sl Q I rx hs pl pu ⟨a, xs, rfl, hx, q0, fun k => absurd hw k⟩
  · cases rx
    obtain ⟨its, r, ht, z⟩ := I.tuple hx
    have le : its.toArray.size = xs.length := by rw [List.size_toArray, ← r.length]
    refine ⟨"tuple", _, PyProof.Rows.slot_tuple_getitem.lookup, ht.typeIs, ?_⟩
    refine HT.getItem_tuple_cut ht hs pl pu (fun k => hw (by rw [le] at k; exact k)) ?_ (by rw [le]; exact z)
    rw [le]
    exact laidT (t := s.toks) I (fun _ _ e => e) ((r.drop (HT.sIx xs.length 0 lo)).take (HT.sIx xs.length xs.length hi - HT.sIx xs.length 0 lo)) (Nat.le_trans (cutV_length xs lo hi) z) q1
variable {e : Expr} {te : L2.St → Hp → (Int → Int → Hp → Prop) → Prop}
def tTupRgX (te : L2.St → Hp → (Int → Int → Hp → Prop) → Prop) : TE := fun σ H Q => te σ H fun a b H1 => RgOk a b ∧ NewT H1 (rgV a b) Q
theorem px_tupRg {p pos : Pos} (hc : X.calm = true) (hg : Gl X "tuple") (hm : X.mg "tuple" = none) (he : PRg X e te) (na : starEach [e] X.env = (false, eval e X.env) :: starEach [] X.env := by rfl) : PE X (.Call (.Name "tuple" p) [e] [] pos) (tTupRgX te) := by
  refine ⟨fun pins s σ H Q I h => Call_ (ld_blt I hg hm boot_tuple (PyProof.Rows.callWith_type1 (args_cons (thn (he pins s σ H _ I h) ?_) na) na))⟩
  rintro x s1 ⟨r, a, b, t, u, v, H1, rfl, hr, J, ⟨b1, b2, b3, b4, b5⟩, q⟩
  refine args_nil (call_tuple_range (n := (b - a).toNat) (J.ok.hd hc) hr (small_one b1 b2 b3 b4) (rangeSize_nat a b) b5 fun h1 tk acc keep hi => ?_)
  have z : (rgV a b).length ≤ sizeLine := by rw [rgV_length, sizeLine_eq]; omega
  have w := laidT (t := tk) J keep (vals_rg hi) z q
  unfold tObj at w
  rw [Array.toArray_toList] at w
  exact w
theorem ox_rep : OpR X (binaryOp .Mult) (fun x y H Q => ∃ l k xs, x = .ref l ∧ y = .int k ∧ SqT X.K H l xs ∧ xs ≠ [] ∧ 2 ≤ k ∧ k ≤ 1000 ∧ xs.length ≤ 1000 ∧ NewT H (List.replicate k.toNat xs).flatten Q) := by
  rintro pins s σ H x y v u Q I rx ry ⟨l, k, xs, rfl, rfl, hT, hne, k2, k1000, z, q⟩
  cases rx
  obtain ⟨t, rfl⟩ := ry
  obtain ⟨its, r, ⟨⟨cls, dd, data, sl⟩, ho, hc, n, hd⟩, _⟩ := I.tuple hT
  simp only at hc hd
  subst hc hd
  have ln := r.length
  have ne : its ≠ [] := fun e => hne (r.nil_iff.mp e)
  have emp : its.toArray.isEmpty = false := by
    cases its with
    | nil => exact absurd rfl ne
    | cons a b => rfl
  have sz : its.toArray.size = xs.length := by rw [List.size_toArray, ln]
  have m1 : ((xs.length : Nat) : Int) * k ≤ 1000000 := Int.le_trans (Int.mul_le_mul_of_nonneg_right (show ((xs.length : Nat) : Int) ≤ 1000 by omega) (show 0 ≤ k by omega)) (by omega)
  have m2 : k.toNat * xs.length ≤ 1000 * 1000 := Nat.mul_le_mul (by omega) z
  have fl : (List.replicate k.toNat xs).flatten.length ≤ sizeLine := by
    rw [(r.rep k.toNat).length, PyProof.Rows.lm_len_rep_flat, ← ln, sizeLine_eq]
    omega
  have fl2 : (List.replicate k.toNat its).flatten.length ≤ sizeLine := by rw [← (r.rep k.toNat).length]; exact fl
  have many : Builtin.Tuple.tupleTooMany (((its.toArray.size : Nat) : Int) * k) = false := by
    rw [sz]
    unfold Builtin.Tuple.tupleTooMany
    rw [sizeLine_eq]
    exact decide_eq_false (by omega)
  have w := fun (h : EP X pins σ Q (.ref s.heap.objs.size) { s with heap := s.heap.push (tObj (List.replicate k.toNat its).flatten), toks := s.toks }) =>
    tuple_mulW l its.toArray n dd sl k t (by rw [decide_eq_false (by omega), decide_eq_false (by omega)] <;> rfl) (by rw [emp, Bool.false_or]; exact beq_eq_false_iff_ne.mpr (by omega)) (by rw [emp, Bool.or_false]; exact decide_eq_false (by omega)) (by rw [sz]; omega) many
      (by rw [size_rep, List.size_toArray]; exact fl2)
  have last := laidT (t := s.toks) I (fun _ _ e => e) (r.rep k.toNat) fl q
  refine wpAny_binaryOp_repeat_ref (T := "tuple") (U := "int") (by decide) ⟨_, ho, rfl⟩ (fun s' => typeIs_int s' k t) noFill_tuple_mul F.fills_int_mul F.slot_int_rmul repeat_tuple F.slot_int_index.lookup
    (call_meets F.slot_int_rmul (typeIs_int s k t) F.entry_int_rmul (F.args_int_rmul_2 _ _) (int_rmul_tuple k t l its.toArray n dd sl) ⟨ho, rfl, ⟨_, ho, rfl⟩, ?_⟩)
  refine call_meets F.slot_tuple_mul ⟨_, ho, rfl⟩ F.entry_tuple_mul (F.args_tuple_mul_2 _ _) (w last) ⟨ho, ?_⟩
  rw [size_rep]
  exact last
end
end Mi
set_option Elab.async false
set_option linter.all false
set_option maxRecDepth 100000
set_option maxHeartbeats 4000000
/-! Mini: operators by values -/
namespace Mi
open PySem PySem.Spec PyProof.Rows L2

theorem okN_le {n : Nat} (h : okN n = true) : n ≤ sizeLine := by
  have := Nat.le_of_ble_eq_true h
  rw [sizeLine_eq]
  exact this

/-! ### new objects -/
section
variable {T : Tb} {ρ : List Addr} {H : Hp} {m : AH}
/-- a new object that no index names -/
theorem Ext.add {p : Addr} {o : HO} (h : H p = none) : Ext ρ H ρ (upd H p o) :=
  ⟨List.prefix_refl _, fun b u e _ _ => by rw [upd_ne (ne_of_none e h)]; exact e, fun _ h => .inl h⟩
theorem Ob.mono {ρ' : List Addr} {H' : Hp} (mu : Muts ρ H) (e : Ext ρ H ρ' H') {a : Addr} {o : AO} (k : H' a = H a) (h : Ob T ρ H a o) : Ob T ρ' H' a o := by
  cases o with
  | lst ep xs =>
    obtain ⟨vs, h1, h2⟩ := h
    exact ⟨vs, by rw [k]; exact h1, h2.mono mu e⟩
theorem Muts.some {ρ : List Addr} {H : Hp} (m : Muts ρ H) {a : Addr} (h : a ∈ ρ) : H a ≠ none := fun z => by
  have := m a h
  rw [z] at this
  exact this
theorem Rl.add {p : Addr} {o : HO} (rl : Rl T ρ H m) (h : H p = none) : Rl T ρ (upd H p o) m :=
  ⟨rl.len, rl.nd, fun r a u h1 h2 => (rl.ob r a u h1 h2).mono rl.muts (Ext.add h) (upd_ne fun z => by
    subst z
    exact rl.muts.some (List.mem_of_getElem? h1) h), (Ext.add h).fb rl.fb, tabs_upd rl.tb (.inl h)⟩
theorem Nx.add {p : Addr} {o : HO} (rl : Rl T ρ H m) (h : H p = none) : Nx T ρ H m ρ (upd H p o) m := ⟨Ext.add h, rl.add h, Mono.refl _⟩
/-- a new list, named by the next index -/
theorem Ext.push {p : Addr} {o : HO} (h : H p = none) : Ext ρ H (ρ ++ [p]) (upd H p o) :=
  ⟨List.prefix_append _ _, fun b u e _ _ => by rw [upd_ne (ne_of_none e h)]; exact e, fun b hb => by
    rcases List.mem_append.mp hb with q | q
    · exact .inl q
    · rw [List.mem_singleton.mp q]; exact .inr (nw_none h)⟩
theorem get_last {α : Type} {l : List α} {x : α} {r : Nat} {y : α} (h : (l ++ [x])[r]? = some y) : (r < l.length ∧ l[r]? = some y) ∨ (r = l.length ∧ y = x) := by
  by_cases hr : r < l.length
  · rw [List.getElem?_append_left hr] at h
    exact .inl ⟨hr, h⟩
  · rw [List.getElem?_append_right (by omega)] at h
    have e : r - l.length = 0 := by
      have : r - l.length < [x].length := by
        rw [List.getElem?_eq_some_iff] at h
        exact h.1
      simp at this
      omega
    rw [e] at h
    simp at h
    exact .inr ⟨by omega, h.symm⟩
theorem Rl.push {p : Addr} {vs : List V} {xs : List AV} {e : Nat} (rl : Rl T ρ H m) (h : H p = none) (r : Reps T ρ H xs vs) : Rl T (ρ ++ [p]) (upd H p (.lst vs)) (m ++ [.lst e xs]) := by
  have np : p ∉ ρ := fun z => rl.muts.some z h
  refine ⟨by rw [List.length_append, List.length_append, rl.len]; rfl, ?_, fun r a u h1 h2 => ?_, (Ext.push h).fb rl.fb, tabs_upd rl.tb (.inl h)⟩
  · refine List.nodup_append.mpr ⟨rl.nd, by simp, fun a ha b hb z => ?_⟩
    rw [List.mem_singleton.mp hb] at z
    exact np (z ▸ ha)
  · rcases get_last h1 with ⟨k1, q1⟩ | ⟨k1, q1⟩
    · rcases get_last h2 with ⟨k2, q2⟩ | ⟨k2, q2⟩
      · exact (rl.ob r a u q1 q2).mono rl.muts (Ext.push h) (upd_ne fun z => np (z ▸ List.mem_of_getElem? q1))
      · rw [rl.len] at k1; omega
    · rcases get_last h2 with ⟨k2, q2⟩ | ⟨k2, q2⟩
      · rw [← rl.len] at k2; omega
      · subst q1 q2
        exact ⟨vs, upd_same, ‹Reps T ρ H xs vs›.mono rl.muts (Ext.push h)⟩
theorem Nx.push {p : Addr} {vs : List V} {xs : List AV} {e : Nat} (rl : Rl T ρ H m) (h : H p = none) (r : Reps T ρ H xs vs) : Nx T ρ H m (ρ ++ [p]) (upd H p (.lst vs)) (m ++ [.lst e xs]) := ⟨Ext.push h, rl.push h r, Mono.app _ _⟩
/-- behind a new list -/
theorem newL_ok {fr : Bool} {xs : List AV} {vs : List V} {r : AV} {m' : AH} {Q : VK} (h : newL fr xs m = some (r, m')) (rl : Rl T ρ H m) (rs : Reps T ρ H xs vs)
    (g : ∀ ρ' H' v, Nx T ρ H m ρ' H' m' → Rep T ρ' H' r v → Q v H') : vs.length ≤ sizeLine ∧ ∀ p, H p = none → Q (.ref p) (upd H p (.lst vs)) := by
  unfold newL at h
  by_cases hn : okN xs.length = true
  · rw [if_pos hn] at h
    refine ⟨by rw [← rs.length]; exact okN_le hn, fun p hp => ?_⟩
    have np : p ∉ ρ := fun z => rl.muts.some z hp
    cases fr with
    | true =>
      cases h
      exact g ρ _ _ (Nx.add rl hp) (.fl upd_same ⟨np, fun z => mut_ne (rl.fb p z).2 hp⟩ (rs.mono rl.muts (Ext.add hp)))
    | false =>
      cases h
      exact g _ _ _ (Nx.push rl hp rs) (.ref (by rw [← rl.len, List.getElem?_append_right (Nat.le_refl _)]; simp))
  · rw [if_neg hn] at h; cases h
theorem mkT_ok {xs : List AV} {vs : List V} {r : AV} {m' : AH} {Q : VK} (h : mkT xs m = some (r, m')) (rl : Rl T ρ H m) (rs : Reps T ρ H xs vs)
    (g : ∀ ρ' H' v, Nx T ρ H m ρ' H' m' → Rep T ρ' H' r v → Q v H') : vs.length ≤ sizeLine ∧ NewT H vs Q := by
  unfold mkT at h
  by_cases hn : okN xs.length = true
  · rw [if_pos hn] at h
    cases h
    exact ⟨by rw [← rs.length]; exact okN_le hn, fun p _ hp => g ρ _ _ (Nx.add rl hp) (.tup ⟨upd_same, rfl⟩ (rs.mono rl.muts (Ext.add hp)))⟩
  · rw [if_neg hn] at h; cases h
theorem getL_some {r e : Nat} {xs : List AV} (h : getL m r = some (e, xs)) : m[r]? = some (.lst e xs) := by
  unfold getL at h
  split at h
  · rename_i e' xs' q
    cases h
    exact q
  · cases h
theorem Rl.list {r e : Nat} {xs : List AV} {a : Addr} (rl : Rl T ρ H m) (h : getL m r = some (e, xs)) (ha : ρ[r]? = some a) : ∃ vs, H a = some (.lst vs) ∧ Reps T ρ H xs vs := rl.ob r a _ ha (getL_some h)
/-- the items of a list that is not the script -/
theorem lstI_ok {v : AV} {x : V} {xs : List AV} (rl : Rl T ρ H m) (h : lstI m v = some xs) (r : Rep T ρ H v x) : ∃ a vs, x = .ref a ∧ H a = some (.lst vs) ∧ Reps T ρ H xs vs := by
  cases r with
  | fl h1 _ h2 => cases h; exact ⟨_, _, rfl, h1, h2⟩
  | ref ha =>
    unfold lstI at h
    obtain ⟨⟨e, ys⟩, h1, h2⟩ := Option.map_eq_some_iff.mp h
    cases h2
    obtain ⟨vs, h3, h4⟩ := rl.list h1 ha
    exact ⟨_, _, rfl, h3, h4⟩
  | _ => cases h
/-- the items of a sequence: a list's, or a tuple's -/
theorem items_ok {v : AV} {x : V} {xs : List AV} (rl : Rl T ρ H m) (h : items m v = some xs) (r : Rep T ρ H v x) :
    ∃ a vs, x = .ref a ∧ Reps T ρ H xs vs ∧ ((SqL T.K H a vs ∧ ∀ ys, v ≠ .tup ys) ∨ ((∃ o, H a = some (.frz o (.tup vs)) ∧ o.dict = none) ∧ v = .tup xs)) := by
  cases r with
  | tup h1 h2 => cases h; exact ⟨_, _, rfl, h2, .inr ⟨⟨_, h1⟩, rfl⟩⟩
  | fl h1 _ h2 => cases h; exact ⟨_, _, rfl, h2, .inl ⟨SqL.of h1, fun _ z => by cases z⟩⟩
  | sc h1 h2 => cases h; exact ⟨_, _, rfl, h2, .inl ⟨h1.sql, fun _ z => by cases z⟩⟩
  | ref ha =>
    unfold items at h
    obtain ⟨⟨e, ys⟩, h1, h2⟩ := Option.map_eq_some_iff.mp h
    cases h2
    obtain ⟨vs, h3, h4⟩ := rl.list h1 ha
    exact ⟨_, _, rfl, h4, .inl ⟨SqL.of h3, fun _ z => by cases z⟩⟩
  | _ => cases h
end

/-! ### a op b -/
def opOf : Op → Operator
  | .add => .Add | .sub => .Sub | .mul => .Mult | .fdiv => .FloorDiv | .mod => .Mod | .pow => .Pow
  | .xor => .BitXor | .band => .BitAnd | .bor => .BitOr | .shl => .LShift | .shr => .RShift
def rBin (T : Tb) (o : Op) : R2 := fun x y H Q => ∃ fr ρ m a b r m', Rl T ρ H m ∧ Rep T ρ H a x ∧ Rep T ρ H b y ∧ binV fr o a b m = some (r, m') ∧ ∀ ρ' H' v, Nx T ρ H m ρ' H' m' → Rep T ρ' H' r v → Q v H'

theorem log2_big {n : Nat} (h : Nat.blt n big = true) : n.log2 < 4000 := by
  have h' : n < 2 ^ 4000 := Nat.le_of_ble_eq_true h
  exact PySem.Flt.log2_lt_of (by decide) h'
theorem pow_bits {a n : Int} (h : powOk a n = true) : 0 ≤ n ∧ (Builtin.Int.intBits a : Int) * n ≤ 2 ^ 27 := by
  unfold powOk at h
  rw [Bool.and_eq_true, Bool.and_eq_true] at h
  obtain ⟨⟨h1, h2⟩, h3⟩ := h
  have h0 : 0 ≤ n := of_decide_eq_true h1
  have hn : n.natAbs ≤ 1000 := Nat.le_of_ble_eq_true h2
  have ha : a.natAbs < 2 ^ 1000 := Nat.le_of_ble_eq_true h3
  have hb : Builtin.Int.intBits a ≤ 1000 := by
    unfold Builtin.Int.intBits
    split
    · omega
    · exact PySem.Flt.log2_lt_of (by decide) ha
  refine ⟨h0, ?_⟩
  have h4 : (Builtin.Int.intBits a : Int) ≤ 1000 := by omega
  have h5 : n ≤ 1000 := by omega
  have h6 : (Builtin.Int.intBits a : Int) * n ≤ 1000 * 1000 := Int.mul_le_mul h4 h5 h0 (by decide)
  exact Int.le_trans h6 (by decide)
section
variable {X : Cx} {T : Tb} (hK : X.K = T.K)
theorem op_int {o : Op} {pins : List (Addr × Obj)} {s : Shared} {σ : L2.St} {H : Hp} {i j z : Int} {v u : Value} {Q : VK} (I : Inv X pins σ H s) (rx : RelV (.int i) v) (ry : RelV (.int j) u) (h : opI o i j = some z) (q : Q (.int z) H) :
    wpAny (model X.prog X.w) X.A (binaryOp (opOf o) v u) (EP X pins σ Q) X.xe s := by
  cases o with
  | add => cases h; exact op_add pins s σ H _ _ v u Q I rx ry ⟨i, j, rfl, rfl, q⟩
  | sub => cases h; exact op_sub pins s σ H _ _ v u Q I rx ry ⟨i, j, rfl, rfl, q⟩
  | mul =>
    unfold opI at h
    by_cases c : mulOk i j = true
    · simp only [c, if_true] at h
      cases h
      unfold mulOk at c
      rw [Bool.and_eq_true] at c
      have h1 := log2_big c.1
      have h2 := log2_big c.2
      exact op_mulW pins s σ H _ _ v u Q I rx ry ⟨i, j, rfl, rfl, (by show _ + _ < 1000000; omega), q⟩
    · simp only [c] at h; cases h
  | fdiv =>
    unfold opI at h
    by_cases c : divOk j = true
    · simp only [c, if_true] at h
      cases h
      unfold divOk at c
      rw [Bool.and_eq_true, Bool.or_eq_true, Bool.and_eq_true] at c
      have hj : j ≠ 0 := fun z => by rw [z] at c; exact absurd c.1 (by decide)
      rcases c.2 with c2 | ⟨c2, c3⟩
      · exact op_fdivN pins s σ H _ _ v u Q I rx ry ⟨i, j, rfl, rfl, ⟨hj, Nat.le_of_ble_eq_true c2⟩, q⟩
      · have hp : 0 < j := of_decide_eq_true c2
        refine op_fdivW pins s σ H _ _ v u Q I rx ry ⟨i, j, rfl, rfl, ⟨hp, by have := log2_big c3; omega⟩, ?_⟩
        show Q (.int (i / j)) H
        rw [← Int.fdiv_eq_ediv_of_nonneg i (by omega : 0 ≤ j)]
        exact q
    · simp only [c] at h; cases h
  | mod =>
    unfold opI at h
    by_cases c : (j == 0) = true
    · simp only [c, if_true] at h; cases h
    · simp only [c] at h
      cases h
      exact op_modN pins s σ H _ _ v u Q I rx ry ⟨i, j, rfl, rfl, fun z => c (by rw [z]; rfl), q⟩
  | pow =>
    unfold opI at h
    by_cases c : powOk i j = true
    · simp only [c, if_true] at h
      cases h
      obtain ⟨t, rfl⟩ := rx
      obtain ⟨t', rfl⟩ := ry
      obtain ⟨h0, h1⟩ := pow_bits c
      exact PyProof.Rows.pow_int h0 h1 ⟨.int _, H, I.tok _, ⟨_, rfl⟩, q⟩
    · simp only [c] at h; cases h
  | xor => cases h; exact op_xor pins s σ H _ _ v u Q I rx ry ⟨i, j, rfl, rfl, q⟩
  | band => cases h; exact op_and pins s σ H _ _ v u Q I rx ry ⟨i, j, rfl, rfl, q⟩
  | bor => cases h; exact op_or pins s σ H _ _ v u Q I rx ry ⟨i, j, rfl, rfl, q⟩
  | shl => cases h
  | shr => cases h
theorem SqT.tup {K : PySem.W.Frag} {H : Hp} {a : Addr} {xs : List V} {o : Obj} (h : H a = some (.frz o (.tup xs)) ∧ o.dict = none) : SqT K H a xs := .inl (.inr ⟨o, h.1⟩)
theorem op_bin {o : Op} : OpR X (binaryOp (opOf o)) (rBin T o) := by
  intro pins s σ H x y v u Q I rx ry h
  obtain ⟨fr, ρ, m, a, b, r, m', rl, ra, rb, e, g⟩ := h
  -- lists
  have cat : ∀ {xs ys : List AV}, o = .add → lstI m a = some xs → lstI m b = some ys → newL fr (xs ++ ys) m = some (r, m') → wpAny (model X.prog X.w) X.A (binaryOp (opOf o) v u) (EP X pins σ Q) X.xe s := fun {xs ys} ho h1 h2 h3 => by
    subst ho
    obtain ⟨p, vs, rfl, hp, r1⟩ := lstI_ok rl h1 ra
    obtain ⟨q, ws, rfl, hq, r2⟩ := lstI_ok rl h2 rb
    obtain ⟨k1, k2⟩ := newL_ok h3 rl (r1.append r2) g
    exact op_cat pins s σ H _ _ v u Q I rx ry ⟨p, q, vs, ws, rfl, rfl, hp, hq, by rw [← List.length_append]; exact k1, k2⟩
  have rep : ∀ {xs : List AV} {k : Int}, o = .mul → lstI m a = some xs → b = .int k → (if (decide (-(2 ^ 62) < k) && decide (k < 2 ^ 62) && okN (xs.length * k.toNat)) = true then newL fr (List.replicate k.toNat xs).flatten m else none) = some (r, m') →
      wpAny (model X.prog X.w) X.A (binaryOp (opOf o) v u) (EP X pins σ Q) X.xe s := fun {xs k} ho h1 h2 h3 => by
    subst ho h2
    obtain ⟨p, vs, rfl, hp, r1⟩ := lstI_ok rl h1 ra
    cases rb
    by_cases c : (decide (-(2 ^ 62) < k) && decide (k < 2 ^ 62) && okN (xs.length * k.toNat)) = true
    · rw [if_pos c] at h3
      rw [Bool.and_eq_true, Bool.and_eq_true] at c
      have c1 : -(2 ^ 62) < k := of_decide_eq_true c.1.1
      have c2 : k < 2 ^ 62 := of_decide_eq_true c.1.2
      obtain ⟨k1, k2⟩ := newL_ok h3 rl (r1.rep k.toNat) g
      exact op_rep pins s σ H _ _ v u Q I rx ry ⟨p, k, vs, rfl, rfl, hp, by omega, by omega, by rw [← r1.length]; exact okN_le c.2, k2⟩
    · rw [if_neg c] at h3; cases h3
  cases a with
  | int i =>
    cases b with
    | int j =>
      cases ra
      cases rb
      obtain ⟨z, h1, h2⟩ := Option.map_eq_some_iff.mp (show (opI o i j).map (fun z => (AV.int z, m)) = some (r, m') from e)
      cases h2
      exact op_int I rx ry h1 (g ρ H _ (Nx.refl rl) (.int z))
    | _ => cases o <;> cases e
  | tup xs =>
    cases b with
    | tup ys =>
      cases o with
      | add =>
        cases ra with
        | tup h1 r1 =>
          cases rb with
          | tup h2 r2 =>
            have e' : mkT (xs ++ ys) m = some (r, m') := e
            obtain ⟨k1, k2⟩ := mkT_ok e' rl (r1.append r2) g
            have er : r = .tup (xs ++ ys) ∧ m' = m := by
              unfold mkT at e'
              split at e'
              · cases e'; exact ⟨rfl, rfl⟩
              · cases e'
            obtain ⟨e1, e2⟩ := er
            subst e1 e2
            refine ox_cat pins s σ H _ _ v u Q I rx ry ⟨_, _, _, _, rfl, rfl, SqT.tup h1, SqT.tup h2, by rw [← List.length_append]; exact k1, fun z => ?_, fun z => ?_, k2⟩
            · subst z
              cases r1
              exact g ρ H _ (Nx.refl rl) (.tup h2 r2)
            · subst z
              cases r2
              exact g ρ H _ (Nx.refl rl) (.tup h1 (by rw [List.append_nil]; exact r1))
      | _ => cases e
    | int k =>
      cases o with
      | mul =>
        have e' : (if (decide (2 ≤ k) && decide (k ≤ 1000) && Nat.ble xs.length 1000 && !xs.isEmpty) = true then some (AV.tup (List.replicate k.toNat xs).flatten, m) else none) = some (r, m') := e
        cases ra with
        | tup h1 r1 =>
          cases rb
          by_cases c : (decide (2 ≤ k) && decide (k ≤ 1000) && Nat.ble xs.length 1000 && !xs.isEmpty) = true
          · rw [if_pos c] at e'
            cases e'
            rw [Bool.and_eq_true, Bool.and_eq_true, Bool.and_eq_true] at c
            refine ox_rep pins s σ H _ _ v u Q I rx ry ⟨_, k, _, rfl, rfl, SqT.tup h1, fun z => ?_, of_decide_eq_true c.1.1.1, of_decide_eq_true c.1.1.2, ?_, fun p _ hp => ?_⟩
            · subst z
              cases r1
              exact absurd c.2 (by decide)
            · rw [← r1.length]; exact Nat.le_of_ble_eq_true c.1.2
            · exact g ρ _ _ (Nx.add rl hp) (.tup ⟨upd_same, rfl⟩ ((r1.rep _).mono rl.muts (Ext.add hp)))
          · rw [if_neg c] at e'; cases e'
      | _ => cases e
    | _ => cases o <;> cases e
  | str z =>
    cases b with
    | str z2 =>
      cases o with
      | add =>
        have e' : (if okN (z.length + z2.length) = true then some (AV.str (z ++ z2), m) else none) = some (r, m') := e
        cases ra
        cases rb
        by_cases c : okN (z.length + z2.length) = true
        · rw [if_pos c] at e'
          cases e'
          exact op_add_str pins s σ H _ _ v u Q I rx ry ⟨z, z2, rfl, rfl, okN_le c, g ρ H _ (Nx.refl rl) (.str _)⟩
        · rw [if_neg c] at e'; cases e'
      | _ => cases e
    | _ => cases o <;> cases e
  | fl xs =>
    cases b with
    | int k =>
      cases o with
      | mul => exact rep (xs := xs) rfl rfl rfl e
      | _ => cases e
    | fl ys =>
      cases o with
      | add => exact cat rfl rfl rfl e
      | _ => cases e
    | ref q =>
      cases o with
      | add =>
        have e' : (match lstI m (.ref q) with | some ys => newL fr (xs ++ ys) m | none => none) = some (r, m') := by
          revert e
          show (match Op.add, some xs, lstI m (.ref q) with | .add, some xs, some ys => newL fr (xs ++ ys) m | _, _, _ => none) = some (r, m') → _
          cases lstI m (.ref q) <;> exact id
        cases hq : lstI m (.ref q) with
        | none => rw [hq] at e'; cases e'
        | some ys =>
          rw [hq] at e'
          exact cat rfl rfl hq e'
      | _ => cases e
    | _ => cases o <;> cases e
  | ref p =>
    cases hp : lstI m (.ref p) with
    | none =>
      exfalso
      revert e
      cases b <;> cases o <;> simp [binV, hp]
    | some xs =>
      cases b with
      | int k =>
        cases o with
        | mul =>
          refine rep (xs := xs) rfl hp rfl ?_
          revert e
          show (match Op.mul, lstI m (.ref p) with | .mul, some xs => _ | _, _ => none) = _ → _
          rw [hp]
          exact id
        | _ => revert e; simp [binV]
      | fl ys =>
        cases o with
        | add =>
          refine cat (xs := xs) (ys := ys) rfl hp rfl ?_
          revert e
          show (match Op.add, lstI m (.ref p), some ys with | .add, some xs, some ys => newL fr (xs ++ ys) m | _, _, _ => none) = _ → _
          rw [hp]
          exact id
        | _ => revert e; simp [binV]
      | ref q =>
        cases hq : lstI m (.ref q) with
        | none => exfalso; revert e; cases o <;> simp [binV, hp, hq]
        | some ys =>
          cases o with
          | add =>
            refine cat (xs := xs) (ys := ys) rfl hp hq ?_
            revert e
            show (match Op.add, lstI m (.ref p), lstI m (.ref q) with | .add, some xs, some ys => newL fr (xs ++ ys) m | _, _, _ => none) = _ → _
            rw [hp, hq]
            exact id
          | _ => revert e; simp [binV]
      | _ => revert e; cases o <;> simp [binV, hp, lstI]
  | _ => exfalso; revert e; cases b <;> cases o <;> simp [binV, lstI]
end

/-! ### data, for == -/
theorem toPs_map : ∀ xs : List AV, toPs xs = xs.map toP
  | [] => rfl
  | x :: xs => by rw [toPs, toPs_map xs, List.map_cons]
theorem optM_cons {α β : Type} {f : α → Option β} {x : α} {xs : List α} {ys : List β} (h : optM f (x :: xs) = some ys) : ∃ y r, f x = some y ∧ optM f xs = some r ∧ ys = y :: r := by
  unfold optM at h
  cases h1 : f x with
  | none => rw [h1] at h; cases h
  | some y =>
    cases h2 : optM f xs with
    | none => rw [h1, h2] at h; cases h
    | some r =>
      rw [h1, h2] at h
      cases h
      exact ⟨y, r, rfl, rfl, rfl⟩
theorem optM_nil {α β : Type} {f : α → Option β} {ys : List β} (h : optM f [] = some ys) : ys = [] := by cases h; rfl
/-- what frz gives is data of at most that depth -/
theorem frz_shape {m : AH} : ∀ (n : Nat) {v p : AV}, frz m n v = some p → (toP p).canLay0 = true ∧ (toP p).depth ≤ n
  | 0, _, _, h => by cases h
  | n + 1, v, p, h => by
    have row : ∀ {xs ps : List AV}, optM (frz m n) xs = some ps → PyData.canLayAll0 (toPs ps) = true ∧ PyData.depthAll (toPs ps) ≤ n := fun {xs ps} => by
      induction xs generalizing ps with
      | nil => intro h; rw [optM_nil h]; exact ⟨rfl, Nat.zero_le _⟩
      | cons x xs ih =>
        intro h
        obtain ⟨y, r, h1, h2, rfl⟩ := optM_cons h
        obtain ⟨a1, a2⟩ := frz_shape n h1
        obtain ⟨b1, b2⟩ := ih h2
        refine ⟨?_, ?_⟩
        · rw [toPs, PyData.canLayAll0, a1, b1]; rfl
        · rw [toPs, PyData.depthAll]; exact Nat.max_le.mpr ⟨a2, b2⟩
    cases v with
    | non => cases h; exact ⟨rfl, Nat.zero_le _⟩
    | bl b => cases h; exact ⟨rfl, Nat.zero_le _⟩
    | int i => cases h; exact ⟨rfl, Nat.zero_le _⟩
    | str x =>
      have h' : (if PyData.strOk x then some (AV.str x) else none) = some p := h
      by_cases c : PyData.strOk x = true
      · rw [if_pos c] at h'; cases h'
        exact ⟨by rw [toP, PyData.canLay0]; exact c, Nat.zero_le _⟩
      · rw [if_neg c] at h'; cases h'
    | tup xs =>
      obtain ⟨ps, h1, rfl⟩ := Option.map_eq_some_iff.mp (show (optM (frz m n) xs).map AV.tup = some p from h)
      obtain ⟨a1, a2⟩ := row h1
      exact ⟨by rw [toP, PyData.canLay0]; exact a1, by rw [toP, PyData.depth]; omega⟩
    | fl xs =>
      obtain ⟨ps, h1, rfl⟩ := Option.map_eq_some_iff.mp (show (optM (frz m n) xs).map AV.fl = some p from h)
      obtain ⟨a1, a2⟩ := row h1
      exact ⟨by rw [toP, PyData.canLay0]; exact a1, by rw [toP, PyData.depth]; omega⟩
    | sc xs => cases h
    | ref r =>
      have h' : (match getL m r with | some (_, xs) => (optM (frz m n) xs).map AV.fl | none => none) = some p := h
      cases hg : getL m r with
      | none => rw [hg] at h'; cases h'
      | some q =>
        obtain ⟨e, xs⟩ := q
        rw [hg] at h'
        obtain ⟨ps, h1, rfl⟩ := Option.map_eq_some_iff.mp h'
        obtain ⟨a1, a2⟩ := row h1
        exact ⟨by rw [toP, PyData.canLay0]; exact a1, by rw [toP, PyData.depth]; omega⟩
    | fn k => cases h
    | obj c xs => cases h
    | fd ks vs => cases h
theorem frz_shaped {m : AH} {v p : AV} (h : frz m 60 v = some p) : SeqAt.shaped (toP p) = true := by
  obtain ⟨h1, h2⟩ := frz_shape 60 h
  unfold SeqAt.shaped
  rw [h1, decide_eq_true (by omega)]
  rfl
inductive FI (m : AH) (n : Nat) : AV → Prop
  | non : FI m n .non
  | bl (b : Bool) : FI m n (.bl b)
  | int (i : Int) : FI m n (.int i)
  | str (x : Str) : FI m n (.str x)
  | tup {us ps : List AV} : optM (frz m n) us = some ps → FI m n (.tup ps)
  | fl {us ps : List AV} : optM (frz m n) us = some ps → FI m n (.fl ps)
theorem frz_inv {m : AH} : ∀ {n : Nat} {v p : AV}, frz m n v = some p → ∃ k, n = k + 1 ∧ FI m k p
  | 0, _, _, h => by cases h
  | n + 1, v, p, h => by
    refine ⟨n, rfl, ?_⟩
    cases v with
    | non => cases h; exact .non
    | bl b => cases h; exact .bl b
    | int i => cases h; exact .int i
    | str x =>
      have h' : (if PyData.strOk x then some (AV.str x) else none) = some p := h
      by_cases c : PyData.strOk x = true
      · rw [if_pos c] at h'; cases h'; exact .str x
      · rw [if_neg c] at h'; cases h'
    | tup xs =>
      obtain ⟨ps, h1, rfl⟩ := Option.map_eq_some_iff.mp (show (optM (frz m n) xs).map AV.tup = some p from h)
      exact .tup h1
    | fl xs =>
      obtain ⟨ps, h1, rfl⟩ := Option.map_eq_some_iff.mp (show (optM (frz m n) xs).map AV.fl = some p from h)
      exact .fl h1
    | sc xs => cases h
    | ref r =>
      have h' : (match getL m r with | some (_, xs) => (optM (frz m n) xs).map AV.fl | none => none) = some p := h
      cases hg : getL m r with
      | none => rw [hg] at h'; cases h'
      | some q =>
        obtain ⟨e, xs⟩ := q
        rw [hg] at h'
        obtain ⟨ps, h1, rfl⟩ := Option.map_eq_some_iff.mp h'
        exact .fl h1
    | fn k => cases h
    | obj c xs => cases h
    | fd ks vs => cases h
theorem all2_eqv {n k : Nat} {m m' : AH} (ih : ∀ {v w p q : AV}, frz m n v = some p → frz m' k w = some q → eqF n p q = PyData.eqv (toP p) (toP q)) :
    ∀ {us ps ws qs : List AV}, optM (frz m n) us = some ps → optM (frz m' k) ws = some qs → all2 (eqF n) ps qs = PyData.eqvAll (toPs ps) (toPs qs)
  | [], ps, [], qs, h1, h2 => by rw [optM_nil h1, optM_nil h2]; simp [all2, toPs, PyData.eqvAll]
  | [], ps, w :: ws, qs, h1, h2 => by
    obtain ⟨y, r, _, _, rfl⟩ := optM_cons h2
    rw [optM_nil h1]; simp [all2, toPs, PyData.eqvAll]
  | u :: us, ps, [], qs, h1, h2 => by
    obtain ⟨y, r, _, _, rfl⟩ := optM_cons h1
    rw [optM_nil h2]; simp [all2, toPs, PyData.eqvAll]
  | u :: us, ps, w :: ws, qs, h1, h2 => by
    obtain ⟨y, r, a1, a2, rfl⟩ := optM_cons h1
    obtain ⟨z, t, b1, b2, rfl⟩ := optM_cons h2
    show (eqF n y z && all2 (eqF n) r t) = PyData.eqvAll (toP y :: toPs r) (toP z :: toPs t)
    rw [ih a1 b1, all2_eqv ih a2 b2]
    simp [PyData.eqvAll]
/-- eqF is == of the data -/
theorem eqF_eqv {m m' : AH} : ∀ (n k : Nat) {v w p q : AV}, frz m n v = some p → frz m' k w = some q → eqF n p q = PyData.eqv (toP p) (toP q)
  | 0, _, _, _, _, _, h, _ => by cases h
  | n + 1, 0, _, _, _, _, _, h => by cases h
  | n + 1, k + 1, v, w, p, q, h1, h2 => by
    obtain ⟨n', e, f1⟩ := frz_inv h1
    cases e
    obtain ⟨k', e, f2⟩ := frz_inv h2
    cases e
    have ih : ∀ {v w p q : AV}, frz m n v = some p → frz m' k w = some q → eqF n p q = PyData.eqv (toP p) (toP q) := eqF_eqv n k
    cases f1 with
    | non => cases f2 <;> simp [eqF, toP, PyData.eqv]
    | bl b => cases f2 <;> simp [eqF, toP, PyData.eqv]
    | int i => cases f2 <;> simp [eqF, toP, PyData.eqv]
    | str x => cases f2 <;> simp [eqF, toP, PyData.eqv]
    | tup a =>
      cases f2 with
      | tup b => show all2 (eqF n) _ _ = _; rw [all2_eqv ih a b]; simp [toP, PyData.eqv]
      | _ => simp [eqF, toP, PyData.eqv]
    | fl a =>
      cases f2 with
      | fl b => show all2 (eqF n) _ _ = _; rw [all2_eqv ih a b]; simp [toP, PyData.eqv]
      | _ => simp [eqF, toP, PyData.eqv]
section
variable {T : Tb} {ρ : List Addr} {H : Hp} {m : AH}
theorem frz_dp (rl : Rl T ρ H m) : ∀ (n : Nat) {v p : AV} {x : V}, frz m n v = some p → Rep T ρ H v x → Dp T.K H x (toP p)
  | 0, _, _, _, h, _ => by cases h
  | n + 1, v, p, x, h, r => by
    have row : ∀ {xs ps : List AV} {vs : List V}, optM (frz m n) xs = some ps → Reps T ρ H xs vs → DpAll T.K H vs (toPs ps) := fun {xs ps vs} => by
      induction xs generalizing ps vs with
      | nil => intro h r; rw [optM_nil h]; cases r; exact .nil
      | cons x xs ih =>
        intro h r
        obtain ⟨y, t, h1, h2, rfl⟩ := optM_cons h
        cases r with
        | cons r1 r2 => exact .cons (frz_dp rl n h1 r1) (ih h2 r2)
    cases r with
    | non => cases h; exact .non
    | bl b => cases h; exact .bl b
    | int i => cases h; exact .int i
    | str x =>
      have h' : (if PyData.strOk x then some (AV.str x) else none) = some p := h
      by_cases c : PyData.strOk x = true
      · rw [if_pos c] at h'; cases h'; exact .str x
      · rw [if_neg c] at h'; cases h'
    | @tup xs _ _ _ h1 r1 =>
      obtain ⟨ps, h2, rfl⟩ := Option.map_eq_some_iff.mp (show (optM (frz m n) xs).map AV.tup = some p from h)
      exact .tup (SqT.tup h1) (row h2 r1)
    | @fl xs _ _ h1 _ r1 =>
      obtain ⟨ps, h2, rfl⟩ := Option.map_eq_some_iff.mp (show (optM (frz m n) xs).map AV.fl = some p from h)
      exact .lst (SqL.of h1) (row h2 r1)
    | sc _ _ => cases h
    | @ref q _ ha =>
      have h' : (match getL m q with | some (_, xs) => (optM (frz m n) xs).map AV.fl | none => none) = some p := h
      cases hg : getL m q with
      | none => rw [hg] at h'; cases h'
      | some y =>
        obtain ⟨e, xs⟩ := y
        rw [hg] at h'
        obtain ⟨ps, h2, rfl⟩ := Option.map_eq_some_iff.mp h'
        obtain ⟨vs, h3, h4⟩ := rl.list hg ha
        exact .lst (SqL.of h3) (row h2 h4)
    | fn _ => cases h
    | obj _ _ _ => cases h
    | fd _ _ _ _ => cases h
theorem frzs_dp (rl : Rl T ρ H m) (n : Nat) : ∀ {xs ps : List AV} {vs : List V}, optM (frz m n) xs = some ps → Reps T ρ H xs vs → DpAll T.K H vs (toPs ps)
  | [], _, _, h, r => by rw [optM_nil h]; cases r; exact .nil
  | x :: xs, _, _, h, r => by
    obtain ⟨y, t, h1, h2, rfl⟩ := optM_cons h
    cases r with
    | cons r1 r2 => exact .cons (frz_dp rl n h1 r1) (frzs_dp rl n h2 r2)
theorem frzs_lay {n : Nat} : ∀ {xs ps : List AV}, optM (frz m n) xs = some ps → PyData.canLayAll0 (toPs ps) = true ∧ PyData.depthAll (toPs ps) ≤ n
  | [], _, h => by rw [optM_nil h]; exact ⟨rfl, Nat.zero_le _⟩
  | x :: xs, _, h => by
    obtain ⟨y, t, h1, h2, rfl⟩ := optM_cons h
    obtain ⟨a1, a2⟩ := frz_shape n h1
    obtain ⟨b1, b2⟩ := frzs_lay h2
    exact ⟨by rw [toPs, PyData.canLayAll0, a1, b1]; rfl, by rw [toPs, PyData.depthAll]; exact Nat.max_le.mpr ⟨a2, b2⟩⟩
theorem any_eqv {n k : Nat} {m m' : AH} {w q : AV} (hq : frz m' k w = some q) (hn : ∀ {v p : AV}, frz m n v = some p → eqF n p q = PyData.eqv (toP p) (toP q)) :
    ∀ {xs ps : List AV}, optM (frz m n) xs = some ps → (ps.any fun b => eqF n b q) = ((toPs ps).any fun z => PyData.eqv z (toP q))
  | [], _, h => by rw [optM_nil h]; rfl
  | x :: xs, _, h => by
    obtain ⟨y, t, h1, h2, rfl⟩ := optM_cons h
    rw [toPs, List.any_cons, List.any_cons, hn h1, any_eqv hq hn h2]
end

/-! ### comparisons -/
def cmOf : Cm → CmpOp
  | .eq => .Eq | .ne => .NotEq | .lt => .Lt | .le => .LtE | .gt => .Gt | .ge => .GtE | .inn => .In | .nin => .NotIn | .isn => .Is | .isnot => .IsNot
def rCm (T : Tb) (o : Cm) : R2 := fun x y H Q => ∃ ρ m a b c, Rl T ρ H m ∧ Rep T ρ H a x ∧ Rep T ρ H b y ∧ cmV o a b m = some c ∧ Q (.bl c) H
theorem non_iff {T : Tb} {ρ : List Addr} {H : Hp} {a : AV} {x : V} (r : Rep T ρ H a x) : isNon a = decide (x = V.non) := by
  cases r <;> simp [isNon]
section
variable {X : Cx} {T : Tb}
theorem op_cmp (hK : X.K = T.K) (hu : X.A.units + 65 < cLine) {o : Cm} : OpR X (compareOp (cmOf o)) (rCm T o) := by
  intro pins s σ H x y v u Q I rx ry h
  obtain ⟨ρ, m, a, b, c, rl, ra, rb, e, g⟩ := h
  have eq2 : ∀ {d : Bool}, eqV m a b = some d → ∃ p q, Dp X.K H x (toP p) ∧ Dp X.K H y (toP q) ∧ SeqAt.shaped (toP p) = true ∧ SeqAt.shaped (toP q) = true ∧ d = PyData.eqv (toP p) (toP q) := fun {d} h => by
    unfold eqV at h
    cases h1 : frz m 60 a with
    | none => rw [h1] at h; cases h
    | some p =>
      cases h2 : frz m 60 b with
      | none => rw [h1, h2] at h; cases h
      | some q =>
        rw [h1, h2] at h
        cases h
        exact ⟨p, q, by rw [hK]; exact frz_dp rl 60 h1 ra, by rw [hK]; exact frz_dp rl 60 h2 rb, frz_shaped h1, frz_shaped h2, eqF_eqv 60 60 h1 h2⟩
  have in2 : ∀ {ys : List AV} {d : Bool}, items m b = some ys → inF m a ys = some d → ∃ p qs t, Dp X.K H x (toP p) ∧ SeqAt.shaped (toP p) = true ∧ PyData.canLayAll0 (toPs qs) = true ∧ PyData.depthAll (toPs qs) ≤ 60 ∧ Dp X.K H y t ∧ (t = .list (toPs qs) ∨ t = .tuple (toPs qs)) ∧ d = (toPs qs).any fun z => PyData.eqv z (toP p) := fun {ys d} hi h => by
    unfold inF at h
    cases h1 : frz m 60 a with
    | none => rw [h1] at h; cases h
    | some p =>
      cases h2 : optM (frz m 60) ys with
      | none => rw [h1, h2] at h; cases h
      | some qs =>
        rw [h1, h2] at h
        cases h
        obtain ⟨l1, l2⟩ := frzs_lay h2
        obtain ⟨ad, vs, rfl, r1, q1⟩ := items_ok rl hi rb
        have dall : DpAll X.K H vs (toPs qs) := by rw [hK]; exact frzs_dp rl 60 h2 r1
        refine ⟨p, qs, ?_⟩
        have any : (qs.any fun b => eqF 60 b p) = ((toPs qs).any fun z => PyData.eqv z (toP p)) := any_eqv h1 (fun h => eqF_eqv 60 60 h h1) h2
        rcases q1 with ⟨q1, _⟩ | ⟨⟨o1, q1⟩, _⟩
        · exact ⟨.list (toPs qs), by rw [hK]; exact frz_dp rl 60 h1 ra, frz_shaped h1, l1, l2, .lst (by rw [hK]; exact q1) dall, .inl rfl, any⟩
        · exact ⟨.tuple (toPs qs), by rw [hK]; exact frz_dp rl 60 h1 ra, frz_shaped h1, l1, l2, .tup (SqT.tup q1) dall, .inr rfl, any⟩
  have room : ∀ {d : PyData} {ds : List PyData}, SeqAt.shaped d = true → X.A.units + 1 + min (PyData.depthAll ds) d.depth < cLine := fun {d ds} h => by
    have := SeqAt.depth_of_shaped h
    have h2 : min (PyData.depthAll ds) d.depth ≤ d.depth := Nat.min_le_right _ _
    omega
  cases o with
  | eq =>
    obtain ⟨p, q, d1, d2, s1, s2, rfl⟩ := eq2 (show eqV m a b = some c from e)
    exact op_eqD (by omega) pins s σ H x y v u Q I rx ry ⟨_, _, d1, d2, s1, s2, g⟩
  | ne =>
    obtain ⟨d, h1, rfl⟩ := Option.map_eq_some_iff.mp (show (eqV m a b).map (!·) = some c from e)
    obtain ⟨p, q, d1, d2, s1, s2, rfl⟩ := eq2 h1
    exact op_neD (by omega) pins s σ H x y v u Q I rx ry ⟨_, _, d1, d2, s1, s2, g⟩
  | inn =>
    have e' : (match items m b with | some ys => inF m a ys | none => none) = some c := e
    cases hi : items m b with
    | none => rw [hi] at e'; cases e'
    | some ys =>
      rw [hi] at e'
      obtain ⟨p, qs, t, d1, s1, l1, l2, d2, ht, rfl⟩ := in2 hi e'
      obtain ⟨as, r1⟩ := Dp.reads I _ x v d1 rx
      obtain ⟨bs, r2⟩ := Dp.reads I _ y u d2 ry
      rcases ht with rfl | rfl
      · exact SeqAt.in_list_reads r2 r1 l1 (SeqAt.canLay_of_shaped s1) (room s1) ⟨.bl _, H, I, rfl, g⟩
      · exact SeqAt.in_tuple_reads r2 r1 l1 (SeqAt.canLay_of_shaped s1) (room s1) ⟨.bl _, H, I, rfl, g⟩
  | nin =>
    have e' : (match items m b with | some ys => (inF m a ys).map (!·) | none => none) = some c := e
    cases hi : items m b with
    | none => rw [hi] at e'; cases e'
    | some ys =>
      rw [hi] at e'
      obtain ⟨d, h1, rfl⟩ := Option.map_eq_some_iff.mp e'
      obtain ⟨p, qs, t, d1, s1, l1, l2, d2, ht, rfl⟩ := in2 hi h1
      obtain ⟨as, r1⟩ := Dp.reads I _ x v d1 rx
      obtain ⟨bs, r2⟩ := Dp.reads I _ y u d2 ry
      rcases ht with rfl | rfl
      · exact SeqAt.notIn_list_reads r2 r1 l1 (SeqAt.canLay_of_shaped s1) (room s1) ⟨.bl _, H, I, rfl, g⟩
      · exact SeqAt.notIn_tuple_reads r2 r1 l1 (SeqAt.canLay_of_shaped s1) (room s1) ⟨.bl _, H, I, rfl, g⟩
  | isn =>
    cases b with
    | non =>
      cases rb
      have e' : some (isNon a) = some c := e
      cases e'
      rw [non_iff ra] at g
      exact op_isN pins s σ H x _ v u Q I rx ry ⟨rfl, g⟩
    | bl b =>
      cases a <;> first | (cases e; done) | skip
      cases ra; cases rb; cases e
      exact L2.op_is_bl pins s σ H _ _ v u Q I rx ry ⟨_, _, rfl, rfl, g⟩
    | _ => cases a <;> cases e
  | isnot =>
    cases b with
    | non =>
      cases rb
      have e' : some (!isNon a) = some c := e
      cases e'
      rw [non_iff ra] at g
      exact op_notN pins s σ H x _ v u Q I rx ry ⟨rfl, g⟩
    | bl b =>
      cases a <;> first | (cases e; done) | skip
      cases ra; cases rb; cases e
      exact L2.op_isnot_bl pins s σ H _ _ v u Q I rx ry ⟨_, _, rfl, rfl, g⟩
    | _ => cases a <;> cases e
  | lt =>
    cases a <;> cases b <;> first | (cases e; done) | skip
    cases ra; cases rb; cases e
    exact op_lt pins s σ H _ _ v u Q I rx ry ⟨_, _, rfl, rfl, g⟩
  | le =>
    cases a <;> cases b <;> first | (cases e; done) | skip
    cases ra; cases rb; cases e
    exact op_le pins s σ H _ _ v u Q I rx ry ⟨_, _, rfl, rfl, g⟩
  | gt =>
    cases a <;> cases b <;> first | (cases e; done) | skip
    cases ra; cases rb; cases e
    exact op_gt pins s σ H _ _ v u Q I rx ry ⟨_, _, rfl, rfl, g⟩
  | ge =>
    cases a <;> cases b <;> first | (cases e; done) | skip
    cases ra; cases rb; cases e
    exact op_ge pins s σ H _ _ v u Q I rx ry ⟨_, _, rfl, rfl, g⟩
end
end Mi
set_option Elab.async false
set_option linter.all false
set_option maxRecDepth 100000
set_option maxHeartbeats 4000000
/-! Mini: the order of nested tuples: sorted, least -/
namespace Mi
open PySem PySem.Spec PyProof.Rows L2
abbrev leA (a b : AV) : Bool := PySem.W.dataLe false toP a b
theorem leA_lt (a b : AV) : leA a b = !ltA b a := rfl
theorem leA_tot : PySem.W.TotalLe leA := PySem.W.sortLe_total _ _ _
theorem insA_perm (x : AV) : ∀ ys : List AV, (insA x ys).Perm (x :: ys)
  | [] => List.Perm.refl _
  | y :: ys => by
    unfold insA
    split
    · exact ((insA_perm x ys).cons y).trans (List.Perm.swap x y ys)
    · exact List.Perm.refl _
theorem lt_le {x y : AV} (h : ltA y x = true) : leA y x = true := by
  rcases leA_tot.total y x with q | q
  · exact q
  · rw [leA_lt, h] at q; cases q
theorem insA_srt (x : AV) : ∀ {ys : List AV}, ys.Pairwise (fun a b => leA a b = true) → (insA x ys).Pairwise (fun a b => leA a b = true)
  | [], _ => by simp [insA]
  | y :: ys, h => by
    unfold insA
    obtain ⟨h1, h2⟩ := List.pairwise_cons.mp h
    split
    · rename_i c
      refine List.pairwise_cons.mpr ⟨fun z hz => ?_, insA_srt x h2⟩
      rcases List.mem_cons.mp ((insA_perm x ys).mem_iff.mp hz) with rfl | hz
      · exact lt_le c
      · exact h1 z hz
    · rename_i c
      have c' : leA x y = true := by rw [leA_lt, Bool.not_eq_true'] ; simpa using c
      refine List.pairwise_cons.mpr ⟨fun z hz => ?_, h⟩
      rcases List.mem_cons.mp hz with rfl | hz
      · exact c'
      · exact leA_tot.trans _ _ _ c' (h1 z hz)
theorem sortA_srt : ∀ xs : List AV, (sortA xs).Pairwise (fun a b => leA a b = true)
  | [] => List.Pairwise.nil
  | x :: xs => insA_srt x (sortA_srt xs)
theorem insA_cls (c x : AV) : ∀ ys : List AV, (insA x ys).filter (PySem.W.sameRank leA c) = (x :: ys).filter (PySem.W.sameRank leA c)
  | [] => rfl
  | y :: ys => by
    unfold insA
    split
    · rename_i q
      have ih := insA_cls c x ys
      by_cases hx : PySem.W.sameRank leA c x = true
      · have hy : ¬ PySem.W.sameRank leA c y = true := fun hy => by
          unfold PySem.W.sameRank at hx hy
          rw [Bool.and_eq_true] at hx hy
          have := leA_tot.trans _ _ _ hx.2 hy.1
          rw [leA_lt, q] at this
          cases this
        rw [List.filter_cons_of_neg hy, ih, List.filter_cons_of_pos hx, List.filter_cons_of_pos hx, List.filter_cons_of_neg hy]
      · rw [List.filter_cons_of_neg hx] at ih ⊢
        by_cases hy : PySem.W.sameRank leA c y = true
        · rw [List.filter_cons_of_pos hy, List.filter_cons_of_pos hy, ih]
        · rw [List.filter_cons_of_neg hy, List.filter_cons_of_neg hy, ih]
    · rfl
theorem sortA_cls (c : AV) : ∀ xs : List AV, (sortA xs).filter (PySem.W.sameRank leA c) = xs.filter (PySem.W.sameRank leA c)
  | [] => rfl
  | x :: xs => by
    have ih := sortA_cls c xs
    show (insA x (sortA xs)).filter _ = _
    rw [insA_cls]
    by_cases hx : PySem.W.sameRank leA c x = true
    · rw [List.filter_cons_of_pos hx, List.filter_cons_of_pos hx, ih]
    · rw [List.filter_cons_of_neg hx, List.filter_cons_of_neg hx, ih]
theorem sortA_eq (xs : List AV) : xs.mergeSort leA = sortA xs := (PySem.W.sort_unique leA_tot (sortA_srt xs) fun c => sortA_cls c xs).symm
/-! ### the plain things that are ordered -/
theorem dp_ord {T : Tb} {ρ : List Addr} {H : Hp} : ∀ (n : Nat) {v : AV} {x : V}, ordV n v = true → Rep T ρ H v x → Dp T.K H x (toP v)
  | 0, _, _, h, _ => nomatch h
  | n + 1, v, x, h, r => by
    have row : ∀ {xs : List AV} {vs : List V}, xs.all (ordV n) = true → Reps T ρ H xs vs → DpAll T.K H vs (toPs xs) := fun {xs vs} => by
      induction xs generalizing vs with
      | nil => intro _ r; cases r; exact .nil
      | cons y ys ih =>
        intro h r
        cases r with
        | cons r1 r2 =>
          rw [List.all_cons, Bool.and_eq_true] at h
          exact .cons (dp_ord n h.1 r1) (ih h.2 r2)
    cases r <;> first | (cases h; done) | skip
    · exact .int _
    · exact .str _
    · rename_i h1 h2
      exact .tup (.inl (.inr ⟨_, h1.1⟩)) (row h h2)
theorem depth_ord : ∀ (n : Nat) {v : AV}, ordV n v = true → (toP v).depth ≤ n
  | 0, _, h => nomatch h
  | n + 1, v, h => by
    have row : ∀ {xs : List AV}, xs.all (ordV n) = true → PyData.depthAll (toPs xs) ≤ n := fun {xs} => by
      induction xs with
      | nil => intro _; show PyData.depthAll [] ≤ _; rw [PyData.depthAll]; omega
      | cons y ys ih =>
        intro h
        rw [List.all_cons, Bool.and_eq_true] at h
        have h1 := depth_ord n h.1
        have h2 := ih h.2
        show PyData.depthAll (toP y :: toPs ys) ≤ _
        rw [PyData.depthAll]
        omega
    cases v <;> first | (cases h; done) | skip
    · show PyData.depth (.int _) ≤ _; rw [PyData.depth]; omega
    · show PyData.depth (.str _) ≤ _; rw [PyData.depth]; omega
    · rename_i xs
      have := row (xs := xs) h
      show PyData.depth (.tuple (toPs xs)) ≤ _
      rw [PyData.depth]
      omega
mutual
theorem toP_inj : ∀ (n k : Nat) (a b : AV), ordV n a = true → ordV k b = true → toP a = toP b → a = b
  | 0, _, _, _, h, _, _ => nomatch h
  | _ + 1, 0, _, _, _, h, _ => nomatch h
  | n + 1, k + 1, a, b, ha, hb, e => by
    cases a <;> first | (cases ha; done) | skip
    all_goals cases b <;> first | (cases hb; done) | (cases e; done) | skip
    · cases e; rfl
    · cases e; rfl
    · rename_i xs ys
      have e' : toPs xs = toPs ys := by
        have : PyData.tuple (toPs xs) = PyData.tuple (toPs ys) := e
        injection this
      rw [toPs_inj n k xs ys ha hb e']
theorem toPs_inj : ∀ (n k : Nat) (a b : List AV), a.all (ordV n) = true → b.all (ordV k) = true → toPs a = toPs b → a = b
  | _, _, [], [], _, _, _ => rfl
  | _, _, [], _ :: _, _, _, e => nomatch e
  | _, _, _ :: _, [], _, _, e => nomatch e
  | n, k, x :: xs, y :: ys, ha, hb, e => by
    rw [List.all_cons, Bool.and_eq_true] at ha hb
    have e' : toP x :: toPs xs = toP y :: toPs ys := e
    injection e' with e1 e2
    rw [toP_inj n k x y ha.1 hb.1 e1, toPs_inj n k xs ys ha.2 hb.2 e2]
end
theorem each_of {xs : List AV} {T : Tb} {ρ : List Addr} {H : Hp} : ∀ {vs : List V} {us : List Value}, Reps T ρ H xs vs → Vals vs us → PySem.W.EachIs (fun (v : Value) (b : AV × V) => RelV b.2 v) us (xs.zip vs) := by
  induction xs with
  | nil => intro vs us r rv; cases r; cases rv; exact .nil
  | cons x xs ih =>
    intro vs us r rv
    cases r with
    | cons r1 r2 =>
      cases rv with
      | cons q1 q2 => exact .cons q1 (ih r2 q2)
theorem reps_zip {T : Tb} {ρ : List Addr} {H : Hp} : ∀ {xs : List AV} {vs : List V}, Reps T ρ H xs vs → ∀ p ∈ xs.zip vs, Rep T ρ H p.1 p.2
  | _, _, .nil, _, h => nomatch h
  | _, _, .cons r1 r2, p, h => by
    rw [List.zip_cons_cons] at h
    rcases List.mem_cons.mp h with rfl | h
    · exact r1
    · exact reps_zip r2 p h
theorem reps_of {T : Tb} {ρ : List Addr} {H : Hp} : ∀ {L : List (AV × V)}, (∀ p ∈ L, Rep T ρ H p.1 p.2) → Reps T ρ H (L.map Prod.fst) (L.map Prod.snd)
  | [], _ => .nil
  | p :: L, h => .cons (h p List.mem_cons_self) (reps_of fun q hq => h q (List.mem_cons_of_mem _ hq))
theorem vals_of {L : List (AV × V)} : ∀ {us : List Value}, PySem.W.EachIs (fun (v : Value) (b : AV × V) => RelV b.2 v) us L → Vals (L.map Prod.snd) us := by
  induction L with
  | nil => intro us e; cases e; exact .nil
  | cons p L ih =>
    intro us e
    cases e with
    | cons h t => exact .cons h (ih t)
section
variable {X : Cx} {T : Tb}
theorem reads_ord {pins : List (Addr × Obj)} {σ : L2.St} {H : Hp} {s : Shared} (hK : X.K = T.K) (I : Inv X pins σ H s) {ρ : List Addr} : ∀ {xs : List AV} {vs : List V} {us : List Value}, xs.all (ordV 8) = true → Reps T ρ H xs vs → Vals vs us → PySem.W.EachIs (fun (v : Value) (b : AV × V) => ∃ as, Reads s.heap v (toP b.1) as) us (xs.zip vs)
  | [], _, _, _, .nil, .nil => .nil
  | x :: xs, _, _, h, .cons r1 r2, .cons q1 q2 => by
    rw [List.all_cons, Bool.and_eq_true] at h
    exact .cons (Dp.reads I _ _ _ (by rw [hK]; exact dp_ord 8 h.1 r1) q1) (reads_ord hK I h.2 r2 q2)
theorem fst_zip {T : Tb} {ρ : List Addr} {H : Hp} {xs : List AV} {vs : List V} (r : Reps T ρ H xs vs) : (xs.zip vs).map Prod.fst = xs := List.map_fst_zip (Nat.le_of_eq r.length)
theorem alk_of {xs : List AV} (h : alkA xs = true) : ∀ a ∈ xs, ∀ b ∈ xs, PySem.W.alike (toP a) (toP b) = true := fun a ha b hb => List.all_eq_true.mp (List.all_eq_true.mp h a ha) b hb
/-- sorted(xs), xs a list of things that are ordered -/
theorem sorted_ordA (hK : X.K = T.K) (hu : X.A.units + 65 < cLine) {pins : List (Addr × Obj)} {σ : L2.St} {H : Hp} {s : Shared} {ρ : List Addr} {xs : List AV} {vs : List V} {p : Addr} {Q : VK} (I : Inv X pins σ H s) (hp : H p = some (.lst vs)) (rx : Reps T ρ H xs vs) (ho : ordA xs = true) (hs : srtA xs = true)
    (q : ∀ ws l, ws.length = vs.length → Reps T ρ H (sortA xs) ws → H l = none → Q (.ref l) (upd H l (.lst ws))) : wpAny (model X.prog X.w) X.A (PySem.call (.builtin "sorted") [.ref p]) (EP X pins σ Q) X.xe s := by
  obtain ⟨its, rv, hl, hz⟩ := I.list (show SqL X.K H p vs from SqL.of hp)
  obtain ⟨h1, h2⟩ := Bool.and_eq_true_iff.mp ho
  have hfst := fst_zip rx
  have hmem : ∀ b ∈ xs.zip vs, b.1 ∈ xs := fun b hb => by
    have : b.1 ∈ (xs.zip vs).map Prod.fst := List.mem_map.mpr ⟨b, hb, rfl⟩
    rw [hfst] at this
    exact this
  have hlen : (xs.zip vs).length = vs.length := by rw [List.length_zip, rx.length, Nat.min_self]
  refine PySem.W.sorted_data (bs := xs.zip vs) (enc := fun b => toP b.1) hl.isList (each_of rx rv) (reads_ord hK I h1 rx rv) (fun d hd d' hd' => ?_) ?_ (by rw [hlen]; exact hz) (fun b hb => ?_) fun out ho eo => ?_
  · obtain ⟨b, hb, rfl⟩ := List.mem_map.mp hd
    obtain ⟨c, hc, rfl⟩ := List.mem_map.mp hd'
    exact alk_of h2 _ (hmem b hb) _ (hmem c hc)
  · rcases Bool.or_eq_true_iff.mp hs with h | h
    · refine .inl fun d hd => ?_
      obtain ⟨b, hb, rfl⟩ := List.mem_map.mp hd
      have := List.all_eq_true.mp h _ (hmem b hb)
      cases hb1 : b.1 <;> rw [hb1] at this <;> first | (cases this; done) | skip
      rename_i ys
      cases ys with
      | nil => cases this
      | cons y ys => exact ⟨_, _, rfl⟩
    · refine .inr fun d hd => ?_
      obtain ⟨b, hb, rfl⟩ := List.mem_map.mp hd
      have := List.all_eq_true.mp h _ (hmem b hb)
      show toP b.1 ≠ _ ∧ ∀ xs, toP b.1 ≠ _
      cases hb1 : b.1 <;> rw [hb1] at this <;> first | (cases this; done) | exact ⟨(fun z => nomatch z), fun _ z => nomatch z⟩
  · have := depth_ord 8 (List.all_eq_true.mp h1 _ (hmem b hb))
    show X.A.units + 2 + (toP b.1).depth < cLine
    omega
  · obtain ⟨ep, he'⟩ := PyProof.Rows.sortedAll_at s.heap its out.toArray
    have e1 : ((xs.zip vs).mergeSort (PySem.W.dataLe false fun b => toP b.1)).map Prod.fst = sortA xs := by
      have z : ((xs.zip vs).mergeSort (PySem.W.dataLe false fun b => toP b.1)).map Prod.fst = ((xs.zip vs).map Prod.fst).mergeSort leA := PySem.W.sort_maps (r := PySem.W.dataLe false fun b : AV × V => toP b.1) (s := leA) Prod.fst (fun _ _ _ _ => rfl)
      rw [z, hfst, sortA_eq]
    have hr := reps_of (L := (xs.zip vs).mergeSort (PySem.W.dataLe false fun b => toP b.1)) fun b hb => reps_zip rx b ((List.mergeSort_perm _ _).mem_iff.mp hb)
    rw [e1] at hr
    have hw : (((xs.zip vs).mergeSort (PySem.W.dataLe false fun b => toP b.1)).map Prod.snd).length = vs.length := by
      rw [List.length_map, (List.mergeSort_perm _ _).length_eq, hlen]
    exact ⟨.ref _, upd H (s.heap.objs.size + 1) (.lst _), I.laid (t' := s.toks) (fun _ _ => PyProof.Rows.sortedAll_old) (Nat.le_succ _) ⟨by rw [hw]; exact hz, out, ep, vals_of eo, he'⟩, rfl, q _ _ hw hr (I.hok.fresh (Nat.le_succ _))⟩
theorem minA_min (a : AV) (xs : List AV) : toP (minA a xs) = PySem.W.minD (toP a) (xs.map toP) := by
  unfold minA PySem.W.minD
  induction xs generalizing a with
  | nil => rfl
  | cons y ys ih =>
    rw [List.foldl_cons, List.map_cons, List.foldl_cons, ih]
    congr 1
    show toP (if ltA y a = true then y else a) = if PySem.W.dataLt (toP y) (toP a) = true then toP y else toP a
    unfold ltA
    split <;> rfl
theorem minA_mem (a : AV) (xs : List AV) : minA a xs ∈ a :: xs := by
  unfold minA
  induction xs generalizing a with
  | nil => exact List.mem_cons_self
  | cons y ys ih =>
    rw [List.foldl_cons]
    have := ih (if ltA y a = true then y else a)
    rcases List.mem_cons.mp this with h | h
    · rw [h]
      split
      · exact List.mem_cons_of_mem _ List.mem_cons_self
      · exact List.mem_cons_self
    · exact List.mem_cons_of_mem _ (List.mem_cons_of_mem _ h)
theorem depthAll_ord : ∀ {xs : List AV}, xs.all (ordV 8) = true → PyData.depthAll (xs.map toP) ≤ 8
  | [], _ => by show PyData.depthAll [] ≤ _; rw [PyData.depthAll]; omega
  | y :: ys, h => by
    rw [List.all_cons, Bool.and_eq_true] at h
    have h1 := depth_ord 8 h.1
    have h2 := depthAll_ord h.2
    show PyData.depthAll (toP y :: ys.map toP) ≤ _
    rw [PyData.depthAll]
    omega
theorem readsAll_ord {h : Heap} : ∀ {xs : List AV} {vs : List V} {us : List Value}, xs.length = vs.length → PySem.W.EachIs (fun (v : Value) (b : AV × V) => ∃ as, Reads h v (toP b.1) as) us (xs.zip vs) → ∃ as, ReadsAll h us (xs.map toP) as
  | [], _, us, _, e => by
    have e' : PySem.W.EachIs (fun (v : Value) (b : AV × V) => ∃ as, Reads h v (toP b.1) as) us [] := e
    cases e'
    exact ⟨_, .nil⟩
  | x :: xs, [], _, hl, _ => by simp at hl
  | x :: xs, v :: vs, us, hl, e => by
    rw [List.zip_cons_cons] at e
    cases e with
    | cons e1 e2 =>
      obtain ⟨as, r1⟩ := e1
      obtain ⟨bs, r2⟩ := readsAll_ord (by simpa using hl) e2
      exact ⟨_, .cons r1 r2⟩
/-- min(xs), xs a list of things that are ordered -/
theorem min_ordA (hK : X.K = T.K) (hc : X.calm = true) (hu : X.A.units + 65 < cLine) {pins : List (Addr × Obj)} {σ : L2.St} {H : Hp} {s : Shared} {ρ : List Addr} {a : AV} {xs : List AV} {vs : List V} {p : Addr} {Q : VK} (I : Inv X pins σ H s) (hp : H p = some (.lst vs)) (rx : Reps T ρ H (a :: xs) vs) (ho : ordA (a :: xs) = true)
    (q : ∀ w, Rep T ρ H (minA a xs) w → Q w H) : wpAny (model X.prog X.w) X.A (PySem.call (.builtin "min") [.ref p]) (EP X pins σ Q) X.xe s := by
  obtain ⟨its, rv, hl, hz⟩ := I.list (show SqL X.K H p vs from SqL.of hp)
  obtain ⟨h1, h2⟩ := Bool.and_eq_true_iff.mp ho
  obtain ⟨as, hr⟩ := readsAll_ord rx.length (reads_ord hK I h1 rx rv)
  have hd := depthAll_ord h1
  refine PySem.W.min_list_data (vs := its.toArray) (x := toP a) (xs := xs.map toP) (I.ok.hd hc) hl.isList (by simpa using hr) ⟨fun x hx y hy => ?_, fun x hx => ?_⟩ (by rw [List.map_cons] at hd; omega) fun i v h' tk bs hv rd hk => ?_
  · rw [← List.map_cons] at hx hy
    obtain ⟨b, hb, rfl⟩ := List.mem_map.mp hx
    obtain ⟨c, hc', rfl⟩ := List.mem_map.mp hy
    exact alk_of h2 _ hb _ hc'
  · rw [← List.map_cons] at hx
    obtain ⟨b, hb, rfl⟩ := List.mem_map.mp hx
    have := List.all_eq_true.mp h1 b hb
    cases b <;> first | (cases this; done) | exact fun z => nomatch z
  · have hi : its[i]? = some v := by simpa using hv
    have hiv : i < vs.length := by rw [rv.length]; exact (List.getElem?_eq_some_iff.mp hi).1
    obtain ⟨w, hw⟩ : ∃ w, vs[i]? = some w := ⟨_, List.getElem?_eq_getElem hiv⟩
    obtain ⟨u, hu2, rw'⟩ := rv.get hw
    rw [hi] at hu2
    cases hu2
    have hlt : i < (a :: xs).length := by rw [rx.length]; exact (List.getElem?_eq_some_iff.mp hw).1
    have hx : (a :: xs)[i]? = some (a :: xs)[i] := List.getElem?_eq_getElem hlt
    obtain ⟨w2, hw2, rr⟩ := rx.get hx
    rw [hw] at hw2
    cases hw2
    have hm : (a :: xs)[i] ∈ a :: xs := List.getElem_mem hlt
    obtain ⟨cs, r3⟩ := Dp.reads I _ _ _ (by rw [hK]; exact dp_ord 8 (List.all_eq_true.mp h1 _ hm) rr) rw'
    have r4 := PyProof.Rows.Reads.keeps hk r3
    have hm2 := minA_mem a xs
    have e := PySem.W.alike_unique _ _ _ _ _ (alk_of h2 _ hm _ hm2) r4 (by rw [minA_min]; exact rd)
    have e2 := toP_inj 8 8 _ _ (List.all_eq_true.mp h1 _ hm) (List.all_eq_true.mp h1 _ hm2) e
    rw [e2] at rr
    exact ⟨w, H, I.kept hk, rw', q w rr⟩
end
end Mi
set_option Elab.async false
set_option linter.all false
set_option maxRecDepth 100000
set_option maxHeartbeats 4000000
/-! Mini: enumerate and zip over lists and tuples in any mix -/
namespace Mi
open PySem PySem.Spec PyProof.Rows L2

def IsSq (l : Bool) (h : Heap) (a : Addr) (its : Array Value) : Prop := match l with | true => h.IsList a its | false => h.IsTuple a its
def IsSi (l : Bool) (h : Heap) (it a : Addr) (i : Nat) : Prop := match l with | true => h.IsListIter it a i | false => h.IsTupleIter it a i
def SqS (K : PySem.W.Frag) (H : Hp) (l : Bool) (a : Addr) (xs : List V) : Prop := match l with | true => SqL K H a xs | false => SqT K H a xs
section
variable {X : Cx} {pins : List (Addr × Obj)} {σ : L2.St} {H : Hp} {s : Shared} {l : Bool} {a : Addr} {xs ys : List V}
theorem sq_of (I : Inv X pins σ H s) (h : SqS X.K H l a xs) : ∃ its : List Value, Vals xs its ∧ IsSq l s.heap a its.toArray ∧ xs.length ≤ sizeLine := by
  cases l with
  | true =>
    obtain ⟨its, r, p, z⟩ := I.list h
    exact ⟨its, r, p.isList, z⟩
  | false =>
    obtain ⟨its, r, p, z⟩ := I.tuple h
    exact ⟨its, r, p, z⟩
theorem sq_inj (I : Inv X pins σ H s) (h : SqS X.K H l a xs) (h' : SqS X.K H l a ys) : xs = ys := by
  cases l with
  | true => exact I.list_inj h h'
  | false => exact I.tuple_inj h h'
end
theorem IsSq.lt {l : Bool} {h : Heap} {a : Addr} {its : Array Value} (p : IsSq l h a its) : a < h.objs.size := by
  cases l with
  | true => obtain ⟨o, e, _⟩ := p; exact Heap.lt_size e
  | false => obtain ⟨o, e, _⟩ := p; exact Heap.lt_size e
theorem IsSi.obj {l : Bool} {h : Heap} {it a : Addr} {i : Nat} (p : IsSi l h it a i) : ∃ o, h.get? it = some o ∧ ∀ v, o.data ≠ .cell v := by
  cases l with
  | true => obtain ⟨o, e, _, d⟩ := p; exact ⟨o, e, fun v q => by rw [d] at q; cases q⟩
  | false => obtain ⟨o, e, _, d⟩ := p; exact ⟨o, e, fun v q => by rw [d] at q; cases q⟩
theorem IsSi.at {l : Bool} {h h' : Heap} {it a : Addr} {i : Nat} (p : IsSi l h it a i) (k : ∀ o, h.get? it = some o → h'.get? it = some o) : IsSi l h' it a i := by
  cases l with
  | true => exact Heap.IsListIter.at p k
  | false => exact Heap.IsTupleIter.at p k
theorem dr {prog : Program} {w : World} {A : Around} (hh : A.handled = none) (l : Bool) (it a : Addr) (hne : a ≠ it) (its : Array Value) :
    Draws prog w A it [it, a] its.size (fun i v => its[i]? = some v) (fun i h => IsSi l h it a i ∧ IsSq l h a its) := by
  cases l with
  | true => exact Draws.list hh it a hne its
  | false => exact Draws.tuple hh it a hne its
def iterObj (l : Bool) (a : Addr) : Obj := match l with | true => { cls := .type "list_iterator", data := .fields #[.ref a, .int 0 0] } | false => { cls := .type "tuple_iterator", data := .fields #[.ref a, .int 0 0] }
theorem bg (l : Bool) (a : Addr) (its : Array Value) : Begins (.ref a) (iterObj l a) fun h => IsSq l h a its := by
  cases l with
  | true => exact begins_list a its
  | false => exact begins_tuple a its
theorem si_of {l : Bool} {h : Heap} {it a : Addr} (e : h.get? it = some (iterObj l a)) : IsSi l h it a 0 := by
  cases l with
  | true => exact ⟨_, e, rfl, rfl⟩
  | false => exact ⟨_, e, rfl, rfl⟩

/-! ### enumerate -/
set_option maxHeartbeats 4000000 in
theorem meets_enum1 {v : Value} {o : Obj} {G : Heap → Prop} (B : Begins v o G) :
    Meets (Builtin.«enumerate.__new__» ⟨[.type "enumerate", v], []⟩) (fun _ R s => G s.heap ∧
      R (.ok (.ret (.ref (s.heap.push o).objs.size))) { s with heap := (s.heap.push o).push { cls := .type "enumerate", data := .fields #[.none, .bool false, .ref s.heap.objs.size, rawInt 0, .none, .none] } }) :=
  .of_wp fun prog w A R s h => by
    obtain ⟨hp, g, d, tk, os⟩ := s
    obtain ⟨h1, h⟩ := h
    have sub := sub_enumerate
    have run : ∀ {A' : Around} {E : Value → Shared → Prop} {Q : Value → Shared → Prop}, Q (.ref hp.objs.size) ⟨hp.push o, g, d, tk, os⟩ → wpAny (model prog w) A' (pyIter v) Q E ⟨hp, g, d, tk, os⟩ :=
      fun q => B.iter prog w _ _ ⟨hp, g, d, tk, os⟩ _ h1 q
    wp_walk using run
    first
      | exact ⟨_, rfl, h⟩
      | (refine wpAny_stack_any fun st => wpAny_pure ?_
         split
         · rename_i c _ _ _ _ _
           cases (c == Value.type "enumerate") <;> (wp_walk using run; exact ⟨_, rfl, h⟩)
         · wp_walk using run
           exact ⟨_, rfl, h⟩)
section
variable {prog : Program} {w : World} {A : Around} {E : Value → Shared → Prop} {s : Shared}
theorem call_enum1 {v : Value} {o : Obj} {G : Heap → Prop} {Q : Value → Shared → Prop} (B : Begins v o G) (h1 : G s.heap)
    (h : ∀ h', IsEnum h' (s.heap.objs.size + 1) s.heap.objs.size 0 .none → h'.get? s.heap.objs.size = some o → h'.objs.size = s.heap.objs.size + 2 →
      (∀ b u, s.heap.get? b = some u → h'.get? b = some u) → Q (.ref (s.heap.objs.size + 1)) { s with heap := h' }) : wpAny (model prog w) A (call (.type "enumerate") [v]) Q E s := by
  refine callType_new F.called_enumerate (by decide) (F.typeCall_enumerate_1 _) (F.newCall_enumerate_1 _) (fun z => F.args_object_init_2 z _) F.entry_enumerate_new (meets_enum1 B) ⟨h1, ?_⟩
  have sz : (s.heap.push o).objs.size = s.heap.objs.size + 1 := Heap.size_push ..
  show _ ∧ _
  rw [sz]
  have he : IsEnum ((s.heap.push o).push { cls := .type "enumerate", data := .fields #[.none, .bool false, .ref s.heap.objs.size, rawInt 0, .none, .none] }) (s.heap.objs.size + 1) s.heap.objs.size 0 .none := by
    have q := Heap.get?_push_size (s.heap.push o) (o := { cls := .type "enumerate", data := .fields #[.none, .bool false, .ref s.heap.objs.size, rawInt 0, .none, .none] }) rfl
    rw [sz] at q
    exact q
  exact ⟨⟨_, he, rfl⟩, h _ he (Heap.get?_push_of_some _ (Heap.get?_push_size _ B.free)) (by rw [Heap.size_push, sz]) fun b u x => Heap.get?_push_of_some _ (Heap.get?_push_of_some _ x)⟩
end
/-- the sequence at a, each item in a new pair -/
def IteS (K : PySem.W.Frag) (l : Bool) (a : Addr) : L2.It :=
  ⟨fun i H => ∃ (xs : List V) (x : V), SqS K H l a xs ∧ xs[i]? = some x, fun i H v H' => ∃ p x us, v = .ref p ∧ H p = none ∧ H' = upd H p (TX us [.int (i : Nat), x]) ∧ ∀ xs, SqS K H l a xs → xs[i]? = some x,
    fun i H => ∃ xs : List V, SqS K H l a xs ∧ xs.length = i⟩
theorem turn_enumS {P : Program} {w : World} {K : PySem.W.Frag} {elts : List Expr} {kk : Nat} {tpos : Pos} (l : Bool) (a e it : Addr) :
    Turn P w K (.Tuple elts kk tpos) (IteS K l a) [e, it] e (fun i h => (∃ old, IsEnum h e it ((i : Nat) : Int) old) ∧ IsSi l h it a i ∧ e ≠ it ∧ a ≠ it ∧ e ≠ a) where
  mem := List.mem_cons_self
  obj := fun i h st b hb => by
    obtain ⟨⟨old, he⟩, hi, _⟩ := st
    rcases (show b = e ∨ b = it by simpa using hb) with z | z
    · subst z; exact ⟨_, he, fun v q => nomatch q⟩
    · subst z; exact hi.obj
  keep := fun i h h' ⟨⟨old, he⟩, hi, r⟩ k => ⟨⟨old, k e (by simp) _ he⟩, hi.at fun o q => k it (by simp) o q, r⟩
  item := by
    intro X hP hw hK hc i pins s σ H E I hf st hg
    subst hP hw hK
    obtain ⟨⟨old, he⟩, hi, n1, n2, n3⟩ := st
    obtain ⟨xs, x, hq, hx⟩ := hg
    obtain ⟨its, rv, p, hz⟩ := sq_of I hq
    have le := Heap.lt_size he
    have li : it < s.heap.objs.size := let ⟨_, q, _⟩ := hi.obj; Heap.lt_size q
    have la := p.lt
    have hlen := rv.length
    have hlt : i < its.toArray.size := by
      rw [List.getElem?_eq_some_iff] at hx
      obtain ⟨h1, _⟩ := hx
      simp only [List.size_toArray]
      omega
    refine wpAny_pyNext_enum_itemD (dr (by show X.A.handled = none; exact I.ok.hd hc) l it a n2 its.toArray) he ⟨hi, p⟩ hlt n1 (by simp [n1, n3]) fun u h' tk hu ho hi' hT hsz hk => ?_
    refine ⟨_, rfl, wpAny_letOwnedTupleGo_enum (s := { s with heap := h', toks := tk + 1 }) ho fun h'' he' sb => ?_⟩
    obtain ⟨u', hu', ru⟩ := rv.get hx
    have eu : u' = u := by
      have z : its.toArray[i]? = some u' := by simpa using hu'
      rw [hu] at z
      exact (Option.some.inj z).symm
    subst eu
    have hT2 : h''.get? s.heap.objs.size = some { cls := .type "tuple", data := .seq #[.int i tk, u'] } := (sb.2 _ (Nat.ne_of_gt le)).trans hT
    have new : ObjOk X.prog X.w (upd H s.heap.objs.size (TX [.int i tk, u'] [.int (i : Nat), x])) h'' s.heap.objs.size (TX [.int i tk, u'] [.int (i : Nat), x]) :=
      ⟨hT2, by show 2 ≤ sizeLine; decide, [.int i tk, u'], .cons ⟨_, rfl⟩ (.cons ru .nil), ⟨_, hT2, rfl, _, rfl⟩⟩
    have I1 : Inv X pins σ (upd H s.heap.objs.size (TX [.int i tk, u'] [.int (i : Nat), x])) { s with heap := h'', toks := tk + 1 } :=
      I.turnedNew (ch := [e, it]) (fun b ob hb q => (sb.2 b (fun z => hb (by simp [z]))).trans (hk b ob (fun z => hb (by simp [z])) (fun z => hb (by simp [z])) q)) hf (Nat.le_refl _) new
    refine ⟨V.ref s.heap.objs.size, _, I1, rfl, ⟨_, x, _, rfl, I.hok.fresh (Nat.le_refl _), rfl, fun ys hy => by rw [sq_inj I hy hq]; exact hx⟩, ⟨⟨u', ?_⟩, hi'.1.at fun o q => (sb.2 it (Ne.symm n1)).trans q, n1, n2, n3⟩, fun b hb => ?_⟩
    · rw [show ((i + 1 : Nat) : Int) = (i : Int) + 1 by omega]; exact he'
    · have hb' : b < s.heap.objs.size := by
        rcases (show b = e ∨ b = it by simpa using hb) with z | z
        · rw [z]; exact le
        · rw [z]; exact li
      rw [upd_ne (Nat.ne_of_lt hb')]
      exact (hf b hb).1
  done := by
    intro X hP hw hK hc i pins s σ H E I hf st hg
    subst hP hw hK
    obtain ⟨⟨old, he⟩, hi, n1, n2, n3⟩ := st
    obtain ⟨xs, hq, hx⟩ := hg
    obtain ⟨its, rv, p, hz⟩ := sq_of I hq
    obtain ⟨f0, f1, f2, f3, f4, f5⟩ := hf it (by simp)
    have hl := rv.length
    have hn : its.toArray.size = i := by simp only [List.size_toArray]; omega
    have st : (fun i h => IsSi l h it a i ∧ IsSq l h a its.toArray) its.toArray.size s.heap := ⟨by rw [hn]; exact hi, p⟩
    exact wpAny_pyNext_enum_endD (dr (by show X.A.handled = none; exact I.ok.hd hc) l it a n2 its.toArray) he st fun h' eb => ⟨rfl, I.turned (t' := s.toks) (fun b o hb q => eb b o hb q) f0 f1 f3 f4 f5⟩
  self := fun A i s Q E st h => let ⟨⟨_, he⟩, _⟩ := st; wpAny_pyIter_enum he h
def iEnumS (K : PySem.W.Frag) (ta : TA) : TI := fun σ H R => ta σ H fun vs H1 => ∃ l a xs, vs = [.ref a] ∧ SqS K H1 l a xs ∧ R (IteS K l a) H1
theorem pi_enumS {X : Cx} {e : Expr} {ta : TA} {p pos tpos : Pos} {elts : List Expr} {kk : Nat} (hg : Gl X "enumerate") (hm : X.mg "enumerate" = none) (ha : PA X [e] ta) (hs : starEach [e] X.env = [(false, eval e X.env)]) :
    PI X (.Tuple elts kk tpos) (.Call (.Name "enumerate" p) [e] [] pos) (iEnumS X.K ta) := by
  refine ⟨fun pins s σ H R I h => ?_⟩
  refine Call_ (ld_blt I hg hm boot_enumerate (PyProof.Rows.callWith_type1 (thn (ha.run pos pins s σ H _ I h) fun us s1 ⟨vs, H1, I1, r1, q1⟩ => ?_) hs rfl))
  obtain ⟨l, a, xs, ex, hq, q⟩ := q1
  subst ex
  cases r1 with
  | cons r rr =>
    cases rr
    cases r
    obtain ⟨its, rv, p', hz⟩ := sq_of I1 hq
    have la := p'.lt
    refine call_enum1 (bg l a its.toArray) p' fun h' he hit hsz hk => wpAny_pyIter_enum he ?_
    have I2 : Inv X pins σ H1 { s1 with heap := h' } := I1.kept (t' := s1.toks) hk
    refine ⟨s1.heap.objs.size + 1, [s1.heap.objs.size + 1, s1.heap.objs.size], _, _, H1, rfl, I2, turn_enumS l a (s1.heap.objs.size + 1) s1.heap.objs.size, ⟨⟨.none, he⟩, si_of hit, Nat.succ_ne_self _, Nat.ne_of_lt la, Nat.ne_of_gt (Nat.lt_succ_of_lt la)⟩, fun b hb => ?_, q⟩
    have hle : s1.heap.objs.size ≤ b := by
      rcases (show b = s1.heap.objs.size + 1 ∨ b = s1.heap.objs.size by simpa using hb) with z | z
      · rw [z]; exact Nat.le_add_right _ _
      · rw [z]; exact Nat.le_refl _
    exact I1.fpOk hle (I1.hok.fresh hle)

/-! ### zip -/
def ItzS (K : PySem.W.Frag) (l : Bool) (a : Addr) (l2 : Bool) (b : Addr) : L2.It :=
  ⟨fun i H => ∃ (xs ys : List V) (x y : V), SqS K H l a xs ∧ SqS K H l2 b ys ∧ xs[i]? = some x ∧ ys[i]? = some y,
    fun i H v H' => ∃ p x y us, v = .ref p ∧ H p = none ∧ H' = upd H p (TX us [x, y]) ∧ (∀ xs, SqS K H l a xs → xs[i]? = some x) ∧ ∀ ys, SqS K H l2 b ys → ys[i]? = some y,
    fun i H => ∃ xs ys : List V, SqS K H l a xs ∧ SqS K H l2 b ys ∧ i ≤ xs.length ∧ i ≤ ys.length ∧ (i = xs.length ∨ i = ys.length)⟩
theorem turn_zipS {P : Program} {w : World} {K : PySem.W.Frag} {elts : List Expr} {kk : Nat} {tpos : Pos} (l : Bool) (a : Addr) (l2 : Bool) (b : Addr) {z TI TO i1 i2 : Addr} (S : ZipSep2 z TI TO i1 i2 [i1, a] [i2, b]) (na : a ≠ i1) (nb : b ≠ i2) :
    Turn P w K (.Tuple elts kk tpos) (ItzS K l a l2 b) [z, TI, TO, i1, i2] z (fun i h => IsZip h z TI TO .none ∧ IsTupOf2 h TI (.ref i1) (.ref i2) ∧ (∃ x y, IsTupOf2 h TO x y) ∧ IsSi l h i1 a i ∧ IsSi l2 h i2 b i) where
  mem := List.mem_cons_self
  obj := fun i h st c hc => by
    obtain ⟨hz, hTI, ⟨x, y, hTO⟩, h1, h2⟩ := st
    rcases (show c = z ∨ c = TI ∨ c = TO ∨ c = i1 ∨ c = i2 by simpa using hc) with q | q | q | q | q
    · subst q; exact ⟨_, hz, fun v q => nomatch q⟩
    · subst q; exact ⟨_, hTI, fun v q => nomatch q⟩
    · subst q; exact ⟨_, hTO, fun v q => nomatch q⟩
    · subst q; exact h1.obj
    · subst q; exact h2.obj
  keep := fun i h h' ⟨hz, hTI, ⟨x, y, hTO⟩, h1, h2⟩ k =>
    ⟨k z (by simp) _ hz, k TI (by simp) _ hTI, ⟨x, y, k TO (by simp) _ hTO⟩, h1.at fun o q => k i1 (by simp) o q, h2.at fun o q => k i2 (by simp) o q⟩
  item := by
    intro X hP hw hK hc i pins s σ H E I hf st hg
    subst hP hw hK
    obtain ⟨hz, hTI, ⟨x0, y0, hTO⟩, h1, h2⟩ := st
    obtain ⟨xs, ys, x, y, hqx, hqy, hx, hy⟩ := hg
    obtain ⟨its, rv, p, _⟩ := sq_of I hqx
    obtain ⟨its2, rv2, p2, _⟩ := sq_of I hqy
    have hl1 := rv.length
    have hl2 := rv2.length
    have b1 : i < its.toArray.size := by
      obtain ⟨k, _⟩ := List.getElem?_eq_some_iff.mp hx
      simp only [List.size_toArray]; omega
    have b2 : i < its2.toArray.size := by
      obtain ⟨k, _⟩ := List.getElem?_eq_some_iff.mp hy
      simp only [List.size_toArray]; omega
    have zl := Heap.lt_size hz
    obtain ⟨u, hu, ru⟩ := rv.get hx
    obtain ⟨u2, hu2, ru2⟩ := rv2.get hy
    have hh : X.A.handled = none := I.ok.hd hc
    refine wpAny_pyNext_zipD2_item S (dr (A := X.A.in1) hh l i1 a na its.toArray) (dr (A := X.A.in1) hh l2 i2 b nb its2.toArray) hz hTI hTO ⟨h1, p⟩ ⟨h2, p2⟩ b1 b2 fun v1 v2 h' tk e1 e2 z' TO' h1' h2' hT hsz hk => ?_
    have ev1 : v1 = u := by
      have q : its.toArray[i]? = some u := by simpa using hu
      rw [e1] at q
      exact Option.some.inj q
    have ev2 : v2 = u2 := by
      have q : its2.toArray[i]? = some u2 := by simpa using hu2
      rw [e2] at q
      exact Option.some.inj q
    subst ev1 ev2
    refine ⟨_, rfl, wpAny_letOwnedTupleGo_zip (s := { s with heap := h', toks := tk }) z' fun h'' z'' sb => ?_⟩
    have hT2 : h''.get? s.heap.objs.size = some { cls := .type "tuple", data := .seq #[v1, v2] } := (sb.2 _ (Nat.ne_of_gt zl)).trans hT
    have new : ObjOk X.prog X.w (upd H s.heap.objs.size (TX [v1, v2] [x, y])) h'' s.heap.objs.size (TX [v1, v2] [x, y]) :=
      ⟨hT2, by show 2 ≤ sizeLine; decide, [v1, v2], .cons ru (.cons ru2 .nil), ⟨_, hT2, rfl, _, rfl⟩⟩
    have I1 : Inv X pins σ (upd H s.heap.objs.size (TX [v1, v2] [x, y])) { s with heap := h'', toks := tk } :=
      I.turnedNew (t' := tk) (ch := [z, TI, TO, i1, i2]) (fun c o hb q => (sb.2 c (fun q' => hb (by simp [q']))).trans (hk c o (fun q' => hb (by simp [q'])) (fun q' => hb (by simp [q'])) (fun q' => hb (by simp [q'])) (fun q' => hb (by simp [q'])) q)) hf (Nat.le_refl _) new
    have hTI' : IsTupOf2 h' TI (.ref i1) (.ref i2) := hk _ _ S.TIz S.TITO S.TIi1 S.TIi2 hTI
    refine ⟨V.ref s.heap.objs.size, _, I1, rfl, ⟨_, x, y, _, rfl, I.hok.fresh (Nat.le_refl _), rfl, fun l hl => by rw [sq_inj I hl hqx]; exact hx, fun l hl => by rw [sq_inj I hl hqy]; exact hy⟩,
      ⟨z'', (sb.2 _ S.TIz).trans hTI', ⟨_, _, (sb.2 _ S.TOz).trans TO'⟩, h1'.1.at fun o q => (sb.2 _ (Ne.symm S.zi1)).trans q, h2'.1.at fun o q => (sb.2 _ (Ne.symm S.zi2)).trans q⟩, fun c hcm => ?_⟩
    have hlt : c < s.heap.objs.size := by
      rcases (show c = z ∨ c = TI ∨ c = TO ∨ c = i1 ∨ c = i2 by simpa using hcm) with q | q | q | q | q
      · rw [q]; exact zl
      · rw [q]; exact Heap.lt_size hTI
      · rw [q]; exact Heap.lt_size hTO
      · rw [q]; obtain ⟨_, e1, _⟩ := h1.obj; exact Heap.lt_size e1
      · rw [q]; obtain ⟨_, e2, _⟩ := h2.obj; exact Heap.lt_size e2
    rw [upd_ne (Nat.ne_of_lt hlt)]
    exact (hf c hcm).1
  done := by
    intro X hP hw hK hc i pins s σ H E I hf st hg
    subst hP hw hK
    obtain ⟨hz, hTI, ⟨x0, y0, hTO⟩, h1, h2⟩ := st
    obtain ⟨xs, ys, hqx, hqy, l1, l2', hend⟩ := hg
    obtain ⟨its, rv, p, _⟩ := sq_of I hqx
    obtain ⟨its2, rv2, p2, _⟩ := sq_of I hqy
    have e1 := rv.length
    have e2 := rv2.length
    have hh : X.A.handled = none := I.ok.hd hc
    exact wpAny_pyNext_zipD2_end S (dr (A := X.A.in1) hh l i1 a na its.toArray) (dr (A := X.A.in1) hh l2 i2 b nb its2.toArray) hz hTI hTO ⟨h1, p⟩ ⟨h2, p2⟩ (by simp only [List.size_toArray]; omega) (by simp only [List.size_toArray]; omega) (by simp only [List.size_toArray]; omega)
      fun h' tk hk => ⟨rfl, I.turnedL (t' := tk) (ch := [z, TI, TO, i1, i2]) (fun c o hb q => hk c o (fun q' => hb (by simp [q'])) (fun q' => hb (by simp [q'])) (fun q' => hb (by simp [q'])) (fun q' => hb (by simp [q'])) q) hf⟩
  self := fun A i s Q E st h => wpAny_pyIter_zip st.1 h
def iZipS (K : PySem.W.Frag) (ta : TA) : TI := fun σ H R => ta σ H fun vs H1 => ∃ l a l2 b xs ys, vs = [.ref a, .ref b] ∧ SqS K H1 l a xs ∧ SqS K H1 l2 b ys ∧ R (ItzS K l a l2 b) H1
theorem pi_zipS {X : Cx} {e e2 : Expr} {ta : TA} {p pos tpos : Pos} {elts : List Expr} {kk : Nat} (hg : Gl X "zip") (hm : X.mg "zip" = none) (ha : PA X [e, e2] ta)
    (hs : starEach [e, e2] X.env = (false, eval e X.env) :: starEach [e2] X.env) (hpl : (backTo pos (starEach [e2] X.env)).any (·.1) = false) :
    PI X (.Tuple elts kk tpos) (.Call (.Name "zip" p) [e, e2] [] pos) (iZipS X.K ta) := by
  refine ⟨fun pins s σ H R I h => ?_⟩
  refine Call_ (ld_blt I hg hm PyProof.Rows.boot_zip (PyProof.Rows.callWith_type1 (thn (ha.run pos pins s σ H _ I h) fun us s1 ⟨vs, H1, I1, r1, q1⟩ => ?_) hs hpl))
  obtain ⟨l, a, l2, b, xs, ys, ex, hqx, hqy, q⟩ := q1
  subst ex
  cases r1 with
  | cons r rr =>
    cases rr with
    | cons r' rr =>
      cases rr
      cases r
      cases r'
      obtain ⟨its, rv, p1, _⟩ := sq_of I1 hqx
      obtain ⟨its2, rv2, p2, _⟩ := sq_of I1 hqy
      have la := p1.lt
      have lb := p2.lt
      refine zip_begins2 (bg l a its.toArray) (bg l2 b its2.toArray) p1 p2 fun h' hz hTI hTO h1 h2 hsz hk => wpAny_pyIter_zip hz ?_
      have I2 : Inv X pins σ H1 { s1 with heap := h' } := I1.kept (t' := s1.toks) hk
      refine ⟨s1.heap.objs.size + 4, [s1.heap.objs.size + 4, s1.heap.objs.size + 2, s1.heap.objs.size + 3, s1.heap.objs.size, s1.heap.objs.size + 1], _, _, H1, rfl, I2,
        turn_zipS l a l2 b (zip_sep2 (fp1 := [a]) (fp2 := [b]) (fun c hc => by rw [List.mem_singleton.mp hc]; exact la) (fun c hc => by rw [List.mem_singleton.mp hc]; exact lb)) (Nat.ne_of_lt la) (Nat.ne_of_lt (Nat.lt_succ_of_lt lb)),
        ⟨hz, hTI, ⟨_, _, hTO⟩, si_of h1, si_of h2⟩, fun c hcm => ?_, q⟩
      have hle : s1.heap.objs.size ≤ c := by
        rcases (show c = s1.heap.objs.size + 4 ∨ c = s1.heap.objs.size + 2 ∨ c = s1.heap.objs.size + 3 ∨ c = s1.heap.objs.size ∨ c = s1.heap.objs.size + 1 by simpa using hcm) with z | z | z | z | z <;> rw [z] <;> omega
      exact I1.fpOk hle (I1.hok.fresh hle)
end Mi
set_option Elab.async false
set_option linter.all false
set_option maxRecDepth 100000
set_option maxHeartbeats 4000000
/-! Mini: when a piece of syntax A tells a written expression or statement -/
namespace Mi
open PySem L2

/-- names: slots, the text's defs, its constants, the built-in names that it leaves as they are -/
structure Kx where
  N : List Str
  gn : List (Str × Nat)
  cs : List (Str × Int)
  ss : List (Str × Str) := []
  bn : List Str
  /-- the def that tells what a lambda raises, with its words -/
  met : List (Str × List (Nat × Str × Bool)) := []
  /-- the exception classes; with a field or not -/
  ec : List (Str × Nat × Bool) := []
  /-- own classes; their fields; their methods; the one with a length -/
  cl : List (Str × Nat) := []
  fl : List (Str × Nat × Nat) := []
  ms : List (Str × Nat × Nat) := []
  lm : Option (Nat × Nat) := none
/-- where one stands: the scope; the names whose cells are the block's own -/
structure Sx where
  sc : Scope
  fn : Str → Bool
  /-- a def of the law's own, that makes lambdas -/
  top : Bool := false
  /-- where one may raise -/
  rs : Bool := false
structure Ch where
  e : Sx → Expr → Bool := fun _ _ => false
  tt : Sx → Expr → Bool := fun _ _ => false
  a : Sx → List Expr → Bool := fun _ _ => false
  t : Sx → List Expr → Bool := fun _ _ => false
  i : Sx → Expr → Expr → Bool := fun _ _ _ => false
  g : Sx → Expr → Bool := fun _ _ => false
  gs : Sx → List Expr → Bool := fun _ _ => false
  sl : List Nat := []
  s : Sx → Stmt → Bool := fun _ _ => false
  b : Sx → List Stmt → Bool := fun _ _ => false

def visB (sc : Scope) (x : Str) : Bool := match sc.names.lookup x with | some .local => true | some .cell => true | some .free => true | _ => false
def glB (sc : Scope) (x : Str) : Bool := match sc.names.lookup x with | some .globalImplicit => true | _ => false
/-- a name that may be stored -/
def stB (sx : Sx) (x : Str) : Bool := match sx.sc.names.lookup x with | some .local => true | some .cell => sx.fn x | _ => false
def nmB (x : Str) : Bool := !(x == ("__debug__" : Str)) && !(x == ("__classdict__" : Str)) && !(x == ("__name__" : Str))
def atB (N : List Str) (i : Nat) (x : Str) : Bool := decide (N[i]? = some x)
def notStar : Expr → Bool | .Starred .. => false | _ => true
def notComp : Expr → Bool | .ListComp .. => false | .SetComp .. => false | .DictComp .. => false | _ => true
def notSlice : Expr → Bool | .Slice .. => false | _ => true
def notSet : Expr → Bool | .Set .. => false | _ => true
def notTup : Expr → Bool | .Tuple .. => false | .List .. => false | _ => true
/-- its test is its value's truth -/
def plainT : Expr → Bool | .UnaryOp .Not _ _ => false | .BoolOp .. => false | .IfExp .. => false | .Compare .. => false | _ => true
def bname (k : Kx) (sx : Sx) (x : Str) (want : Str) : Bool := x == want && glB sx.sc x && k.bn.contains x && nmB x
def opEq : Operator → Op → Bool
  | .Add, .add => true | .Sub, .sub => true | .Mult, .mul => true | .FloorDiv, .fdiv => true | .Mod, .mod => true | .Pow, .pow => true
  | .BitXor, .xor => true | .BitAnd, .band => true | .BitOr, .bor => true | _, _ => false
theorem opEq_ok {o : Operator} {p : Op} (h : opEq o p = true) : o = opOf p := by
  cases o <;> cases p <;> first | rfl | cases h
def cmEq : CmpOp → Cm → Bool
  | .Eq, .eq => true | .NotEq, .ne => true | .Lt, .lt => true | .LtE, .le => true | .Gt, .gt => true | .GtE, .ge => true
  | .In, .inn => true | .NotIn, .nin => true | .Is, .isn => true | .IsNot, .isnot => true | _, _ => false
theorem cmEq_ok {o : CmpOp} {p : Cm} (h : cmEq o p = true) : o = cmOf p := by
  cases o <;> cases p <;> first | rfl | cases h
/-- the comprehension's own names with their slots -/
def ownOf (N : List Str) (vs : List Nat) : List (Str × Nat) := vs.map fun i => (N.getD i default, i)
def blkSx (sx : Sx) (scope : Scope) : Sx := { sc := relS scope sx.sc, fn := fun x => scope.names.lookup x == some .cell }
def noArgs : Arguments → Bool | ⟨[], [], none, [], [], none, []⟩ => true | _ => false
def msgB : List Expr → Bool | [.Constant (.str _) _ _] => true | _ => false
def subN (a b : List Nat) : Bool := a.all fun i => b.contains i
/-- the swap of a value that a comprehension is, at a store into a name -/
def swB (sx : Sx) (x : Str) (line : Nat) (scope : Scope) (epos : Pos) : Bool :=
  (match sx.sc.kind with | .function => true | _ => false) && (match sx.sc.names.lookup x with | some .local => true | _ => false) && (line == epos.line) && !(scope.names.any fun p => p.1 == x && (p.2 == .local || p.2 == .cell))
def nameOfB : BI → Str
  | .len => "len" | .tuple => "tuple" | .list => "list" | .sum => "sum" | .all => "all" | .any => "any" | .int => "int" | .abs => "abs" | .sorted => "sorted"
  | .max2 => "max" | .min2 => "min" | .max1 => "max" | .min1 => "min" | .isInt => "isinstance" | .isBool => "isinstance" | .isTuple => "isinstance" | .isStr => "isinstance"
def isTy : BI → Option Str | .isInt => some "int" | .isBool => some "bool" | .isTuple => some "tuple" | .isStr => some "str" | _ => none

/-- what is never reached -/
def noLB : Expr → Bool | .ListComp .. => false | .BoolOp .. => false | _ => true
/-- a value whose test is its truth -/
def mkE (f : Sx → Expr → Bool) : Ch := { e := f, tt := fun sx ex => f sx ex && plainT ex }
/-- a comparison -/
def mkC (f : Sx → Expr → Bool) : Ch := { e := f, tt := f }
def funB (sx : Sx) : Bool := match sx.sc.kind with | .function => true | _ => false
def locB (sx : Sx) (x : Str) : Bool := match sx.sc.names.lookup x with | some .local => true | _ => false
def celB (sx : Sx) (x : Str) : Bool := match sx.sc.names.lookup x with | some .cell => sx.fn x | _ => false
def foldB (vs : List Expr) : Bool := vs.all notStar && !(vs.all (foldedForSure 8)) && !(vs.all (constantsAlone 8))
def celE (sx : Sx) : Expr → Bool | .Name x _ => (match sx.sc.names.lookup x with | some .cell => true | _ => false) | _ => false
def tupFold : Expr → Bool | .Tuple vs _ _ => vs.all (foldedForSure 8) | _ => false
section
variable (k : Kx)
def cName (p : Sx → Str → Bool) : Ch := mkE fun sx ex => match ex with | .Name x _ => nmB x && p sx x | _ => false
def cBi (b : BI) (es : Ch) : Ch := mkE fun sx ex => match ex with
  | .Call (.Name x _) (a :: args) [] _ => bname k sx x (nameOfB b) && (isTy b).isNone && notStar a && args.all notStar && es.a sx (a :: args)
  | _ => false
def cIsi (b : BI) (e : Ch) : Ch := mkE fun sx ex => match ex with
  | .Call (.Name x _) [a, .Name y _] [] _ => bname k sx x "isinstance" && notStar a && e.e sx a && (match isTy b with | some ty => bname k sx y ty | none => false)
  | _ => false
def recvB : Expr → Bool | .Name .. => true | .Subscript .. => true | _ => false
def cMet (name : Str) (o : Ch) (args : Sx → List Expr → Bool) : Ch := mkE fun sx ex => match ex with
  | .Call (.Attribute r m p) es [] q => m == name && recvB r && (p.endLine == q.line) && o.e sx r && args sx es
  | _ => false
def baseB : Expr → Bool | .Name .. => true | .Subscript .. => true | .Attribute .. => true | _ => false
def one1 (a : Ch) : Sx → List Expr → Bool := fun sx es => match es with | [e] => notStar e && a.e sx e | _ => false

def chkP (a : Sx → List Expr → Bool) (is : List Nat) (sx : Sx) (st : Stmt) : Bool := match is, st with
  | [i, j], .Assign [.Tuple [.Name x px, .Name y py] _ _] (.Tuple [e, f] _ _) _ => funB sx && atB k.N i x && atB k.N j y && locB sx x && locB sx y && (py.line == px.line) && !(x == y) && foldB [e, f] && a sx [e, f]
  | [i, j, q], .Assign [.Tuple [.Name x px, .Name y py, .Name z pz] _ _] (.Tuple [e, f, g] _ _) _ => funB sx && atB k.N i x && atB k.N j y && atB k.N q z && locB sx x && locB sx y && locB sx z && (py.line == px.line) && (pz.line == px.line) && !(x == y) && !(x == z) && !(y == z) && foldB [e, f, g] && a sx [e, f, g]
  | _, _ => false
def rs1B (c : Nat) (f : Sx → Expr → Bool) (sx : Sx) : Stmt → Bool
  | .Raise (some (.Call (.Name x _) [a] [] _)) none _ => sx.rs && nmB x && glB sx.sc x && decide (k.ec.lookup x = some (c, true)) && notStar a && f sx a
  | _ => false
def rs0B (c : Nat) (sx : Sx) : Stmt → Bool
  | .Raise (some (.Call (.Name x _) args [] _)) none _ => sx.rs && nmB x && glB sx.sc x && decide (k.ec.lookup x = some (c, false)) && msgB args
  | _ => false
noncomputable def chk (x : A) : Ch := A.rec (motive := fun _ => Ch)
  -- nil, cons
  { a := fun _ es => match es with | [] => true | _ => false, t := fun _ es => match es with | [] => true | _ => false, gs := fun _ es => match es with | [] => true | _ => false, b := fun _ es => match es with | [] => true | _ => false }
  (fun _ _ a b => { a := fun sx es => match es with | e :: r => notStar e && a.e sx e && b.a sx r | _ => false,
                    t := fun sx es => match es with | [e] => a.tt sx e && b.t sx [] | _ => false,
                    gs := fun sx es => match es with | e :: r => notStar e && a.g sx e && b.gs sx r | _ => false, sl := a.sl ++ b.sl,
                    b := fun sx es => match es with | e :: r => a.s sx e && b.b sx r | _ => false })
  -- var, int, bl, non, str
  (fun i => cName fun sx x => atB k.N i x && visB sx.sc x)
  (fun i => mkE fun _ ex => match ex with | .Constant (.int j) _ _ => i == j | _ => false)
  (fun i => mkE fun _ ex => match ex with | .Constant (.bool j) _ _ => i == j | _ => false)
  (mkE fun _ ex => match ex with | .Constant .none _ _ => true | _ => false)
  (fun z => mkE fun _ ex => match ex with | .Constant (.str y) _ _ => z == y | _ => false)
  -- gi, fnm
  (fun y i => cName fun sx x => x == y && glB sx.sc x && decide (k.cs.lookup x = some i))
  (fun y z => cName fun sx x => x == y && glB sx.sc x && decide (k.ss.lookup x = some z))
  (fun j => cName fun sx x => glB sx.sc x && decide (k.gn.lookup x = some j))
  -- bin, neg, cmp, chn
  (fun o _ _ a b => mkE fun sx ex => match ex with | .BinOp l p r _ => opEq p o && a.e sx l && b.e sx r | _ => false)
  (fun _ a => mkE fun sx ex => match ex with | .UnaryOp .USub l _ => a.e sx l | _ => false)
  (fun o _ _ a b => mkC fun sx ex => match ex with | .Compare l [p] [r] _ => cmEq p o && notSet r && a.e sx l && b.e sx r | _ => false)
  (fun o o' _ _ _ a b c => mkC fun sx ex => match ex with | .Compare l [p, p'] [r, r'] _ => cmEq p o && cmEq p' o' && notSet r' && a.e sx l && b.e sx r && c.e sx r' | _ => false)
  -- and, or, one, not
  (fun _ _ a b => { e := fun sx ex => match ex with | .BoolOp .And (l :: r :: rest) pos => a.e sx l && b.e sx (.BoolOp .And (r :: rest) pos) | _ => false,
                    tt := fun sx ex => match ex with | .BoolOp .And (l :: r :: rest) pos => a.tt sx l && b.tt sx (.BoolOp .And (r :: rest) pos) | _ => false })
  (fun _ _ a b => { e := fun sx ex => match ex with | .BoolOp .Or (l :: r :: rest) pos => a.e sx l && b.e sx (.BoolOp .Or (r :: rest) pos) | _ => false,
                    tt := fun sx ex => match ex with | .BoolOp .Or (l :: r :: rest) pos => a.tt sx l && b.tt sx (.BoolOp .Or (r :: rest) pos) | _ => false })
  (fun _ a => { e := fun sx ex => match ex with | .BoolOp _ [l] _ => a.e sx l | _ => false, tt := fun sx ex => match ex with | .BoolOp _ [l] _ => a.tt sx l | _ => false })
  (fun _ a => { e := fun sx ex => match ex with | .UnaryOp .Not l _ => a.e sx l | _ => false, tt := fun sx ex => match ex with | .UnaryOp .Not l _ => a.tt sx l | _ => false })
  -- ite
  (fun _ _ _ c a b => { e := fun sx ex => match ex with | .IfExp t l r _ => c.tt sx t && a.e sx l && b.e sx r | _ => false })
  -- tup, lst, stc
  (fun _ es => mkE fun sx ex => match ex with | .Tuple l _ _ => es.a sx l | _ => false)
  (fun _ es => mkE fun sx ex => match ex with | .List l _ => es.a sx l | _ => false)
  (fun _ _ x y => { a := fun sx es => match es with | .Starred l _ :: r => x.e sx l && y.a sx r | _ => false })
  -- idx, slc
  (fun _ _ a b => mkE fun sx ex => match ex with | .Subscript l r _ => notSlice r && a.e sx l && b.e sx r | _ => false)
  (fun _ _ _ a lo hi => mkE fun sx ex => match ex with
    | .Subscript l (.Slice u v none _) _ => a.e sx l && (match u with | some u => lo.e sx u | none => lo.a sx []) && (match v with | some v => hi.e sx v | none => hi.a sx [])
    | _ => false)
  -- call, fz, calv
  (fun j _ es => mkE fun sx ex => match ex with | .Call (.Name x _) (e :: args) [] _ => nmB x && glB sx.sc x && decide (k.gn.lookup x = some j) && notStar e && args.all notStar && es.a sx (e :: args) | _ => false)
  (fun _ a => { e := a.e, tt := a.tt })
  (fun i _ es => mkE fun sx ex => match ex with | .Call (.Name x _) (e :: args) [] _ => nmB x && atB k.N i x && visB sx.sc x && notStar e && args.all notStar && es.a sx (e :: args) | _ => false)
  -- bi, bir
  (fun b _ es => cBi k b es) (fun b _ a => cIsi k b a)
  (fun b _ a => mkE fun sx ex => match ex with | .Call (.Name x _) [.Call (.Name y _) [l] [] _] [] _ => (match b with | .tuple => bname k sx x "tuple" | .list => bname k sx x "list" | _ => false) && bname k sx y "range" && notStar l && a.e sx l | _ => false)
  (fun b _ _ a c => mkE fun sx ex => match ex with | .Call (.Name x _) [.Call (.Name y _) [l, r] [] _] [] _ => (match b with | .tuple => bname k sx x "tuple" | .list => bname k sx x "list" | _ => false) && bname k sx y "range" && notStar l && notStar r && a.e sx l && c.e sx r | _ => false)
  -- lc, lc2
  (fun vs _ _ _ _ tg it ifs elt => mkE fun sx ex => match ex with
    | .ListComp el [⟨g, i, fs, 0⟩] scope _ => blkC k.N sx.sc scope (ownOf k.N vs) && notSet i && it.i sx g i && tg.g (blkSx sx scope) g && subN tg.sl vs && ifs.t (blkSx sx scope) fs && elt.e (blkSx sx scope) el
    | _ => false)
  (fun vs vs1 _ _ _ _ _ _ _ tg it ifs tg1 it1 ifs1 elt => mkE fun sx ex => match ex with
    | .ListComp el [⟨g, i, fs, 0⟩, ⟨g1, i1, fs1, 0⟩] scope _ => blkC k.N sx.sc scope (ownOf k.N vs) && subN vs1 vs && notSet i && notSet i1 && it.i sx g i && tg.g (blkSx sx scope) g && subN tg.sl vs && ifs.t (blkSx sx scope) fs
        && it1.i (blkSx sx scope) g1 i1 && tg1.g (blkSx sx scope) g1 && subN tg1.sl vs1 && ifs1.t (blkSx sx scope) fs1 && elt.e (blkSx sx scope) el
    | _ => false)
  -- met, repr
  (fun hs _ a => mkE fun sx ex => match ex with
    | .Call (.Name x _) [.Lambda ps body scope _] [] _ => sx.top && nmB x && glB sx.sc x && decide (k.met.lookup x = some hs) && noArgs ps && LamX.lamSB sx.sc scope && a.e { sc := scope, fn := fun _ => false } body
    | _ => false)
  (fun _ a => mkE fun sx ex => match ex with | .Call (.Name x _) [e] [] _ => sx.top && bname k sx x "repr" && notStar e && a.e sx e | _ => false)
  -- get, meth, lenO, isO, lset
  (fun c i _ a => mkE fun sx ex => match ex with | .Attribute o f _ => decide (k.fl.lookup f = some (c, i)) && baseB o && a.e sx o | _ => false)
  (fun c j _ _ o es => mkE fun sx ex => match ex with | .Call (.Attribute r m p) (e :: args) [] q => decide (k.ms.lookup m = some (c, j)) && (p.endLine == q.line) && baseB r && Nat.blt args.length 20 && notStar e && args.all notStar && o.e sx r && es.a sx (e :: args) | _ => false)
  (fun c j _ a => mkE fun sx ex => match ex with | .Call (.Name x _) [e] [] _ => bname k sx x "len" && decide (k.lm = some (c, j)) && notStar e && a.e sx e | _ => false)
  (fun c _ a => mkE fun sx ex => match ex with | .Call (.Name x _) [e, .Name y _] [] _ => bname k sx x "isinstance" && notStar e && nmB y && glB sx.sc y && decide (k.cl.lookup y = some c) && a.e sx e | _ => false)
  (fun _ a => mkE fun sx ex => match ex with | .Call (.Name x _) [.Call (.Name y _) [e] [] _] [] _ => bname k sx x "len" && bname k sx y "set" && notStar e && a.e sx e | _ => false)
  (mkE fun _ ex => match ex with | .Dict [] [] _ => true | _ => false)
  { e := fun _ ex => noLB ex, tt := fun _ ex => noLB ex }
  -- iter
  (fun j _ es => { i := fun sx tg ex => match j with
    | .e => false
    | .rng1 => (match ex with | .Call (.Name x _) [a] [] _ => bname k sx x "range" && notStar a && es.a sx [a] | _ => false)
    | .rng2 => (match ex with | .Call (.Name x _) [a, b] [] _ => bname k sx x "range" && notStar a && notStar b && es.a sx [a, b] | _ => false)
    | .rng3 => (match ex with | .Call (.Name x _) [a, b, c] [] _ => bname k sx x "range" && notStar a && notStar b && notStar c && es.a sx [a, b, c] | _ => false)
    | .zip => (match tg, ex with | .Tuple .., .Call (.Name x _) [a, b] [] _ => bname k sx x "zip" && notStar a && notStar b && es.a sx [a, b] | _, _ => false)
    | .enum => (match tg, ex with | .Tuple .., .Call (.Name x _) [a] [] _ => bname k sx x "enumerate" && notStar a && es.a sx [a] | _, _ => false) })
  (fun _ a => { i := fun sx _ ex => a.e sx ex })
  -- app, popL, popA, index, extend
  (fun _ _ o a => cMet "append" o (one1 a)) (fun _ o => cMet "pop" o fun _ es => match es with | [] => true | _ => false) (fun _ _ o a => cMet "pop" o (one1 a)) (fun _ _ o a => cMet "index" o (one1 a)) (fun _ _ o a => cMet "extend" o (one1 a))
  -- gn, gt
  (fun i => { g := fun sx ex => match ex with | .Name x _ => atB k.N i x && stB sx x | _ => false, sl := [i] })
  (fun _ es => { g := fun sx ex => match ex with | .Tuple l _ _ => es.gs sx l && l.all notStar | _ => false, sl := es.sl })
  -- statements
  (fun _ e => { s := fun sx st => match st with | .Expr ex _ => notComp ex && e.e sx ex | _ => false })
  (fun i _ e => { s := fun sx st => match st with | .Assign [.Name x _] ex _ => atB k.N i x && stB sx x && notComp ex && e.e sx ex | _ => false })
  (fun i _ e => { s := fun sx st => match st with
    | .Assign [.Name x p] (.ListComp el gs scope q) _ => atB k.N i x && (swB sx x p.line scope q || celB sx x) && e.e sx (.ListComp el gs scope q)
    | _ => false })
  (fun _ _ t e => { s := fun sx st => match st with | .Assign [.Tuple ts j p] ex _ => (notTup ex || tupFold ex || ts.any (celE sx)) && notComp ex && t.g sx (.Tuple ts j p) && e.e sx ex | _ => false })
  (fun is _ es => { s := fun sx st => chkP k es.a is sx st })
  (fun _ _ _ o i e => { s := fun sx st => match st with | .Assign [.Subscript l j _] ex _ => notSlice j && notComp ex && o.e sx l && i.e sx j && e.e sx ex | _ => false })
  (fun i o _ e => { s := fun sx st => match st with | .AugAssign (.Name x _) p ex _ => atB k.N i x && stB sx x && opEq p o && (augF o).isSome && e.e sx ex | _ => false })
  (fun _ _ _ c a b => { s := fun sx st => match st with | .If t l r _ => c.tt sx t && a.b sx l && b.b sx r | _ => false })
  (fun _ _ _ t it b => { s := fun sx st => match st with | .For g i l [] _ => notSet i && it.i sx g i && t.g sx g && b.b sx l | _ => false })
  (fun _ _ c b => { s := fun sx st => match st with | .While t l [] _ => c.tt sx t && b.b sx l | _ => false })
  (fun _ e => { s := fun sx st => match st with | .Return (some ex) _ => e.e sx ex | _ => false })
  { s := fun _ st => match st with | .Return none _ => true | _ => false }
  { s := fun _ st => match st with | .Pass _ => true | _ => false }
  { s := fun _ st => match st with | .Break _ => true | _ => false }
  { s := fun _ st => match st with | .Continue _ => true | _ => false }
  (fun c _ e => { s := rs1B k c e.e }) (fun c => { s := rs0B k c }) { s := fun _ _ => true }
  x
end
end Mi
set_option Elab.async false
set_option linter.all false
set_option maxRecDepth 100000
set_option maxHeartbeats 4000000
/-! Mini: what the evaluator says of an expression, the model does -/
namespace Mi
open PySem PySem.Spec PyProof.Rows L2

/-- a def's promise: what the evaluator says of the call -/
def spF (T : Tb) (F : FT) (i : Nat) : Sp := fun vs H Q E => ∃ fb ρ m avs, Rl (T.wb fb) ρ H m ∧ Reps (T.wb fb) ρ H avs vs ∧
  Good (T.wb fb) (fun c d _ H' => E c d H') [] ρ H m (F.call i avs m) fun a ρ' H' _ => ∀ v, Rep (T.wb fb) ρ' H' a v → Q v H'
/-- the text of a plain value's repr -/
def shown0 : V → Option Str
  | .non => some (Str.ofString "None")
  | .bl b => some (Str.ofString (if b then "True" else "False"))
  | .int i => if Nat.blt i.natAbs.log2 1920 then some (Str.ofString (toString i)) else none
  | .str x => if okN (reprText x).length then some (reprText x) else none
  | _ => none
/-- the text of a plain value's repr, of a tuple's of plain values -/
def Shown (K : PySem.W.Frag) (H : Hp) (v : V) (x : Str) : Prop :=
  shown0 v = some x ∨ ∃ a vs ts, v = .ref a ∧ SqT K H a vs ∧ optM shown0 vs = some ts ∧ okN (tupleText ts).length = true ∧ x = tupleText ts
/-- a def (a class), called by what runs at A -/
structure FnAt (P : Program) (w : World) (K : PySem.W.Frag) (mg : Str → Option Value) (base : Heap) (CX : CXT) (A : Around) (f : Addr) (sp : Sp) : Prop where
  run : ∀ (outer : List Env) (s : Shared) (H : Hp) (us : List Value) (vs : List V) (Q : VK) (E : XK), Env0 P w K mg base A outer s H → Vals vs us → sp vs H Q E → codeAny (model P w) A (.call (.ref f) ⟨us, []⟩) (CR CX outer P w H s Q E) s
/-- .. wherever there is room -/
def FnL (P : Program) (w : World) (K : PySem.W.Frag) (mg : Str → Option Value) (base : Heap) (CX : CXT) (n : Nat) (f : Addr) (sp : Sp) : Prop := ∀ A : Around, Room n A → FnAt P w K mg base CX A f sp
/-- the word told of what a lambda raises -/
def MetAt (T : Tb) (hs : List (Nat × Str × Bool)) (cls : Value) (d : Option Addr) (H : Hp) (w : Str) : Prop :=
  ∃ c w0 b, cls = .ref (T.ca c) ∧ (hs.find? fun h => Nat.beq h.1 c) = some (c, w0, b) ∧ (b = false → w = w0) ∧
    (b = true → ∃ f da v x, T.fld c = some f ∧ d = some da ∧ H da = some (.xd [(f, v)]) ∧ Shown T.K H v x ∧ okN (w0.length + x.length) = true ∧ w = w0 ++ x)
def TMet (T : Tb) (hs : List (Nat × Str × Bool)) (tl : XK → Hp → VK → Prop) (H : Hp) (Q : VK) : Prop := tl (fun cls d H' => ∃ w, MetAt T hs cls d H' w ∧ Q (.str w) H') H fun _ H' => Q (.str (Str.ofString "none")) H'
/-- a def that calls a lambda and tells what it raises -/
def MetOk (T : Tb) (X : Cx) (x : Str) (hs : List (Nat × Str × Bool)) : Prop :=
  ∀ (j : Nat) (ps : Arguments) (body : Expr) (scope : Scope) (p lp pos : Pos) (t : XK → TE), Room (j + 2) X.A → LamX.LamS X.env.scope scope → noArgs ps = true → Gl X x → (x == ("__debug__" : Str)) = false →
    (∀ (A : Around) (outer : List Env) (s : Shared) (H : Hp) (E : XK) (f c' : Addr), Room j (A.deeper (LamX.lamEnv X scope s.heap.objs.size f c')) → PE (LamX.lamCx X A outer s H E scope f c') body (t E)) →
    PE X (.Call (.Name x p) [.Lambda ps body scope lp] [] pos) (LamX.tLam T.tabs (TMet T hs) t)
/-- an exception class -/
structure ExcOk (T : Tb) (X : Cx) (c : Nat) (x : Str) (b : Bool) : Prop where
  no : b = false → T.fld c = none ∧ ∀ (m : Str) (j : Nat) (p p2 pos : Pos), Gl X x → PMk X (.Call (.Name x p) [.Constant (.str m) j p2] [] pos) (fun _ H Q => Q (.ref (T.ca c)) none H)
  one : b = true → ∃ f, T.fld c = some f ∧ ∀ (e : Expr) (te : TE) (p pos : Pos), Gl X x → notStar e = true → PE X e te → PMk X (.Call (.Name x p) [e] [] pos) (fun σ H Q => te σ H fun v H1 => ∀ d, H1 d = none → Q (.ref (T.ca c)) (some d) (upd H1 d (.xd [(f, v)])))
/-- own classes -/
structure CxOk (ca : Nat → Addr) (fa : Nat → Option Addr) (K : PySem.W.Frag) (mg : Str → Option Value) (k : Kx) : Prop where
  cl : ∀ x c, k.cl.lookup x = some c → mg x = some (.ref (ca c)) ∧ (∀ t ∈ (["NoneType", "bool", "int", "str", "tuple", "list", "dict"] : List String), PySem.W.kitOne K (.type t) (.ref (ca c)) = some false) ∧ SlX.SCls K (ca c) ∧ SlX.SIsi K (ca c) ∧ PySem.W.kitOne K (.ref (ca c)) (.ref (ca c)) = some true
  fl : ∀ f c i, k.fl.lookup f = some (c, i) → ∃ p, SlX.SCls K (ca c) ∧ SlX.Slot1 K (ca c) f p i
  ms : ∀ m c j, k.ms.lookup m = some (c, j) → ∃ g, fa j = some g ∧ SlX.SCls K (ca c) ∧ Meth K (ca c) m g
  lm : ∀ c j, k.lm = some (c, j) → ∃ g, fa j = some g ∧ PySem.W.findIn K (.ref (ca c)) "__len__" = some (some (.ref g)) ∧ PySem.W.isFn K (.ref g) = true
structure Ck (T : Tb) (F : FT) (k : Kx) (n : Nat) (sx : Sx) (W : WX) (X : Cx) : Prop where
  hK : X.K = T.K
  hN : X.N = k.N
  nd : X.N.Nodup
  sc : X.env.scope = sx.sc
  fn : ∀ x, sx.fn x = true → X.fn x = true
  calm : X.calm = true
  room : Room n X.A
  gn : ∀ x i, k.gn.lookup x = some i → ∃ a, T.fa i = some a ∧ X.mg x = some (.ref a)
  cs : ∀ x i, k.cs.lookup x = some i → ∃ t, X.mg x = some (.int i t)
  ss : ∀ x z, k.ss.lookup x = some z → ∃ t, X.mg x = some (.str z t)
  bn : ∀ x, k.bn.contains x = true → X.mg x = none
  kp : ∀ i a, T.fa i = some a → PySem.W.keepIn X.K (.ref a) = true
  fns : ∀ i a, T.fa i = some a → FnAt X.prog X.w X.K X.mg X.base (L2.CX X.prog X.w) X.A a (spF T F i)
  fin : ∀ i a, T.fa i = some a → FnAt X.prog X.w X.K X.mg X.base (L2.CX X.prog X.w) X.A.in1 a (spF T F i)
  cx : CxOk T.ca T.fa X.K X.mg k
  takes : Takes X W
  gd : sx.top = true → X.A.guards = some []
  lw : sx.top = true → ∃ j, j + 3 ≤ n ∧ ∀ i a, T.fa i = some a → FnL X.prog X.w X.K X.mg X.base (L2.CX X.prog X.w) j a (spF T F.dn i)
  mt : sx.top = true → ∀ x hs, k.met.lookup x = some hs → MetOk T X x hs
  ec : sx.rs = true → ∀ x c b, k.ec.lookup x = some (c, b) → ExcOk T X c x b

section
variable (T : Tb) (W : WX) (F : FT)
def spE (fr : Bool) (d : D) : TE := fun σ H Q => ∃ ρ m as, Rl T ρ H m ∧ RS1 T ρ H as σ ∧ Good T W σ ρ H m (d.e fr F as m) fun a ρ' H' _ => ∀ v, Rep T ρ' H' a v → Q v H'
def spT (d : D) : TT := fun σ H Q => ∃ ρ m as, Rl T ρ H m ∧ RS1 T ρ H as σ ∧ Good T W σ ρ H m (d.e true F as m) fun a ρ' H' m' => ∃ b, truV m' a = some b ∧ Q b H'
def spA (d : D) : TA := fun σ H Q => ∃ ρ m as, Rl T ρ H m ∧ RS1 T ρ H as σ ∧ Good T W σ ρ H m (d.a F as m) fun a ρ' H' _ => ∀ v, Reps T ρ' H' a v → Q v H'
end
theorem weakE {X : Cx} {e : Expr} {t t' : TE} (h : PE X e t) (w : ∀ σ H Q, t' σ H Q → t σ H Q) : PE X e t' := ⟨fun pins s σ H Q I q => h.run pins s σ H Q I (w σ H Q q)⟩
theorem weakT {X : Cx} {e : Expr} {t t' : TT} (h : PT X e t) (w : ∀ σ H Q, t' σ H Q → t σ H Q) : PT X e t' := ⟨fun pins s σ H Q I q => h.run pins s σ H Q I (w σ H Q q)⟩
theorem weakA {X : Cx} {e : List Expr} {t t' : TA} (h : PA X e t) (w : ∀ σ H Q, t' σ H Q → t σ H Q) : PA X e t' := ⟨fun pos pins s σ H Q I q => h.run pos pins s σ H Q I (w σ H Q q)⟩

section
variable {T : Tb} {F : FT} {k : Kx} {n : Nat} {sx : Sx} {W : WX} {X : Cx} {fr : Bool} {pos : Pos}
theorem vis_of (ck : Ck T F k n sx W X) {x : Str} (h : visB sx.sc x = true) : Vis X.env.scope x := by
  rw [ck.sc]
  unfold visB at h
  split at h
  · exact .inl (by assumption)
  · exact .inr (.inl (by assumption))
  · exact .inr (.inr (by assumption))
  · cases h
theorem gl_of (ck : Ck T F k n sx W X) {x : Str} (h : glB sx.sc x = true) : Gl X x := by
  show X.env.scope.names.lookup x = some .globalImplicit
  rw [ck.sc]
  unfold glB at h
  split at h
  · assumption
  · cases h
theorem nm_of {x : Str} (h : nmB x = true) : (x == ("__debug__" : Str)) = false ∧ (x == ("__classdict__" : Str)) = false ∧ x ≠ "__name__" := by
  unfold nmB at h
  rw [Bool.and_eq_true, Bool.and_eq_true] at h
  refine ⟨by simpa using h.1.1, by simpa using h.1.2, by simpa using h.2⟩
theorem at_of (ck : Ck T F k n sx W X) {i : Nat} {x : Str} (h : atB k.N i x = true) : X.N[i]? = some x := by
  rw [ck.hN]
  exact of_decide_eq_true h

/-! ### names and constants -/
theorem x_var {i : Nat} {x : Str} (ck : Ck T F k n sx W X) (h1 : nmB x = true) (h2 : atB k.N i x = true) (h3 : visB sx.sc x = true) : PE X (.Name x pos) (spE T W F fr (dE (eVar i))) := by
  obtain ⟨a, b, _⟩ := nm_of h1
  refine weakE (pe_var (at_of ck h2) (vis_of ck h3) a b) fun σ H Q ⟨ρ, m, as, rl, rs, g⟩ => ?_
  have g' : Good T W σ ρ H m (match as[i]? with | some (some v) => .ok v m | _ => .no) _ := g
  cases e : as[i]? with
  | none => rw [e] at g'; exact g'.elim
  | some o =>
    cases o with
    | none => rw [e] at g'; exact g'.elim
    | some v =>
      rw [e] at g'
      obtain ⟨w, e2, r⟩ := rs.at_ i v e
      exact ⟨w, e2, Good.ok rl g' w r⟩
theorem lit {e : Expr} {v : AV} {x : V} (r : ∀ ρ H, Rep T ρ H v x) (h : PE X e (tC x)) : PE X e (spE T W F fr (dE (eLit v))) :=
  weakE h fun σ H Q ⟨ρ, m, as, rl, rs, g⟩ => Good.ok rl g x (r ρ H)
theorem x_gi {x : Str} {i : Int} (ck : Ck T F k n sx W X) (h1 : nmB x = true) (h2 : glB sx.sc x = true) (h3 : k.cs.lookup x = some i) : PE X (.Name x pos) (spE T W F fr (dE (eLit (.int i)))) := by
  obtain ⟨t, e⟩ := ck.cs x i h3
  exact lit (fun _ _ => .int i) (pe_glob (v := .int i) (gl_of ck h2) e ⟨t, rfl⟩ (nm_of h1).1)
theorem x_gs {x z : Str} (ck : Ck T F k n sx W X) (h1 : nmB x = true) (h2 : glB sx.sc x = true) (h3 : k.ss.lookup x = some z) : PE X (.Name x pos) (spE T W F fr (dE (eLit (.str z)))) := by
  obtain ⟨t, e⟩ := ck.ss x z h3
  exact lit (fun _ _ => .str z) (pe_glob (v := .str z) (gl_of ck h2) e ⟨t, rfl⟩ (nm_of h1).1)
/-- {} -/
theorem x_dnil : PE X (.Dict [] [] pos) (spE T W F fr (dE (eLit (.fd [] [])))) := by
  refine weakE pe_dnewK fun σ H Q ⟨ρ, m, as, rl, rs, g⟩ p hp => ?_
  have g' : Good T W σ ρ H m (.ok (AV.fd [] []) m) _ := g
  have np : p ∉ ρ := fun z => rl.muts.some z hp
  exact Good.ok (Nx.add rl hp).rl (g'.step (Nx.add rl hp)) _ (Rep.fd (kvs := []) upd_same ⟨np, fun z => mut_ne (rl.fb p z).2 hp⟩ .nil .nil)
theorem x_fnm {x : Str} {i : Nat} (ck : Ck T F k n sx W X) (h1 : nmB x = true) (h2 : glB sx.sc x = true) (h3 : k.gn.lookup x = some i) : PE X (.Name x pos) (spE T W F fr (dE (eLit (.fn i)))) := by
  obtain ⟨a, e1, e2⟩ := ck.gn x i h3
  exact lit (fun _ _ => .fn e1) (pe_glob (v := .ref a) (gl_of ck h2) e2 rfl (nm_of h1).1)

/-! ### operators -/
theorem x_bin {o : Op} {a b : D} {l r : Expr} (ck : Ck T F k n sx W X) (ha : ∀ fr, PE X l (spE T W F fr a)) (hb : ∀ fr, PE X r (spE T W F fr b)) : PE X (.BinOp l (opOf o) r pos) (spE T W F fr (dE (eBin o a b))) := by
  refine weakE (pe_op (op_bin (T := T)) (ha true) (hb true)) fun σ H Q ⟨ρ, m, as, rl, rs, g⟩ => ⟨ρ, m, as, rl, rs, ?_⟩
  refine (Good.bind g).imp fun x ρ1 H1 m1 n1 g1 v rv => ⟨ρ1, m1, as, n1.rl, rs.mono rl.muts n1.ext, ?_⟩
  refine (Good.bind g1).imp fun y ρ2 H2 m2 n2 g2 w rw' => ?_
  obtain ⟨z, m3, e, g3⟩ := Good.op g2
  exact ⟨fr, ρ2, m2, x, y, z, m3, n2.rl, rv.mono n1.rl.muts n2.ext, rw', e, fun ρ' H' u nx ru => g3 ρ' H' nx u ru⟩
theorem x_neg {a : D} {l : Expr} (ha : ∀ fr, PE X l (spE T W F fr a)) : PE X (.UnaryOp .USub l pos) (spE T W F fr (dE (eNeg a))) := by
  refine weakE (pe_un un_neg (ha fr)) fun σ H Q ⟨ρ, m, as, rl, rs, g⟩ => ⟨ρ, m, as, rl, rs, ?_⟩
  refine (Good.bind g).imp fun x ρ1 H1 m1 n1 g1 v rv => ?_
  obtain ⟨z, e, g2⟩ := Good.of n1.rl g1
  obtain ⟨i, e1, rfl⟩ := Option.map_eq_some_iff.mp e
  cases x <;> first | (cases e1; done) | skip
  cases e1
  cases rv
  exact ⟨_, rfl, g2 _ (.int _)⟩
theorem hu65 (ck : Ck T F k n sx W X) : X.A.units + 65 < cLine := by have := ck.room.un; omega
theorem cm_read {o : Cm} {a b : D} {P : AV → List Addr → Hp → AH → Prop} {σ : L2.St} {H : Hp} {ρ : List Addr} {m : AH} {as : ASt} {Q : VK} (rl : Rl T ρ H m) (rs : RS1 T ρ H as σ) (g : Good T W σ ρ H m (eCmp o a b fr F as m) P)
    (q : ∀ c ρ' H' m', P (.bl c) ρ' H' m' → Q (.bl c) H') : tOp (rCm T o) (spE T W F true a) (spE T W F true b) σ H Q := by
  refine ⟨ρ, m, as, rl, rs, ?_⟩
  refine (Good.bind g).imp fun x ρ1 H1 m1 n1 g1 v rv => ⟨ρ1, m1, as, n1.rl, rs.mono rl.muts n1.ext, ?_⟩
  refine (Good.bind g1).imp fun y ρ2 H2 m2 n2 g2 w rw' => ?_
  obtain ⟨z, e, g3⟩ := Good.of n2.rl g2
  obtain ⟨c, e1, rfl⟩ := Option.map_eq_some_iff.mp e
  exact ⟨ρ2, m2, x, y, c, n2.rl, rv.mono n1.rl.muts n2.ext, rw', e1, q _ _ _ _ g3⟩
theorem marks {o : Cm} {r : Expr} (h : notSet r = true) : behindInMarks (cmOf o) r = false := by
  cases r <;> first | rfl | cases h
theorem x_cmp {o : Cm} {a b : D} {l r : Expr} (ck : Ck T F k n sx W X) (ha : ∀ fr, PE X l (spE T W F fr a)) (hb : ∀ fr, PE X r (spE T W F fr b)) (hs : notSet r = true) : PE X (.Compare l [cmOf o] [r] pos) (spE T W F fr (dE (eCmp o a b))) :=
  weakE (pe_cmpR (op_cmp ck.hK (hu65 ck)) (ha true) (hb true) (marks hs)) fun σ H Q ⟨ρ, m, as, rl, rs, g⟩ => cm_read (fr := fr) rl rs g fun c ρ' H' m' q => q _ (.bl c)
theorem t_cmp {o : Cm} {a b : D} {l r : Expr} (ck : Ck T F k n sx W X) (ha : ∀ fr, PE X l (spE T W F fr a)) (hb : ∀ fr, PE X r (spE T W F fr b)) (hs : notSet r = true) : PT X (.Compare l [cmOf o] [r] pos) (spT T W F (dE (eCmp o a b))) :=
  weakT (pt_cmpR (op_cmp ck.hK (hu65 ck)) (ha true) (hb true) (marks hs)) fun σ H Q ⟨ρ, m, as, rl, rs, g⟩ => cm_read (fr := true) rl rs g fun c ρ' H' m' ⟨b, e, q⟩ => by
    have e' : some c = some b := e
    cases e'
    exact ⟨_, rfl, q⟩
/-- two comparisons in a row, of ints -/
def rCi (o : Cm) : R2 := fun x y H Q => ∃ i j c, x = .int i ∧ y = .int j ∧ cmI o i j = some c ∧ Q (.bl c) H
theorem op_ci {o : Cm} : OpR X (compareOp (cmOf o)) (rCi o) := by
  intro pins s σ H x y v u Q I rx ry ⟨i, j, c, e1, e2, e3, q⟩
  subst e1 e2
  cases o <;> first | (cases e3; done) | skip
  · cases e3; exact op_eq pins s σ H _ _ v u Q I rx ry ⟨rfl, by rw [dec_int]; exact q⟩
  · cases e3; exact op_ne pins s σ H _ _ v u Q I rx ry ⟨rfl, by rw [dec_int]; exact q⟩
  · cases e3; exact op_lt pins s σ H _ _ v u Q I rx ry ⟨_, _, rfl, rfl, q⟩
  · cases e3; exact op_le pins s σ H _ _ v u Q I rx ry ⟨_, _, rfl, rfl, q⟩
  · cases e3; exact op_gt pins s σ H _ _ v u Q I rx ry ⟨_, _, rfl, rfl, q⟩
  · cases e3; exact op_ge pins s σ H _ _ v u Q I rx ry ⟨_, _, rfl, rfl, q⟩
theorem ch_read {o o' : Cm} {a b c : D} {P : AV → List Addr → Hp → AH → Prop} {σ : L2.St} {H : Hp} {ρ : List Addr} {m : AH} {as : ASt} {Q : VK} (rl : Rl T ρ H m) (rs : RS1 T ρ H as σ) (g : Good T W σ ρ H m (eChn o o' a b c fr F as m) P)
    (q : ∀ c ρ' H' m', P (.bl c) ρ' H' m' → Q (.bl c) H') : tChain (rCi o) (rCi o') (spE T W F true a) (spE T W F true b) (spE T W F true c) σ H Q := by
  refine ⟨ρ, m, as, rl, rs, ?_⟩
  refine (Good.bind g).imp fun x ρ1 H1 m1 n1 g1 v rv => ⟨ρ1, m1, as, n1.rl, rs.mono rl.muts n1.ext, ?_⟩
  refine (Good.bind g1).imp fun y ρ2 H2 m2 n2 g2 w rw' => ?_
  cases x <;> first | exact g2.elim | skip
  rename_i i
  cases y <;> first | exact g2.elim | skip
  rename_i j
  cases rv
  cases rw'
  have g2' : Good T W σ ρ2 H2 m2 (match cmI o i j with | some false => .ok (.bl false) m2 | some true => (c.e true F as m2).bind fun u m3 => (match u with | .int k => .of ((cmI o' j k).map AV.bl) m3 | _ => .no) | none => .no) P := g2
  cases e : cmI o i j with
  | none => rw [e] at g2'; exact g2'.elim
  | some d =>
    refine ⟨i, j, d, rfl, rfl, e, d, rfl, ?_⟩
    cases d with
    | false =>
      rw [e] at g2'
      exact q _ _ _ _ (Good.ok n2.rl g2')
    | true =>
      rw [e] at g2'
      have rs2 := (rs.mono rl.muts n1.ext).mono n1.rl.muts n2.ext
      refine ⟨ρ2, m2, as, n2.rl, rs2, ?_⟩
      refine (Good.bind g2').imp fun z ρ3 H3 m3 n3 g3 u ru => ?_
      cases z <;> first | exact g3.elim | skip
      cases ru
      obtain ⟨t, e2, g4⟩ := Good.of n3.rl g3
      obtain ⟨f, e3, rfl⟩ := Option.map_eq_some_iff.mp e2
      exact ⟨_, _, _, rfl, rfl, e3, q _ _ _ _ g4⟩
theorem marks2 {o o' : Cm} {r r' : Expr} (h : notSet r' = true) : lastMarks [cmOf o, cmOf o'] [r, r'] = false := by
  show behindInMarks (cmOf o') r' = false
  exact marks h
theorem x_chn {o o' : Cm} {a b c : D} {l r r' : Expr} (ck : Ck T F k n sx W X) (ha : ∀ fr, PE X l (spE T W F fr a)) (hb : ∀ fr, PE X r (spE T W F fr b)) (hc : ∀ fr, PE X r' (spE T W F fr c)) (hs : notSet r' = true) : PE X (.Compare l [cmOf o, cmOf o'] [r, r'] pos) (spE T W F fr (dE (eChn o o' a b c))) :=
  weakE (pe_chain op_ci op_ci (ha true) (hb true) (hc true) (marks2 hs)) fun σ H Q ⟨ρ, m, as, rl, rs, g⟩ => ch_read (fr := fr) rl rs g fun c ρ' H' m' q => q _ (.bl c)
theorem t_chn {o o' : Cm} {a b c : D} {l r r' : Expr} (ck : Ck T F k n sx W X) (ha : ∀ fr, PE X l (spE T W F fr a)) (hb : ∀ fr, PE X r (spE T W F fr b)) (hc : ∀ fr, PE X r' (spE T W F fr c)) (hs : notSet r' = true) : PT X (.Compare l [cmOf o, cmOf o'] [r, r'] pos) (spT T W F (dE (eChn o o' a b c))) :=
  weakT (pt_chain op_ci op_ci (ha true) (hb true) (hc true) (marks2 hs)) fun σ H Q ⟨ρ, m, as, rl, rs, g⟩ => ch_read (fr := true) rl rs g fun c ρ' H' m' ⟨b, e, q⟩ => by
    have e' : some c = some b := e
    cases e'
    exact ⟨_, rfl, q⟩

/-! ### and, or, not, a if t else b -/
theorem x_and {a b : D} {l r : Expr} {rest : List Expr} (ha : ∀ fr, PE X l (spE T W F fr a)) (hb : ∀ fr, PE X (.BoolOp .And (r :: rest) pos) (spE T W F fr b)) : PE X (.BoolOp .And (l :: r :: rest) pos) (spE T W F fr (dE (eAnd a b))) := by
  refine weakE (pe_and (ha fr) (hb fr)) fun σ H Q ⟨ρ, m, as, rl, rs, g⟩ => ⟨ρ, m, as, rl, rs, ?_⟩
  refine (Good.bind g).imp fun x ρ1 H1 m1 n1 g1 v rv => ?_
  cases x <;> first | exact g1.elim | skip
  rename_i c
  cases rv
  refine ⟨c, rfl, ?_⟩
  cases c with
  | true => exact ⟨ρ1, m1, as, n1.rl, rs.mono rl.muts n1.ext, g1⟩
  | false => exact Good.ok n1.rl g1 _ (.bl false)
theorem x_or {a b : D} {l r : Expr} {rest : List Expr} (ha : ∀ fr, PE X l (spE T W F fr a)) (hb : ∀ fr, PE X (.BoolOp .Or (r :: rest) pos) (spE T W F fr b)) : PE X (.BoolOp .Or (l :: r :: rest) pos) (spE T W F fr (dE (eOr a b))) := by
  refine weakE (pe_or (ha fr) (hb fr)) fun σ H Q ⟨ρ, m, as, rl, rs, g⟩ => ⟨ρ, m, as, rl, rs, ?_⟩
  refine (Good.bind g).imp fun x ρ1 H1 m1 n1 g1 v rv => ?_
  cases x <;> first | exact g1.elim | skip
  rename_i c
  cases rv
  refine ⟨c, rfl, ?_⟩
  cases c with
  | false => exact ⟨ρ1, m1, as, n1.rl, rs.mono rl.muts n1.ext, g1⟩
  | true => exact Good.ok n1.rl g1 _ (.bl true)
theorem w_and {a b : D} {l r : Expr} {rest : List Expr} (ha : PT X l (spT T W F a)) (hb : PW X (.BoolOp .And (r :: rest) pos) (spT T W F b)) : PW X (.BoolOp .And (l :: r :: rest) pos) (spT T W F (dE (eAnd a b))) := by
  refine ⟨fun wh pins s σ H Q I ⟨ρ, m, as, rl, rs, g⟩ => (pw_and ha hb).run wh pins s σ H Q I ⟨ρ, m, as, rl, rs, ?_⟩⟩
  refine (Good.bind g).imp fun x ρ1 H1 m1 n1 g1 => ?_
  cases x <;> first | exact g1.elim | skip
  rename_i c
  refine ⟨c, rfl, ?_⟩
  cases c with
  | true => exact ⟨ρ1, m1, as, n1.rl, rs.mono rl.muts n1.ext, g1⟩
  | false =>
    obtain ⟨b, e, q⟩ := Good.ok n1.rl g1
    cases e
    exact q
theorem w_or {a b : D} {l r : Expr} {rest : List Expr} (ha : PT X l (spT T W F a)) (hb : PW X (.BoolOp .Or (r :: rest) pos) (spT T W F b)) : PW X (.BoolOp .Or (l :: r :: rest) pos) (spT T W F (dE (eOr a b))) := by
  refine ⟨fun wh pins s σ H Q I ⟨ρ, m, as, rl, rs, g⟩ => (pw_or ha hb).run wh pins s σ H Q I ⟨ρ, m, as, rl, rs, ?_⟩⟩
  refine (Good.bind g).imp fun x ρ1 H1 m1 n1 g1 => ?_
  cases x <;> first | exact g1.elim | skip
  rename_i c
  refine ⟨c, rfl, ?_⟩
  cases c with
  | false => exact ⟨ρ1, m1, as, n1.rl, rs.mono rl.muts n1.ext, g1⟩
  | true =>
    obtain ⟨b, e, q⟩ := Good.ok n1.rl g1
    cases e
    exact q
theorem w_one {op : BoolOp} {a : D} {l : Expr} (ha : PT X l (spT T W F a)) : PW X (.BoolOp op [l] pos) (spT T W F a) := by
  cases op with
  | And => exact pw_and1 ha
  | Or => exact pw_or1 ha
theorem x_not {a : D} {l : Expr} (ha : ∀ fr, PE X l (spE T W F fr a)) : PE X (.UnaryOp .Not l pos) (spE T W F fr (dE (eNot a))) := by
  refine weakE (pe_not (ha fr)) fun σ H Q ⟨ρ, m, as, rl, rs, g⟩ => ⟨ρ, m, as, rl, rs, ?_⟩
  refine (Good.bind g).imp fun x ρ1 H1 m1 n1 g1 v rv => ?_
  cases x <;> first | exact g1.elim | skip
  rename_i c
  cases rv
  exact ⟨c, rfl, Good.ok n1.rl g1 _ (.bl _)⟩
theorem t_not {a : D} {l : Expr} (ha : PT X l (spT T W F a)) : PT X (.UnaryOp .Not l pos) (spT T W F (dE (eNot a))) := by
  refine weakT (pt_not ha) fun σ H Q ⟨ρ, m, as, rl, rs, g⟩ => ⟨ρ, m, as, rl, rs, ?_⟩
  refine (Good.bind g).imp fun x ρ1 H1 m1 n1 g1 => ?_
  cases x <;> first | exact g1.elim | skip
  rename_i c
  obtain ⟨b, e, q⟩ := Good.ok n1.rl g1
  cases e
  exact ⟨c, rfl, q⟩
theorem x_ite {c a b : D} {t l r : Expr} (hc : PT X t (spT T W F c)) (ha : ∀ fr, PE X l (spE T W F fr a)) (hb : ∀ fr, PE X r (spE T W F fr b)) : PE X (.IfExp t l r pos) (spE T W F fr (dE (eIte c a b))) := by
  refine weakE (pe_ifExp hc (ha fr) (hb fr)) fun σ H Q ⟨ρ, m, as, rl, rs, g⟩ => ⟨ρ, m, as, rl, rs, ?_⟩
  refine (Good.bind g).imp fun x ρ1 H1 m1 n1 g1 => ?_
  have g1' : Good T W σ ρ1 H1 m1 (match truV m1 x with | some true => a.e fr F as m1 | some false => b.e fr F as m1 | none => .no) _ := g1
  cases e : truV m1 x with
  | none => rw [e] at g1'; exact g1'.elim
  | some d =>
    rw [e] at g1'
    refine ⟨d, rfl, ?_⟩
    cases d with
    | true => exact ⟨ρ1, m1, as, n1.rl, rs.mono rl.muts n1.ext, g1'⟩
    | false => exact ⟨ρ1, m1, as, n1.rl, rs.mono rl.muts n1.ext, g1'⟩
/-- a value's truth -/
theorem tru_rep {ρ : List Addr} {H : Hp} {m : AH} {a : AV} {x : V} {b : Bool} (hK : X.K = T.K) (rl : Rl T ρ H m) (r : Rep T ρ H a x) (h : truV m a = some b) (hs : ∀ z, a ≠ .str z) : TruV X.K x H b := by
  have emp : ∀ {xs : List AV} {vs : List V}, Reps T ρ H xs vs → xs.isEmpty = vs.isEmpty := fun h => by cases h <;> rfl
  cases r with
  | non => cases h; rfl
  | bl c => cases h; rfl
  | int i => cases h; rfl
  | str z => cases h
  | tup h1 r1 => cases h; exact .inr (.inl ⟨_, SqT.tup h1, by rw [emp r1]⟩)
  | fl h1 _ r1 => cases h; exact .inl ⟨_, SqL.of h1, by rw [emp r1]⟩
  | sc h1 r1 => cases h; exact .inl ⟨_, by rw [hK]; exact h1.sql, by rw [emp r1]⟩
  | ref ha =>
    obtain ⟨⟨e, xs⟩, h1, h2⟩ := Option.map_eq_some_iff.mp (show (getL m _).map (fun p => !p.2.isEmpty) = some b from h)
    obtain ⟨vs, h3, r1⟩ := rl.list h1 ha
    exact .inl ⟨vs, SqL.of h3, by rw [← h2]; show (!xs.isEmpty) = _; rw [emp r1]⟩
  | fn _ => cases h
  | obj _ _ _ => cases h
  | fd _ _ _ _ => cases h
theorem plain_true {e : Expr} (h : plainT e = true) (env : Env) (whole : Sem Value) : isTrue e env whole = (do let v ← whole; standAt e.pos; holding [v] (truthy v)) := by
  cases e <;> first | rfl | (cases h; done) | skip
  rename_i op x pos
  cases op <;> first | rfl | (cases h; done)
theorem t_plain {a : D} {e : Expr} (ck : Ck T F k n sx W X) (ha : ∀ fr, PE X e (spE T W F fr a)) (h : plainT e = true) : PT X e (spT T W F a) := by
  refine weakT (pt_truth (ha true) (plain_true h _)) fun σ H Q ⟨ρ, m, as, rl, rs, g⟩ => ⟨ρ, m, as, rl, rs, ?_⟩
  refine g.imp fun x ρ1 H1 m1 n1 ⟨b, e, q⟩ v rv => ⟨b, tru_rep ck.hK n1.rl rv e (fun z h => by subst h; cases e), q⟩

/-! ### rows, displays -/
theorem a_nil : PA X [] (spA T W F { a := fun _ _ m => .ok [] m }) := weakA pa_nil fun σ H Q ⟨ρ, m, as, rl, rs, g⟩ => Good.ok rl g [] .nil
theorem star_no {e : Expr} (h : notStar e = true) (es : List Expr) (env : Env) : starEach (e :: es) env = (false, eval e env) :: starEach es env := by
  cases e <;> first | rfl | cases h
theorem a_cons {a b : D} {e : Expr} {es : List Expr} (hs : notStar e = true) (ha : ∀ fr, PE X e (spE T W F fr a)) (hb : PA X es (spA T W F b)) : PA X (e :: es) (spA T W F { a := aCons a b }) := by
  refine weakA (pa_cons (ha false) hb (star_no hs _ _)) fun σ H Q ⟨ρ, m, as, rl, rs, g⟩ => ⟨ρ, m, as, rl, rs, ?_⟩
  refine (Good.bind g).imp fun x ρ1 H1 m1 n1 g1 v rv => ⟨ρ1, m1, as, n1.rl, rs.mono rl.muts n1.ext, ?_⟩
  refine (Good.bind g1).imp fun ys ρ2 H2 m2 n2 g2 vs rvs => ?_
  exact Good.ok n2.rl g2 _ (.cons (rv.mono n1.rl.muts n2.ext) rvs)
theorem x_tup {es : D} {l : List Expr} {j : Nat} (ha : PA X l (spA T W F es)) : PE X (.Tuple l j pos) (spE T W F fr (dE (eTup es))) := by
  refine weakE (px_tup ha) fun σ H Q ⟨ρ, m, as, rl, rs, g⟩ => ⟨ρ, m, as, rl, rs, ?_⟩
  refine (Good.bind g).imp fun xs ρ1 H1 m1 n1 g1 vs rvs => ?_
  obtain ⟨z, m2, e, g2⟩ := Good.op g1
  exact mkT_ok e n1.rl rvs fun ρ' H' v nx rv => g2 ρ' H' nx v rv
theorem x_lst {es : D} {l : List Expr} (ha : PA X l (spA T W F es)) : PE X (.List l pos) (spE T W F fr (dE (eLst es))) := by
  refine weakE (pe_lst ha) fun σ H Q ⟨ρ, m, as, rl, rs, g⟩ => ⟨ρ, m, as, rl, rs, ?_⟩
  refine (Good.bind g).imp fun xs ρ1 H1 m1 n1 g1 vs rvs => ?_
  obtain ⟨z, m2, e, g2⟩ := Good.op g1
  exact newL_ok e n1.rl rvs fun ρ' H' v nx rv => g2 ρ' H' nx v rv

/-! ### places, slices -/
def rIdx (T : Tb) : R2 := fun x y H Q => ∃ ρ m a b r, Rl T ρ H m ∧ Rep T ρ H a x ∧ Rep T ρ H b y ∧ idxV a b m = some r ∧ ∀ v, Rep T ρ H r v → Q v H
theorem at_rep {ρ : List Addr} {H : Hp} {xs : List AV} {vs : List V} {i : Int} {r : AV} (rs : Reps T ρ H xs vs) (h : ixA xs i = some r) : ∃ v, atI vs i = some v ∧ Rep T ρ H r v := by
  unfold ixA atI at h
  obtain ⟨j, h1, h2⟩ := Option.bind_eq_some_iff.mp h
  obtain ⟨v, h3, h4⟩ := rs.get h2
  exact ⟨v, by unfold atI; rw [← rs.length, h1]; exact h3, h4⟩
theorem ix_any (hK : X.K = T.K) : IxR X (rIdx T) := by
  intro value slice pins s σ H x y v u Q I rx ry ⟨ρ, m, a, b, r, rl, ra, rb, e, q⟩ hs
  cases b <;> first | (cases e; done) | skip
  rename_i i
  cases rb
  have e' : (match items m a with | some xs => ixA xs i | none => none) = some r := e
  cases hi : items m a with
  | none => rw [hi] at e'; cases e'
  | some xs =>
    rw [hi] at e'
    obtain ⟨p, vs, rfl, rv, h⟩ := items_ok rl hi ra
    obtain ⟨w, h1, h2⟩ := at_rep rv e'
    rcases h with ⟨h, _⟩ | ⟨⟨o1, h⟩, _⟩
    · exact ix_list value slice pins s σ H _ _ v u Q I rx ry ⟨p, vs, i, w, rfl, rfl, by rw [hK]; exact h, h1, q w h2⟩ hs
    · exact ix_tup value slice pins s σ H _ _ v u Q I rx ry ⟨p, vs, i, w, rfl, rfl, SqT.tup h, h1, q w h2⟩ hs
theorem plain_ix {e : Expr} (h : notSlice e = true) : PlainIx e := by
  cases e <;> first | exact fun _ _ => rfl | cases h
theorem x_idx {a b : D} {l r : Expr} (ck : Ck T F k n sx W X) (hs : notSlice r = true) (ha : ∀ fr, PE X l (spE T W F fr a)) (hb : ∀ fr, PE X r (spE T W F fr b)) : PE X (.Subscript l r pos) (spE T W F fr (dE (eIdx a b))) := by
  refine weakE (pe_ix (ix_any ck.hK) (ha true) (hb true) (plain_ix hs)) fun σ H Q ⟨ρ, m, as, rl, rs, g⟩ => ⟨ρ, m, as, rl, rs, ?_⟩
  refine (Good.bind g).imp fun x ρ1 H1 m1 n1 g1 v rv => ⟨ρ1, m1, as, n1.rl, rs.mono rl.muts n1.ext, ?_⟩
  refine (Good.bind g1).imp fun y ρ2 H2 m2 n2 g2 w rw' => ?_
  obtain ⟨z, e, g3⟩ := Good.of n2.rl g2
  exact ⟨ρ2, m2, x, y, z, n2.rl, rv.mono n1.rl.muts n2.ext, rw', e, g3⟩
def rSlc (T : Tb) : V → Option Int → Option Int → Hp → VK → Prop := fun x lo hi H Q => ∃ fr ρ m a r m', Rl T ρ H m ∧ Rep T ρ H a x ∧ sliceV fr a lo hi m = some (r, m') ∧ ∀ ρ' H' v, Nx T ρ H m ρ' H' m' → Rep T ρ' H' r v → Q v H'
theorem cut_rep {ρ : List Addr} {H : Hp} {xs : List AV} {vs : List V} (rs : Reps T ρ H xs vs) (lo hi : Option Int) : Reps T ρ H (cutA xs lo hi) (cutV vs lo hi) := by
  unfold cutA cutV
  rw [← rs.length]
  exact (rs.drop _).take _
theorem cut_whole {xs : List AV} {lo hi : Option Int} (h : HT.sIx xs.length 0 lo = 0 ∧ HT.sIx xs.length xs.length hi = xs.length) : cutA xs lo hi = xs := by
  unfold cutA
  rw [h.1, h.2]
  simp
theorem sl_any (hK : X.K = T.K) : SlR X (rSlc T) := by
  intro pins s σ H x v vl vu lo hi sl Q I rx hs pl pu ⟨fr, ρ, m, a, r, m', rl, ra, e, q⟩
  cases a with
  | tup xs =>
    cases e
    cases ra with
    | tup h1 r1 =>
      refine sx_cut pins s σ H _ v vl vu lo hi sl Q I rx hs pl pu ⟨_, _, rfl, SqT.tup h1, fun z => ?_, fun p us hp => ?_⟩
      · refine q ρ H _ (Nx.refl rl) ?_
        rw [cut_whole (by rw [r1.length]; exact z)]
        exact .tup h1 r1
      · exact q ρ _ _ (Nx.add rl hp) (.tup ⟨upd_same, rfl⟩ ((cut_rep r1 lo hi).mono rl.muts (Ext.add hp)))
  | fl xs =>
    obtain ⟨p, vs, rfl, hp, rv⟩ := lstI_ok rl (v := .fl xs) rfl ra
    exact sl_list pins s σ H _ v vl vu lo hi sl Q I rx hs pl pu ⟨p, vs, rfl, SqL.of hp, (newL_ok e rl (cut_rep rv lo hi) q).2⟩
  | ref i =>
    have e' : (match lstI m (.ref i) with | some xs => newL fr (cutA xs lo hi) m | none => none) = some (r, m') := e
    cases hi' : lstI m (.ref i) with
    | none => rw [hi'] at e'; cases e'
    | some xs =>
      rw [hi'] at e'
      obtain ⟨p, vs, rfl, hp, rv⟩ := lstI_ok rl hi' ra
      exact sl_list pins s σ H _ v vl vu lo hi sl Q I rx hs pl pu ⟨p, vs, rfl, SqL.of hp, (newL_ok e' rl (cut_rep rv lo hi) q).2⟩
  | _ => cases e
def spO (T : Tb) (W : WX) (F : FT) (d : D) : TO := fun σ H Q => ∃ ρ m as, Rl T ρ H m ∧ RS1 T ρ H as σ ∧ Good T W σ ρ H m (d.o F as m) fun a ρ' H' _ => Q a H'
theorem weakO {e : Option Expr} {t t' : TO} (h : PO X e t) (w : ∀ σ H Q, t' σ H Q → t σ H Q) : PO X e t' := ⟨fun pins s σ H Q I q => h.run pins s σ H Q I (w σ H Q q)⟩
theorem o_none : PO X none (spO T W F { o := fun _ _ m => .ok none m }) := weakO po_none fun σ H Q ⟨ρ, m, as, rl, rs, g⟩ => Good.ok rl g
theorem o_some {e : SE} {ex : Expr} (ha : ∀ fr, PE X ex (spE T W F fr (dE e))) : PO X (some ex) (spO T W F (dE e)) := by
  refine weakO (po_some (ha true)) fun σ H Q ⟨ρ, m, as, rl, rs, g⟩ => ⟨ρ, m, as, rl, rs, ?_⟩
  refine (Good.bind g).imp fun x ρ1 H1 m1 n1 g1 v rv => ?_
  cases x <;> first | exact g1.elim | skip
  cases rv
  exact ⟨_, rfl, Good.ok n1.rl g1⟩
theorem x_slc {a lo hi : D} {l : Expr} {u v : Option Expr} {p : Pos} (ck : Ck T F k n sx W X) (ha : ∀ fr, PE X l (spE T W F fr a)) (hl : PO X u (spO T W F lo)) (hh : PO X v (spO T W F hi)) : PE X (.Subscript l (.Slice u v none p) pos) (spE T W F fr (dE (eSlc a lo hi))) := by
  refine weakE (pe_slice (sl_any ck.hK) (ha true) hl hh) fun σ H Q ⟨ρ, m, as, rl, rs, g⟩ => ⟨ρ, m, as, rl, rs, ?_⟩
  refine (Good.bind g).imp fun x ρ1 H1 m1 n1 g1 v rv => ⟨ρ1, m1, as, n1.rl, rs.mono rl.muts n1.ext, ?_⟩
  refine (Good.bind g1).imp fun lo' ρ2 H2 m2 n2 g2 => ⟨ρ2, m2, as, n2.rl, (rs.mono rl.muts n1.ext).mono n1.rl.muts n2.ext, ?_⟩
  refine (Good.bind g2).imp fun hi' ρ3 H3 m3 n3 g3 => ?_
  obtain ⟨z, m4, e, g4⟩ := Good.op g3
  exact ⟨fr, ρ3, m3, x, z, m4, n3.rl, (rv.mono n1.rl.muts n2.ext).mono n2.rl.muts n3.ext, e, fun ρ' H' v nx rv => g4 ρ' H' nx v rv⟩
end
end Mi
set_option Elab.async false
set_option linter.all false
set_option maxRecDepth 100000
set_option maxHeartbeats 4000000
/-! Mini: built-in functions -/
namespace Mi
open PySem PySem.Spec PyProof.Rows L2

/-! ### sorting, greatest, least -/
theorem insI_perm (x : Int) : ∀ ys : List Int, (insI x ys).Perm (x :: ys)
  | [] => List.Perm.refl _
  | y :: ys => by
    unfold insI
    split
    · exact List.Perm.refl _
    · exact ((insI_perm x ys).cons y).trans (List.Perm.swap x y ys)
theorem sortI_perm : ∀ xs : List Int, (sortI xs).Perm xs
  | [] => List.Perm.refl _
  | x :: xs => (insI_perm x (sortI xs)).trans ((sortI_perm xs).cons x)
theorem insI_sorted (x : Int) : ∀ {ys : List Int}, ys.Pairwise (· ≤ ·) → (insI x ys).Pairwise (· ≤ ·)
  | [], _ => by simp [insI]
  | y :: ys, h => by
    unfold insI
    obtain ⟨h1, h2⟩ := List.pairwise_cons.mp h
    split
    · rename_i c
      refine List.pairwise_cons.mpr ⟨fun z hz => ?_, h⟩
      rcases List.mem_cons.mp hz with rfl | hz
      · exact c
      · exact Int.le_trans c (h1 z hz)
    · rename_i c
      refine List.pairwise_cons.mpr ⟨fun z hz => ?_, insI_sorted x h2⟩
      rcases List.mem_cons.mp ((insI_perm x ys).mem_iff.mp hz) with rfl | hz
      · omega
      · exact h1 z hz
theorem sortI_sorted : ∀ xs : List Int, (sortI xs).Pairwise (· ≤ ·)
  | [] => List.Pairwise.nil
  | x :: xs => insI_sorted x (sortI_sorted xs)
theorem sorted_uniq : ∀ {xs ys : List Int}, xs.Perm ys → xs.Pairwise (· ≤ ·) → ys.Pairwise (· ≤ ·) → xs = ys
  | [], ys, p, _, _ => by rw [List.nil_perm.mp p]
  | x :: xs, [], p, _, _ => by cases List.perm_nil.mp p
  | x :: xs, y :: ys, p, h1, h2 => by
    obtain ⟨a1, a2⟩ := List.pairwise_cons.mp h1
    obtain ⟨b1, b2⟩ := List.pairwise_cons.mp h2
    have e : x = y := by
      have m1 : x ∈ y :: ys := p.mem_iff.mp List.mem_cons_self
      have m2 : y ∈ x :: xs := p.mem_iff.mpr List.mem_cons_self
      rcases List.mem_cons.mp m1 with q | q
      · exact q
      · rcases List.mem_cons.mp m2 with q2 | q2
        · exact q2.symm
        · exact Int.le_antisymm (a1 y q2) (b1 x q)
    subst e
    rw [sorted_uniq (List.perm_cons x |>.mp p) a2 b2]
theorem maxI_spec : ∀ (xs : List Int) (a : Int), (maxI a xs = a ∨ maxI a xs ∈ xs) ∧ a ≤ maxI a xs ∧ ∀ y ∈ xs, y ≤ maxI a xs
  | [], a => ⟨.inl rfl, Int.le_refl _, fun _ h => nomatch h⟩
  | x :: xs, a => by
    obtain ⟨h1, h2, h3⟩ := maxI_spec xs (if a < x then x else a)
    show (maxI (if a < x then x else a) xs = a ∨ maxI (if a < x then x else a) xs ∈ x :: xs) ∧ a ≤ maxI (if a < x then x else a) xs ∧ ∀ y ∈ x :: xs, y ≤ maxI (if a < x then x else a) xs
    generalize maxI (if a < x then x else a) xs = z at *
    refine ⟨?_, ?_, fun y hy => ?_⟩
    · rcases h1 with h1 | h1
      · split at h1
        · exact .inr (by rw [h1]; exact List.mem_cons_self)
        · exact .inl h1
      · exact .inr (List.mem_cons_of_mem _ h1)
    · split at h2 <;> omega
    · rcases List.mem_cons.mp hy with rfl | hy
      · split at h2 <;> omega
      · exact h3 y hy
theorem minI_spec : ∀ (xs : List Int) (a : Int), (minI a xs = a ∨ minI a xs ∈ xs) ∧ minI a xs ≤ a ∧ ∀ y ∈ xs, minI a xs ≤ y
  | [], a => ⟨.inl rfl, Int.le_refl _, fun _ h => nomatch h⟩
  | x :: xs, a => by
    obtain ⟨h1, h2, h3⟩ := minI_spec xs (if x < a then x else a)
    show (minI (if x < a then x else a) xs = a ∨ minI (if x < a then x else a) xs ∈ x :: xs) ∧ minI (if x < a then x else a) xs ≤ a ∧ ∀ y ∈ x :: xs, minI (if x < a then x else a) xs ≤ y
    generalize minI (if x < a then x else a) xs = z at *
    refine ⟨?_, ?_, fun y hy => ?_⟩
    · rcases h1 with h1 | h1
      · split at h1
        · exact .inr (by rw [h1]; exact List.mem_cons_self)
        · exact .inl h1
      · exact .inr (List.mem_cons_of_mem _ h1)
    · split at h2 <;> omega
    · rcases List.mem_cons.mp hy with rfl | hy
      · split at h2 <;> omega
      · exact h3 y hy
theorem sumI_sum : ∀ ns : List Int, sumI ns = ns.sum
  | [] => rfl
  | x :: xs => by rw [sumI, sumI_sum xs, List.sum_cons]

theorem ints_rep {T : Tb} {ρ : List Addr} {H : Hp} : ∀ {xs : List AV} {vs : List V} {ns : List Int}, Reps T ρ H xs vs → optM intOf xs = some ns → vs = ns.map V.int
  | [], _, _, r, h => by cases r; rw [optM_nil h]; rfl
  | x :: xs, _, _, r, h => by
    obtain ⟨y, t, h1, h2, rfl⟩ := optM_cons h
    cases r with
    | cons r1 r2 =>
      cases x <;> first | (cases h1; done) | skip
      cases h1
      cases r1
      rw [ints_rep r2 h2]
      rfl
theorem bools_rep {T : Tb} {ρ : List Addr} {H : Hp} : ∀ {xs : List AV} {vs : List V} {ns : List Bool}, Reps T ρ H xs vs → optM boolOf xs = some ns → vs = ns.map V.bl
  | [], _, _, r, h => by cases r; rw [optM_nil h]; rfl
  | x :: xs, _, _, r, h => by
    obtain ⟨y, t, h1, h2, rfl⟩ := optM_cons h
    cases r with
    | cons r1 r2 =>
      cases x <;> first | (cases h1; done) | skip
      cases h1
      cases r1
      rw [bools_rep r2 h2]
      rfl
theorem reps_ints {T : Tb} {ρ : List Addr} {H : Hp} : ∀ ns : List Int, Reps T ρ H (ns.map AV.int) (ns.map V.int)
  | [] => .nil
  | x :: xs => .cons (.int x) (reps_ints xs)
theorem intsOf_ok {T : Tb} {ρ : List Addr} {H : Hp} {m : AH} {v : AV} {x : V} {ns : List Int} (rl : Rl T ρ H m) (h : intsOf m v = some ns) (r : Rep T ρ H v x) : ∃ p, x = .ref p ∧ SqL T.K H p (ns.map V.int) := by
  have main : ∀ xs, items m v = some xs → optM intOf xs = some ns → (∀ ys, v ≠ .tup ys) → ∃ p, x = .ref p ∧ SqL T.K H p (ns.map V.int) := fun xs h1 h2 nt => by
    obtain ⟨p, vs, rfl, rv, k⟩ := items_ok rl h1 r
    rcases k with ⟨k, _⟩ | ⟨_, k⟩
    · exact ⟨p, rfl, by rw [← ints_rep rv h2]; exact k⟩
    · exact absurd k (nt xs)
  unfold intsOf at h
  split at h
  · cases h
  · rename_i nt
    cases hi : items m v with
    | none => rw [hi] at h; cases h
    | some xs => rw [hi] at h; exact main xs hi h fun ys e => nt ys e
theorem boolsOf_ok {T : Tb} {ρ : List Addr} {H : Hp} {m : AH} {v : AV} {x : V} {ns : List Bool} (rl : Rl T ρ H m) (h : boolsOf m v = some ns) (r : Rep T ρ H v x) : ∃ p, x = .ref p ∧ SqL T.K H p (ns.map V.bl) := by
  have main : ∀ xs, items m v = some xs → optM boolOf xs = some ns → (∀ ys, v ≠ .tup ys) → ∃ p, x = .ref p ∧ SqL T.K H p (ns.map V.bl) := fun xs h1 h2 nt => by
    obtain ⟨p, vs, rfl, rv, k⟩ := items_ok rl h1 r
    rcases k with ⟨k, _⟩ | ⟨_, k⟩
    · exact ⟨p, rfl, by rw [← bools_rep rv h2]; exact k⟩
    · exact absurd k (nt xs)
  unfold boolsOf at h
  split at h
  · cases h
  · rename_i nt
    cases hi : items m v with
    | none => rw [hi] at h; cases h
    | some xs => rw [hi] at h; exact main xs hi h fun ys e => nt ys e

/-! ### the calls -/
def fnOfB : BI → Value
  | .len => .builtin "len" | .tuple => .type "tuple" | .list => .type "list" | .sum => .builtin "sum" | .all => .builtin "all" | .any => .builtin "any" | .int => .type "int" | .abs => .builtin "abs" | .sorted => .builtin "sorted"
  | .max2 => .builtin "max" | .min2 => .builtin "min" | .max1 => .builtin "max" | .min1 => .builtin "min" | .isInt => .builtin "isinstance" | .isBool => .builtin "isinstance" | .isTuple => .builtin "isinstance" | .isStr => .builtin "isinstance"
theorem boot_bi : ∀ b : BI, bootBuiltins (nameOfB b) = some (fnOfB b) := fun b => by
  cases b <;> first | exact boot_len | exact boot_tuple | exact boot_list | exact boot_sum | exact boot_all | exact boot_any | exact boot_int | exact boot_abs | exact boot_sorted | exact boot_max | exact boot_min | exact boot_isinstance
def rBi (T : Tb) (b : BI) : List V → Hp → VK → Prop := fun vs H Q => ∃ fr ρ m avs r m', Rl T ρ H m ∧ Reps T ρ H avs vs ∧ biV fr b avs m = some (r, m') ∧ ∀ ρ' H' v, Nx T ρ H m ρ' H' m' → Rep T ρ' H' r v → Q v H'
theorem reps1 {T : Tb} {ρ : List Addr} {H : Hp} {a : AV} {vs : List V} (h : Reps T ρ H [a] vs) : ∃ x, vs = [x] ∧ Rep T ρ H a x := by
  cases h with
  | cons h1 h2 => cases h2; exact ⟨_, rfl, h1⟩
theorem reps2 {T : Tb} {ρ : List Addr} {H : Hp} {a b : AV} {vs : List V} (h : Reps T ρ H [a, b] vs) : ∃ x y, vs = [x, y] ∧ Rep T ρ H a x ∧ Rep T ρ H b y := by
  cases h with
  | cons h1 h2 =>
    cases h2 with
    | cons h2 h3 => cases h3; exact ⟨_, _, rfl, h1, h2⟩
def tyA : AV → String
  | .non => "NoneType" | .bl _ => "bool" | .int _ => "int" | .str _ => "str" | .tup _ => "tuple" | .fd _ _ => "dict" | _ => "list"
/-- a value's class -/
theorem ty_rep {T : Tb} {ρ : List Addr} {H : Hp} {m : AH} {a : AV} {x : V} (rl : Rl T ρ H m) (r : Rep T ρ H a x) (nf : (∀ k, a ≠ .fn k) ∧ ∀ c xs, a ≠ .obj c xs) :
    ∃ t : String, TyX T.K H x (.type t) ∧ t = tyA a := by
  cases r with
  | non => exact ⟨_, .base .non, rfl⟩
  | bl b => exact ⟨_, .base (.bl b), rfl⟩
  | int i => exact ⟨_, .base (.int i), rfl⟩
  | str z => exact ⟨_, .base (.str z), rfl⟩
  | tup h _ => exact ⟨_, .fTuple h.1, rfl⟩
  | fl h _ _ => exact ⟨_, .base (.lst h), rfl⟩
  | sc h _ =>
    rcases h with ⟨o, h⟩ | ⟨o, its, n, h1, h2, _⟩
    · exact ⟨_, .base (.frz h), rfl⟩
    · exact ⟨_, .kList h1 h2, rfl⟩
  | @ref r a ha =>
    have hr : r < m.length := by
      rw [← rl.len]
      exact (List.getElem?_eq_some_iff.mp ha).1
    obtain ⟨o, ho⟩ : ∃ o, m[r]? = some o := ⟨_, List.getElem?_eq_getElem hr⟩
    cases o with
    | lst e xs =>
      obtain ⟨vs, h, _⟩ := rl.ob _ _ _ ha ho
      exact ⟨_, .base (.lst h), rfl⟩
  | fn _ => exact absurd rfl (nf.1 _)
  | obj _ _ _ => exact absurd rfl (nf.2 _ _)
  | fd h _ _ _ => exact ⟨_, .base (.dK h), rfl⟩
theorem kits : ∀ a ∈ (["NoneType", "bool", "int", "str", "tuple", "list", "dict"] : List String), ∀ c ∈ (["int", "bool", "tuple", "str"] : List String), kitB a c = some (a == c || (a == "bool" && c == "int")) := by decide +kernel
section
variable {X : Cx} {T : Tb}
theorem bi_isi {fr : Bool} {b : BI} {c : String} {a : AV} {x : V} {ρ : List Addr} {H : Hp} {m m' : AH} {r : AV} (rl : Rl T ρ H m) (ra : Rep T ρ H a x) (hb : (b = .isInt ∧ c = "int") ∨ (b = .isBool ∧ c = "bool") ∨ (b = .isTuple ∧ c = "tuple") ∨ (b = .isStr ∧ c = "str"))
    (e : bi1 fr b a m = some (r, m')) : ∃ t d, TyX T.K H x (.type t) ∧ PySem.W.kitOne T.K (.type t) (.type c) = some d ∧ r = .bl d ∧ m' = m := by
  have nf : (∀ k, a ≠ .fn k) ∧ ∀ c xs, a ≠ .obj c xs := ⟨(fun k z => by
    subst z
    rcases hb with ⟨rfl, _⟩ | ⟨rfl, _⟩ | ⟨rfl, _⟩ | ⟨rfl, _⟩ <;> cases e), (fun c xs z => by
    subst z
    rcases hb with ⟨rfl, _⟩ | ⟨rfl, _⟩ | ⟨rfl, _⟩ | ⟨rfl, _⟩ <;> cases e)⟩
  obtain ⟨t, ty, ht⟩ := ty_rep rl ra nf
  have mt : t ∈ (["NoneType", "bool", "int", "str", "tuple", "list", "dict"] : List String) := by
    rw [ht]
    cases a <;> simp [tyA]
  have mc : c ∈ (["int", "bool", "tuple", "str"] : List String) := by
    rcases hb with ⟨_, rfl⟩ | ⟨_, rfl⟩ | ⟨_, rfl⟩ | ⟨_, rfl⟩ <;> simp
  refine ⟨t, _, ty, kit_ty (kits t mt c mc), ?_⟩
  subst ht
  rcases hb with ⟨rfl, rfl⟩ | ⟨rfl, rfl⟩ | ⟨rfl, rfl⟩ | ⟨rfl, rfl⟩ <;> cases a <;> first | exact absurd rfl (nf.1 _) | exact absurd rfl (nf.2 _ _) | (cases e; exact ⟨rfl, rfl⟩)
theorem bi_one {fr : Bool} {b : BI} {avs : List AV} {m : AH} {r : AV × AH} (h1 : b ≠ .max2) (h2 : b ≠ .min2) (e : biV fr b avs m = some r) : ∃ a, avs = [a] ∧ bi1 fr b a m = some r := by
  match avs, e with
  | [], e => cases e
  | [a], e => exact ⟨a, rfl, e⟩
  | [a, c], e =>
    cases b <;> first | exact absurd rfl h1 | exact absurd rfl h2 | cases e
  | _ :: _ :: _ :: _, e => cases e
theorem bi_two {fr : Bool} {b : BI} {avs : List AV} {m : AH} {r : AV × AH} (hb : b = .max2 ∨ b = .min2) (e : biV fr b avs m = some r) : ∃ a c, avs = [a, c] ∧ bi2 b a c m = some r := by
  match avs, e with
  | [], e => cases e
  | [a], e => rcases hb with rfl | rfl <;> cases e
  | [a, c], e => exact ⟨a, c, rfl, e⟩
  | _ :: _ :: _ :: _, e => cases e
theorem one_len (hK : X.K = T.K) : CallR X (.builtin "len") (rBi T .len) := by
  intro pins s σ H xs us Q I r ⟨fr, ρ, m, avs, z, m', rl, ra, e, q⟩
  obtain ⟨a, rfl, e⟩ := bi_one (by decide) (by decide) e
  · obtain ⟨x, rfl, rx⟩ := reps1 ra
    have e' : (match items m a with | some xs => some (AV.int (xs.length : Nat), m) | none => (strL a).map fun n => (AV.int n, m)) = some (z, m') := e
    cases hi : items m a with
    | some ys =>
      rw [hi] at e'
      cases e'
      obtain ⟨p, vs, rfl, rv, k⟩ := items_ok rl hi rx
      refine call_len_seq pins s σ H _ us Q I r ⟨p, vs, rfl, ?_, by rw [← rv.length]; exact q ρ H _ (Nx.refl rl) (.int _)⟩
      rcases k with ⟨k, _⟩ | ⟨⟨o1, k⟩, _⟩
      · exact .inl (by rw [hK]; exact k)
      · exact .inr (SqT.tup k)
    | none =>
      rw [hi] at e'
      obtain ⟨l, h1, h2⟩ := Option.map_eq_some_iff.mp e'
      cases h2
      cases rx with
      | str y =>
        have h3 : (if okN y.length then some ((y.length : Nat) : Int) else none) = some l := h1
        by_cases c : okN y.length = true
        · rw [if_pos c] at h3
          cases h3
          exact call_len_str pins s σ H _ us Q I r ⟨y, rfl, okN_le c, q ρ H _ (Nx.refl rl) (.int _)⟩
        · rw [if_neg c] at h3; cases h3
      | _ => cases h1
theorem one_tuple (hK : X.K = T.K) : CallR X (.type "tuple") (rBi T .tuple) := by
  intro pins s σ H xs us Q I r ⟨fr, ρ, m, avs, z, m', rl, ra, e, q⟩
  obtain ⟨a, rfl, e⟩ := bi_one (by decide) (by decide) e
  · obtain ⟨x, rfl, rx⟩ := reps1 ra
    have e' : (match items m a with | some xs => some (AV.tup xs, m) | none => none) = some (z, m') := e
    cases hi : items m a with
    | none => rw [hi] at e'; cases e'
    | some ys =>
      rw [hi] at e'
      cases e'
      obtain ⟨p, vs, rfl, rv, k⟩ := items_ok rl hi rx
      refine cx_tup pins s σ H _ us Q I r ⟨p, vs, rfl, ?_⟩
      rcases k with ⟨k, _⟩ | ⟨⟨o1, k⟩, _⟩
      · exact .inl ⟨by rw [hK]; exact k, fun l us hl => q ρ _ _ (Nx.add rl hl) (.tup ⟨upd_same, rfl⟩ (rv.mono rl.muts (Ext.add hl)))⟩
      · exact .inr ⟨SqT.tup k, q ρ H _ (Nx.refl rl) (.tup k rv)⟩
theorem one_list (hK : X.K = T.K) : CallR X (.type "list") (rBi T .list) := by
  intro pins s σ H xs us Q I r ⟨fr, ρ, m, avs, z, m', rl, ra, e, q⟩
  obtain ⟨a, rfl, e⟩ := bi_one (by decide) (by decide) e
  · obtain ⟨x, rfl, rx⟩ := reps1 ra
    have e' : (match items m a with | some xs => newL fr xs m | none => none) = some (z, m') := e
    cases hi : items m a with
    | none => rw [hi] at e'; cases e'
    | some ys =>
      rw [hi] at e'
      obtain ⟨p, vs, rfl, rv, k⟩ := items_ok rl hi rx
      obtain ⟨_, k2⟩ := newL_ok e' rl rv q
      refine call_list_of pins s σ H _ us Q I r ⟨p, vs, rfl, ?_, k2⟩
      rcases k with ⟨k, _⟩ | ⟨⟨o1, k⟩, _⟩
      · exact .inl (by rw [hK]; exact k)
      · exact .inr (SqT.tup k)
theorem one_int : CallR X (.type "int") (rBi T .int) := by
  intro pins s σ H xs us Q I r ⟨fr, ρ, m, avs, z, m', rl, ra, e, q⟩
  obtain ⟨a, rfl, e⟩ := bi_one (by decide) (by decide) e
  · obtain ⟨x, rfl, rx⟩ := reps1 ra
    cases a <;> first | (cases e; done) | skip
    · cases e
      cases rx
      refine call_int1 pins s σ H _ us Q I r (.inr ⟨_, rfl, q ρ H _ (Nx.refl rl) (.int _)⟩)
    · cases e
      cases rx
      exact call_int1 pins s σ H _ us Q I r (.inl ⟨_, rfl, q ρ H _ (Nx.refl rl) (.int _)⟩)
theorem one_abs : CallR X (.builtin "abs") (rBi T .abs) := by
  intro pins s σ H xs us Q I r ⟨fr, ρ, m, avs, z, m', rl, ra, e, q⟩
  obtain ⟨a, rfl, e⟩ := bi_one (by decide) (by decide) e
  · obtain ⟨x, rfl, rx⟩ := reps1 ra
    cases a <;> first | (cases e; done) | skip
    cases e
    cases rx
    exact call_abs pins s σ H _ us Q I r ⟨_, rfl, q ρ H _ (Nx.refl rl) (.int _)⟩
theorem one_sum (hK : X.K = T.K) (hc : X.calm = true) : CallR X (.builtin "sum") (rBi T .sum) := by
  intro pins s σ H xs us Q I r ⟨fr, ρ, m, avs, z, m', rl, ra, e, q⟩
  obtain ⟨a, rfl, e⟩ := bi_one (by decide) (by decide) e
  · obtain ⟨x, rfl, rx⟩ := reps1 ra
    obtain ⟨ns, h1, h2⟩ := Option.map_eq_some_iff.mp (show (intsOf m a).map (fun ns => (AV.int (sumI ns), m)) = some (z, m') from e)
    cases h2
    obtain ⟨p, rfl, h3⟩ := intsOf_ok rl h1 rx
    exact cr_sum hc pins s σ H _ us Q I r ⟨p, ns, rfl, by rw [hK]; exact h3, by rw [← sumI_sum]; exact q ρ H _ (Nx.refl rl) (.int _)⟩
theorem one_all (hK : X.K = T.K) (hc : X.calm = true) : CallR X (.builtin "all") (rBi T .all) := by
  intro pins s σ H xs us Q I r ⟨fr, ρ, m, avs, z, m', rl, ra, e, q⟩
  obtain ⟨a, rfl, e⟩ := bi_one (by decide) (by decide) e
  · obtain ⟨x, rfl, rx⟩ := reps1 ra
    obtain ⟨ns, h1, h2⟩ := Option.map_eq_some_iff.mp (show (boolsOf m a).map (fun bs => (AV.bl (bs.all id), m)) = some (z, m') from e)
    cases h2
    obtain ⟨p, rfl, h3⟩ := boolsOf_ok rl h1 rx
    exact cr_all hc pins s σ H _ us Q I r ⟨p, ns, rfl, by rw [hK]; exact h3, q ρ H _ (Nx.refl rl) (.bl _)⟩
theorem one_any (hK : X.K = T.K) (hc : X.calm = true) : CallR X (.builtin "any") (rBi T .any) := by
  intro pins s σ H xs us Q I r ⟨fr, ρ, m, avs, z, m', rl, ra, e, q⟩
  obtain ⟨a, rfl, e⟩ := bi_one (by decide) (by decide) e
  · obtain ⟨x, rfl, rx⟩ := reps1 ra
    obtain ⟨ns, h1, h2⟩ := Option.map_eq_some_iff.mp (show (boolsOf m a).map (fun bs => (AV.bl (bs.any id), m)) = some (z, m') from e)
    cases h2
    obtain ⟨p, rfl, h3⟩ := boolsOf_ok rl h1 rx
    exact cr_any hc pins s σ H _ us Q I r ⟨p, ns, rfl, by rw [hK]; exact h3, q ρ H _ (Nx.refl rl) (.bl _)⟩
theorem one_sorted (hK : X.K = T.K) (hu : X.A.units + 65 < cLine) : CallR X (.builtin "sorted") (rBi T .sorted) := by
  intro pins s σ H xs us Q I r ⟨fr, ρ, m, avs, z, m', rl, ra, e, q⟩
  obtain ⟨a, rfl, e⟩ := bi_one (by decide) (by decide) e
  · obtain ⟨x, rfl, rx⟩ := reps1 ra
    have e' : (match intsOf m a with | some ns => newL fr ((sortI ns).map AV.int) m | none => (match lstI m a with | some xs => if ordA xs && srtA xs then newL fr (sortA xs) m else none | none => none)) = some (z, m') := e
    cases h1 : intsOf m a with
    | none =>
      rw [h1] at e'
      cases hl : lstI m a with
      | none => simp only [hl] at e'; cases e'
      | some xs =>
        simp only [hl] at e'
        by_cases c : (ordA xs && srtA xs) = true
        · rw [if_pos c] at e'
          obtain ⟨c1, c2⟩ := Bool.and_eq_true_iff.mp c
          obtain ⟨p, vs, rfl, hp, rvs⟩ := lstI_ok rl hl rx
          rw [Vals.ref1 r]
          refine sorted_ordA hK hu I hp rvs c1 c2 fun ws l _ rw' hl' => ?_
          obtain ⟨_, k2⟩ := newL_ok e' rl rw' q
          exact k2 l hl'
        · rw [if_neg c] at e'; cases e'
    | some ns =>
      rw [h1] at e'
      obtain ⟨p, rfl, h3⟩ := intsOf_ok rl h1 rx
      obtain ⟨_, k2⟩ := newL_ok e' rl (reps_ints _) q
      refine cr_sortedI pins s σ H _ us Q I r ⟨p, ns, rfl, by rw [hK]; exact h3, fun ns' l h4 h5 hl => ?_⟩
      rw [sorted_uniq (h4.trans (sortI_perm ns).symm) h5 (sortI_sorted ns)]
      exact k2 l hl
theorem one_max (hK : X.K = T.K) (hc : X.calm = true) : CallR X (.builtin "max") (rBi T .max1) := by
  intro pins s σ H xs us Q I r ⟨fr, ρ, m, avs, z, m', rl, ra, e, q⟩
  obtain ⟨a, rfl, e⟩ := bi_one (by decide) (by decide) e
  · obtain ⟨x, rfl, rx⟩ := reps1 ra
    have e' : (match intsOf m a with | some (a :: ns) => some (AV.int (maxI a ns), m) | _ => none) = some (z, m') := e
    cases h1 : intsOf m a with
    | none => rw [h1] at e'; cases e'
    | some ns =>
      cases ns with
      | nil => rw [h1] at e'; cases e'
      | cons y ys =>
        rw [h1] at e'
        cases e'
        obtain ⟨p, rfl, h3⟩ := intsOf_ok rl h1 rx
        refine cr_max hc pins s σ H _ us Q I r ⟨p, y :: ys, rfl, by rw [hK]; exact h3, Nat.succ_pos _, fun k k1 k2 => ?_⟩
        obtain ⟨m1, m2, m3⟩ := maxI_spec ys y
        have ek : k = maxI y ys := by
          refine Int.le_antisymm ?_ ?_
          · rcases List.mem_cons.mp k1 with rfl | k1
            · exact m2
            · exact m3 k k1
          · rcases m1 with m1 | m1
            · exact k2 _ (by rw [m1]; exact List.mem_cons_self)
            · exact k2 _ (List.mem_cons_of_mem _ m1)
        rw [ek]
        exact q ρ H _ (Nx.refl rl) (.int _)
theorem one_min (hK : X.K = T.K) (hc : X.calm = true) (hu : X.A.units + 65 < cLine) : CallR X (.builtin "min") (rBi T .min1) := by
  intro pins s σ H xs us Q I r ⟨fr, ρ, m, avs, z, m', rl, ra, e, q⟩
  obtain ⟨a, rfl, e⟩ := bi_one (by decide) (by decide) e
  · obtain ⟨x, rfl, rx⟩ := reps1 ra
    have e' : (match intsOf m a with | some (a :: ns) => some (AV.int (minI a ns), m) | some [] => none | none => (match lstI m a with | some (a :: xs) => if ordA (a :: xs) then some (minA a xs, m) else none | _ => none)) = some (z, m') := e
    cases h1 : intsOf m a with
    | none =>
      rw [h1] at e'
      cases hl : lstI m a with
      | none => simp only [hl] at e'; cases e'
      | some xs =>
        cases xs with
        | nil => simp only [hl] at e'; cases e'
        | cons y ys =>
          simp only [hl] at e'
          by_cases c : ordA (y :: ys) = true
          · rw [if_pos c] at e'
            cases e'
            obtain ⟨p, vs, rfl, hp, rvs⟩ := lstI_ok rl hl rx
            rw [Vals.ref1 r]
            exact min_ordA hK hc hu I hp rvs c fun w hw => q ρ H w (Nx.refl rl) hw
          · rw [if_neg c] at e'; cases e'
    | some ns =>
      cases ns with
      | nil => rw [h1] at e'; cases e'
      | cons y ys =>
        rw [h1] at e'
        cases e'
        obtain ⟨p, rfl, h3⟩ := intsOf_ok rl h1 rx
        refine cr_min hc pins s σ H _ us Q I r ⟨p, y :: ys, rfl, by rw [hK]; exact h3, Nat.succ_pos _, fun k k1 k2 => ?_⟩
        obtain ⟨m1, m2, m3⟩ := minI_spec ys y
        have ek : k = minI y ys := by
          refine Int.le_antisymm ?_ ?_
          · rcases m1 with m1 | m1
            · exact k2 _ (by rw [m1]; exact List.mem_cons_self)
            · exact k2 _ (List.mem_cons_of_mem _ m1)
          · rcases List.mem_cons.mp k1 with rfl | k1
            · exact m2
            · exact m3 k k1
        rw [ek]
        exact q ρ H _ (Nx.refl rl) (.int _)
theorem two_max (hc : X.calm = true) : CallR X (.builtin "max") (rBi T .max2) := by
  intro pins s σ H xs us Q I r ⟨fr, ρ, m, avs, z, m', rl, ra, e, q⟩
  obtain ⟨a, b, rfl, e⟩ := bi_two (by first | exact .inl rfl | exact .inr rfl) e
  · obtain ⟨x, y, rfl, rx, ry⟩ := reps2 ra
    cases a <;> first | (cases e; done) | skip
    cases b <;> first | (cases e; done) | skip
    cases e
    cases rx
    cases ry
    exact call_max2 hc pins s σ H _ us Q I r ⟨_, _, rfl, q ρ H _ (Nx.refl rl) (.int _)⟩
theorem two_min (hc : X.calm = true) : CallR X (.builtin "min") (rBi T .min2) := by
  intro pins s σ H xs us Q I r ⟨fr, ρ, m, avs, z, m', rl, ra, e, q⟩
  obtain ⟨a, b, rfl, e⟩ := bi_two (by first | exact .inl rfl | exact .inr rfl) e
  · obtain ⟨x, y, rfl, rx, ry⟩ := reps2 ra
    cases a <;> first | (cases e; done) | skip
    cases b <;> first | (cases e; done) | skip
    cases e
    cases rx
    cases ry
    exact call_min2 hc pins s σ H _ us Q I r ⟨_, _, rfl, q ρ H _ (Nx.refl rl) (.int _)⟩
end
end Mi
set_option Elab.async false
set_option linter.all false
set_option maxRecDepth 100000
set_option maxHeartbeats 4000000
/-! Mini: rows with stars, built-in calls, lists' methods -/
namespace Mi
open PySem PySem.Spec PyProof.Rows L2
section
variable {T : Tb} {F : FT} {k : Kx} {n : Nat} {sx : Sx} {W : WX} {X : Cx} {fr : Bool} {pos : Pos}
theorem a_star {a b : D} {e : Expr} {es : List Expr} {p : Pos} (hK : X.K = T.K) (ha : ∀ fr, PE X e (spE T W F fr a)) (hb : PA X es (spA T W F b)) : PA X (.Starred e p :: es) (spA T W F { a := aSt a b }) := by
  refine weakA (StX.pa_star (ha true) hb) fun σ H Q ⟨ρ, m, as, rl, rs, g⟩ => ⟨ρ, m, as, rl, rs, ?_⟩
  refine (Good.bind g).imp fun x ρ1 H1 m1 n1 g1 v rv => ?_
  have g1' : Good T W σ ρ1 H1 m1 (match items m1 x with | some xs => (b.a F as m1).bind fun ys m2 => .ok (xs ++ ys) m2 | none => .no) _ := g1
  cases hi : items m1 x with
  | none => rw [hi] at g1'; exact g1'.elim
  | some xs =>
    rw [hi] at g1'
    obtain ⟨q, vs, rfl, r1, h⟩ := items_ok n1.rl hi rv
    refine ⟨q, vs, rfl, ?_, ρ1, m1, as, n1.rl, rs.mono rl.muts n1.ext, ?_⟩
    · rcases h with ⟨h, _⟩ | ⟨⟨o1, h⟩, _⟩
      · exact .inr (by rw [hK]; exact h)
      · exact .inl (SqT.tup h)
    · refine (Good.bind g1').imp fun ys ρ2 H2 m2 n2 g2 ws rws => ?_
      exact Good.ok n2.rl g2 _ ((r1.mono n1.rl.muts n2.ext).append rws)
theorem bk_ok {env : Env} {pos : Pos} : ∀ {es : List Expr}, es.all notStar = true → (backTo pos (starEach es env)).any (·.1) = false
  | [], _ => rfl
  | e :: es, h => by
    rw [List.all_cons, Bool.and_eq_true] at h
    rw [star_no h.1]
    show (false || (backTo pos (starEach es env)).any (·.1)) = false
    rw [bk_ok h.2]
    rfl
theorem bn_of (ck : Ck T F k n sx W X) {x want : Str} (h : bname k sx x want = true) : x = want ∧ Gl X x ∧ X.mg x = none ∧ x ≠ "__name__" ∧ (x == ("__debug__" : Str)) = false := by
  unfold bname at h
  rw [Bool.and_eq_true, Bool.and_eq_true, Bool.and_eq_true] at h
  obtain ⟨a, b, c⟩ := nm_of h.2
  exact ⟨eq_of_beq h.1.1.1, gl_of ck h.1.1.2, ck.bn _ h.1.2, c, a⟩
/-- the call of a built-in: the value's kind -/
theorem call_bi (ck : Ck T F k n sx W X) : ∀ b : BI, isTy b = none → CallR X (fnOfB b) (rBi T b)
  | .len, _ => one_len ck.hK | .tuple, _ => one_tuple ck.hK | .list, _ => one_list ck.hK | .sum, _ => one_sum ck.hK ck.calm | .all, _ => one_all ck.hK ck.calm | .any, _ => one_any ck.hK ck.calm
  | .int, _ => one_int | .abs, _ => one_abs | .sorted, _ => one_sorted ck.hK (hu65 ck) | .max2, _ => two_max ck.calm | .min2, _ => two_min ck.calm | .max1, _ => one_max ck.hK ck.calm | .min1, _ => one_min ck.hK ck.calm (hu65 ck)
theorem bi_read {b : BI} {es : D} {σ : L2.St} {H : Hp} {Q : VK} (h : spE T W F fr (dE (eBi b es)) σ H Q) : tCB (rBi T b) (spA T W F es) σ H Q := by
  obtain ⟨ρ, m, as, rl, rs, g⟩ := h
  refine ⟨ρ, m, as, rl, rs, ?_⟩
  refine (Good.bind g).imp fun xs ρ1 H1 m1 n1 g1 vs rvs => ?_
  obtain ⟨z, m2, e, g2⟩ := Good.op g1
  exact ⟨fr, ρ1, m1, xs, z, m2, n1.rl, rvs, e, fun ρ' H' v nx rv => g2 ρ' H' nx v rv⟩
theorem x_bi {b : BI} {es : D} {x : Str} {p : Pos} {e : Expr} {l : List Expr} (ck : Ck T F k n sx W X) (ht : isTy b = none) (hx : bname k sx x (nameOfB b) = true) (hs : notStar e = true) (hl : l.all notStar = true) (ha : PA X (e :: l) (spA T W F es)) :
    PE X (.Call (.Name x p) (e :: l) [] pos) (spE T W F fr (dE (eBi b es))) := by
  obtain ⟨rfl, hg, hm, hn, hd⟩ := bn_of ck hx
  have hc := call_bi ck b ht
  have hv := boot_bi b
  have hf : (∃ id, fnOfB b = .builtin id) ∨ ∃ t, fnOfB b = .type t := by
    cases b <;> first | exact .inl ⟨_, rfl⟩ | exact .inr ⟨_, rfl⟩
  rcases hf with ⟨id, hf⟩ | ⟨t, hf⟩ <;> rw [hf] at hc hv
  · exact weakE (pe_callB hc hg hm hv ha hn hd (star_no hs _ _) (bk_ok hl)) fun σ H Q h => bi_read h
  · exact weakE (pe_callTy hc hg hm hv ha hn hd (star_no hs _ _) (bk_ok hl)) fun σ H Q h => bi_read h
theorem isTy_boot {b : BI} {ty : Str} (h : isTy b = some ty) : ∃ c : String, bootBuiltins ty = some (.type c) ∧ fnOfB b = .builtin "isinstance" ∧ nameOfB b = "isinstance" ∧ ((b = .isInt ∧ c = "int") ∨ (b = .isBool ∧ c = "bool") ∨ (b = .isTuple ∧ c = "tuple") ∨ (b = .isStr ∧ c = "str")) ∧ ty ≠ "__name__" ∧ (ty == ("__debug__" : Str)) = false := by
  cases b <;> first | (cases h; done) | skip
  · cases h; exact ⟨"int", boot_int, rfl, rfl, .inl ⟨rfl, rfl⟩, by decide, by decide⟩
  · cases h; exact ⟨"bool", boot_bool, rfl, rfl, .inr (.inl ⟨rfl, rfl⟩), by decide, by decide⟩
  · cases h; exact ⟨"tuple", boot_tuple, rfl, rfl, .inr (.inr (.inl ⟨rfl, rfl⟩)), by decide, by decide⟩
  · cases h; exact ⟨"str", boot_str, rfl, rfl, .inr (.inr (.inr ⟨rfl, rfl⟩)), by decide, by decide⟩
theorem x_isi {b : BI} {ty : Str} {a : D} {x y : Str} {p p2 : Pos} {e : Expr} (ck : Ck T F k n sx W X) (ht : isTy b = some ty) (hx : bname k sx x "isinstance" = true) (hy : bname k sx y ty = true) (hs : notStar e = true) (ha : ∀ fr, PE X e (spE T W F fr a)) :
    PE X (.Call (.Name x p) [e, .Name y p2] [] pos) (spE T W F fr (dE (eIsi b a))) := by
  obtain ⟨rfl, hg, hm, hn, hd⟩ := bn_of ck hx
  obtain ⟨rfl, hg2, hm2, _, _⟩ := bn_of ck hy
  obtain ⟨c, hb, h1, h2, hc, hn2, hd2⟩ := isTy_boot ht
  have hnm : PE X (.Name y p2) (tC (.ty c)) := pe_bltn hg2 hm2 hb rfl hn2 hd2
  refine weakE (pe_callB (call_isi) hg hm boot_isinstance (pa_cons (ha true) (pa_cons hnm pa_nil) (star_no hs _ _)) hn hd (star_no hs _ _) (by rfl)) fun σ H Q ⟨ρ, m, as, rl, rs, g⟩ => ⟨ρ, m, as, rl, rs, ?_⟩
  refine (Good.bind g).imp fun x ρ1 H1 m1 n1 g1 v rv => ?_
  obtain ⟨z, m2, ez, g2⟩ := Good.op g1
  obtain ⟨t, d, hty, hk, rfl, rfl⟩ := bi_isi n1.rl rv hc ez
  exact ⟨v, .ty c, .type t, .type c, d, rfl, .ty c, by rw [ck.hK]; exact hty, by rw [ck.hK]; exact hk, g2 _ _ (Nx.refl n1.rl) _ (.bl d)⟩

/-! ### tuple(range(..)), list(range(..)) -/
theorem rng_rep {T : Tb} {ρ : List Addr} {H : Hp} : ∀ (n : Nat) (i : Int), Reps T ρ H (rngI i 1 n) ((List.range n).map fun j => V.int (i + (j : Nat)))
  | 0, _ => .nil
  | n + 1, i => by
    rw [List.range_succ_eq_map, List.map_cons, List.map_map]
    have h := rng_rep (T := T) (ρ := ρ) (H := H) n (i + 1)
    have e : ((fun j : Nat => V.int (i + (j : Nat))) ∘ Nat.succ) = fun j : Nat => V.int (i + 1 + (j : Nat)) := by
      funext j
      show V.int (i + ((j + 1 : Nat) : Int)) = _
      congr 1
      omega
    rw [e]
    refine .cons ?_ h
    have e2 : i + ((0 : Nat) : Int) = i := by omega
    rw [e2]
    exact .int i
theorem small_of {i : Int} (h : small62 i = true) : -(2 ^ 61) < i ∧ i < 2 ^ 61 := by
  unfold small62 at h
  rw [Bool.and_eq_true] at h
  exact ⟨of_decide_eq_true h.1, of_decide_eq_true h.2⟩
theorem rng_read {b : BI} {i j : Int} {ρ : List Addr} {H : Hp} {m m' : AH} {r : AV} {Q : VK} (rl : Rl T ρ H m) (h : rngV fr b i j m = some (r, m')) (q : ∀ ρ' H' v, Nx T ρ H m ρ' H' m' → Rep T ρ' H' r v → Q v H') :
    RgOk i j ∧ ((b = .tuple ∧ NewT H (rgV i j) Q) ∨ (b = .list ∧ ∀ p, H p = none → Q (.ref p) (upd H p (.lst (rgV i j))))) := by
  unfold rngV at h
  by_cases c : (small62 i && small62 j && okN (j - i).toNat) = true
  · rw [if_pos c] at h
    rw [Bool.and_eq_true, Bool.and_eq_true] at c
    obtain ⟨a1, a2⟩ := small_of c.1.1
    obtain ⟨b1, b2⟩ := small_of c.1.2
    have n1 := okN_le c.2
    rw [sizeLine_eq] at n1
    refine ⟨⟨by omega, by omega, by omega, by omega, by omega⟩, ?_⟩
    cases b <;> first | (cases h; done) | skip
    · exact .inl ⟨rfl, (mkT_ok h rl (rng_rep _ _) q).2⟩
    · exact .inr ⟨rfl, (newL_ok h rl (rng_rep _ _) q).2⟩
  · rw [if_neg c] at h; cases h
theorem x_bir1 {b : BI} {a : D} {x y : Str} {p p2 p3 : Pos} {e : Expr} (ck : Ck T F k n sx W X) (hx : (match b with | .tuple => bname k sx x "tuple" | .list => bname k sx x "list" | _ => false) = true) (hy : bname k sx y "range" = true) (hs : notStar e = true) (ha : ∀ fr, PE X e (spE T W F fr a)) :
    PE X (.Call (.Name x p) [.Call (.Name y p2) [e] [] p3] [] pos) (spE T W F fr (dE (eBir1 b a))) := by
  obtain ⟨rfl, hg2, hm2, _, _⟩ := bn_of ck hy
  have hr := prg_1 (p := p2) (pos := p3) hg2 hm2 (ha true) (star_no hs _ _)
  have rd : ∀ {σ : L2.St} {H : Hp} {Q : VK}, spE T W F fr (dE (eBir1 b a)) σ H Q → tRg1 (spE T W F true a) σ H fun i j H1 => RgOk i j ∧ ((b = .tuple ∧ NewT H1 (rgV i j) Q) ∨ (b = .list ∧ ∀ p, H1 p = none → Q (.ref p) (upd H1 p (.lst (rgV i j))))) := by
    intro σ H Q ⟨ρ, m, as, rl, rs, g⟩
    refine ⟨ρ, m, as, rl, rs, ?_⟩
    refine (Good.bind g).imp fun z ρ1 H1 m1 n1 g1 v rv => ?_
    cases z <;> first | exact g1.elim | skip
    cases rv
    obtain ⟨r, m2, e, g2⟩ := Good.op g1
    exact ⟨_, rfl, rng_read n1.rl e fun ρ' H' v nx rv => g2 ρ' H' nx v rv⟩
  cases b <;> first | (cases hx; done) | skip
  · obtain ⟨rfl, hg, hm, _, _⟩ := bn_of ck hx
    refine weakE (px_tupRg ck.calm hg hm hr) fun σ H Q h => ?_
    obtain ⟨ρ, m, as, rl, rs, g⟩ := rd h
    refine ⟨ρ, m, as, rl, rs, g.imp fun z ρ1 H1 m1 n1 g1 v rv => ?_⟩
    obtain ⟨i, e, ok, ⟨_, q⟩ | ⟨k, _⟩⟩ := g1 v rv
    · exact ⟨i, e, ok, q⟩
    · cases k
  · obtain ⟨rfl, hg, hm, _, _⟩ := bn_of ck hx
    refine weakE (pe_listRg ck.calm hg hm hr) fun σ H Q h => ?_
    obtain ⟨ρ, m, as, rl, rs, g⟩ := rd h
    refine ⟨ρ, m, as, rl, rs, g.imp fun z ρ1 H1 m1 n1 g1 v rv => ?_⟩
    obtain ⟨i, e, ok, ⟨k, _⟩ | ⟨_, q⟩⟩ := g1 v rv
    · cases k
    · exact ⟨i, e, ok, q⟩
theorem x_bir2 {b : BI} {a c : D} {x y : Str} {p p2 p3 : Pos} {e e2 : Expr} (ck : Ck T F k n sx W X) (hx : (match b with | .tuple => bname k sx x "tuple" | .list => bname k sx x "list" | _ => false) = true) (hy : bname k sx y "range" = true) (hs : notStar e = true) (hs2 : notStar e2 = true)
    (ha : ∀ fr, PE X e (spE T W F fr a)) (hc : ∀ fr, PE X e2 (spE T W F fr c)) : PE X (.Call (.Name x p) [.Call (.Name y p2) [e, e2] [] p3] [] pos) (spE T W F fr (dE (eBir2 b a c))) := by
  obtain ⟨rfl, hg2, hm2, _, _⟩ := bn_of ck hy
  have hr := prg_2 (p := p2) (pos := p3) hg2 hm2 (ha true) (hc true) (star_no hs _ _) (star_no hs2 _ _) (bk_ok (by rw [List.all_cons, hs2]; rfl))
  have rd : ∀ {σ : L2.St} {H : Hp} {Q : VK}, spE T W F fr (dE (eBir2 b a c)) σ H Q → tRg2 (spE T W F true a) (spE T W F true c) σ H fun i j H1 => RgOk i j ∧ ((b = .tuple ∧ NewT H1 (rgV i j) Q) ∨ (b = .list ∧ ∀ p, H1 p = none → Q (.ref p) (upd H1 p (.lst (rgV i j))))) := by
    intro σ H Q ⟨ρ, m, as, rl, rs, g⟩
    refine ⟨ρ, m, as, rl, rs, ?_⟩
    refine (Good.bind g).imp fun z ρ1 H1 m1 n1 g1 v rv => ⟨ρ1, m1, as, n1.rl, rs.mono rl.muts n1.ext, ?_⟩
    refine (Good.bind g1).imp fun z2 ρ2 H2 m2 n2 g2 v2 rv2 => ?_
    cases z <;> first | exact g2.elim | skip
    cases z2 <;> first | exact g2.elim | skip
    cases rv
    cases rv2
    obtain ⟨r, m2, e, g3⟩ := Good.op g2
    exact ⟨_, _, rfl, rfl, rng_read n2.rl e fun ρ' H' v nx rv => g3 ρ' H' nx v rv⟩
  cases b <;> first | (cases hx; done) | skip
  · obtain ⟨rfl, hg, hm, _, _⟩ := bn_of ck hx
    refine weakE (px_tupRg ck.calm hg hm hr) fun σ H Q h => ?_
    obtain ⟨ρ, m, as, rl, rs, g⟩ := rd h
    refine ⟨ρ, m, as, rl, rs, g.imp fun z ρ1 H1 m1 n1 g1 v rv => ?_⟩
    obtain ⟨ρ2, m2, as2, rl2, rs2, g2⟩ := g1 v rv
    refine ⟨ρ2, m2, as2, rl2, rs2, g2.imp fun z ρ1 H1 m1 n1 g1 v rv => ?_⟩
    obtain ⟨i, j, e, e2, ok, ⟨_, q⟩ | ⟨k, _⟩⟩ := g1 v rv
    · exact ⟨i, j, e, e2, ok, q⟩
    · cases k
  · obtain ⟨rfl, hg, hm, _, _⟩ := bn_of ck hx
    refine weakE (pe_listRg ck.calm hg hm hr) fun σ H Q h => ?_
    obtain ⟨ρ, m, as, rl, rs, g⟩ := rd h
    refine ⟨ρ, m, as, rl, rs, g.imp fun z ρ1 H1 m1 n1 g1 v rv => ?_⟩
    obtain ⟨ρ2, m2, as2, rl2, rs2, g2⟩ := g1 v rv
    refine ⟨ρ2, m2, as2, rl2, rs2, g2.imp fun z ρ1 H1 m1 n1 g1 v rv => ?_⟩
    obtain ⟨i, j, e, e2, ok, ⟨k, _⟩ | ⟨_, q⟩⟩ := g1 v rv
    · cases k
    · exact ⟨i, j, e, e2, ok, q⟩
end
end Mi
set_option Elab.async false
set_option linter.all false
set_option maxRecDepth 100000
set_option maxHeartbeats 4000000
/-! Mini: lists that change: methods, stores -/
namespace Mi
open PySem PySem.Spec PyProof.Rows L2
section
variable {T : Tb} {F : FT} {k : Kx} {n : Nat} {sx : Sx} {W : WX} {X : Cx} {fr : Bool} {pos : Pos}
theorem get_lt {α : Type} {l : List α} {i : Nat} {x : α} (h : l[i]? = some x) : i < l.length := (List.getElem?_eq_some_iff.mp h).1
theorem mem_get {α : Type} {l : List α} {i : Nat} {x : α} (h : l[i]? = some x) : x ∈ l := List.mem_of_getElem? h
/-- a list's new contents -/
theorem Nx.setl {ρ : List Addr} {H : Hp} {m : AH} {r e : Nat} {a : Addr} {xs ys : List AV} {vs ws : List V} (rl : Rl T ρ H m) (hr : getL m r = some (e, xs)) (ha : ρ[r]? = some a) (hv : H a = some (.lst vs)) (rw' : Reps T ρ H ys ws) :
    Nx T ρ H m ρ (upd H a (.lst ws)) (setL r e ys m) := by
  have ex : Ext ρ H ρ (upd H a (.lst ws)) := ⟨List.prefix_refl _, fun b o hb nb _ => by
    rw [upd_ne (fun z => nb (by rw [z]; exact mem_get ha))]; exact hb, fun b hb => .inl hb⟩
  have hm := getL_some hr
  refine ⟨ex, ⟨by rw [rl.len]; unfold setL; rw [List.length_set], rl.nd, ?_, ex.fb rl.fb, tabs_upd rl.tb (.inr (by rw [hv]; exact True.intro))⟩, Mono.set hm⟩
  intro q b o hq ho
  unfold setL at ho
  by_cases z : q = r
  · subst z
    rw [ha] at hq; cases hq
    rw [List.getElem?_set_self (get_lt hm)] at ho
    cases ho
    exact ⟨ws, upd_same, rw'.mono rl.muts ex⟩
  · rw [List.getElem?_set_ne (Ne.symm z)] at ho
    have ob := rl.ob q b o hq ho
    refine Ob.mono rl.muts ex ?_ ob
    refine upd_ne fun zz => z ?_
    subst zz
    exact (List.getElem?_inj (get_lt hq) rl.nd).mp (hq.trans ha.symm)
theorem ref_list {ρ : List Addr} {H : Hp} {m : AH} {r : Nat} {a : Addr} (rl : Rl T ρ H m) (ha : ρ[r]? = some a) : ∃ vs, H a = some (.lst vs) := by
  have hr : r < m.length := by rw [← rl.len]; exact get_lt ha
  obtain ⟨o, ho⟩ : ∃ o, m[r]? = some o := ⟨_, List.getElem?_eq_getElem hr⟩
  cases o with
  | lst e xs =>
    obtain ⟨vs, h, _⟩ := rl.ob _ _ _ ha ho
    exact ⟨vs, h⟩
theorem base_ok {r : Expr} {name : Str} {env : Env} (h : recvB r = true) : attributeBase r name env (eval r env) = eval r env := by
  cases r <;> first | rfl | cases h
theorem few_ok {e : Expr} {env : Env} {cpos : Pos} (hs : notStar e = true) : ((backTo cpos (starEach (e :: []) env)).all (fun x => !x.1) && (backToKw cpos (keywordEach [] env)).all (fun x => x.1.isSome)
      && decide ((e :: []).length + ([] : List Keyword).length + (if ([] : List Keyword).isEmpty then 0 else 1) < 30)) = true := by
  rw [star_no hs]
  rfl
/-- the receiver -/
theorem recv {o : D} {kk : Nat → AH → Rs AV} {Q : V → Hp → Prop} {P : AV → List Addr → Hp → AH → Prop} {σ : L2.St} {ρ : List Addr} {H : Hp} {m : AH} {as : ASt} (rl : Rl T ρ H m) (rs : RS1 T ρ H as σ) (g : Good T W σ ρ H m (refD o kk F as m) P)
    (q : ∀ ρ1 H1 m1 i a, Rl T ρ1 H1 m1 → RS1 T ρ1 H1 as σ → ρ1[i]? = some a → Good T W σ ρ1 H1 m1 (kk i m1) P → tyV X.K "list" (.ref a) H1 → Q (.ref a) H1) : spE T W F true o σ H Q := by
  refine ⟨ρ, m, as, rl, rs, (Good.bind g).imp fun x ρ1 H1 m1 n1 g1 v rv => ?_⟩
  cases x <;> first | exact g1.elim | skip
  cases rv with
  | ref ha =>
    obtain ⟨vs1, hv1⟩ := ref_list n1.rl ha
    exact q _ _ _ _ _ n1.rl (rs.mono rl.muts n1.ext) ha g1 (.inl ⟨rfl, vs1, SqL.of hv1⟩)
variable {o a : D} {r e : Expr} {ap cp : Pos}
theorem x_app (hb : recvB r = true) (hl : (ap.endLine == cp.line) = true) (hs : notStar e = true) (ho : ∀ fr, PE X r (spE T W F fr o)) (ha : ∀ fr, PE X e (spE T W F fr a)) :
    PE X (.Call (.Attribute r "append" ap) [e] [] cp) (spE T W F fr (dE (eApp o a))) := by
  refine weakE (pe_bm PySem.F.plainAttrs_list PySem.F.slot_list_append PySem.F.type_list_append mt_append (ho true) (pa_cons (ha true) pa_nil (star_no hs _ _)) (base_ok hb) (few_ok hs) hl (star_no hs _ _) (by rfl)) fun σ H Q ⟨ρ, m, as, rl, rs, g⟩ => ?_
  refine recv (X := X) rl rs g fun ρ1 H1 m1 i a rl1 rs1 hi g1 ty => ⟨ty, ρ1, m1, as, rl1, rs1, (Good.bind g1).imp fun y ρ2 H2 m2 n2 g2 w rw' => ?_⟩
  obtain ⟨z, m3, e3, g3⟩ := Good.op g2
  have e4 : (match getL m2 i with | some (e, xs) => if okN (xs.length + 1) then some (AV.non, setL i e (xs ++ [y]) m2) else none | none => none) = some (z, m3) := e3
  cases hg : getL m2 i with
  | none => rw [hg] at e4; cases e4
  | some p =>
    obtain ⟨ep, xs⟩ := p
    rw [hg] at e4
    have e5 : (if okN (xs.length + 1) = true then some (AV.non, setL i ep (xs ++ [y]) m2) else none) = some (z, m3) := e4
    by_cases c : okN (xs.length + 1) = true
    · rw [if_pos c] at e5
      cases e5
      have hi2 := pre_get n2.ext.pre hi
      obtain ⟨vs, hv, rv⟩ := n2.rl.list hg hi2
      have := okN_le c
      exact ⟨_, vs, w, rfl, rfl, hv, by rw [← rv.length]; omega, g3 _ _ (Nx.setl n2.rl hg hi2 hv (rv.append (.cons rw' .nil))) _ .non⟩
    · rw [if_neg c] at e5; cases e5
theorem x_ext (hb : recvB r = true) (hl : (ap.endLine == cp.line) = true) (hs : notStar e = true) (ho : ∀ fr, PE X r (spE T W F fr o)) (ha : ∀ fr, PE X e (spE T W F fr a)) :
    PE X (.Call (.Attribute r "extend" ap) [e] [] cp) (spE T W F fr (dE (eExt o a))) := by
  refine weakE (pe_bm PySem.F.plainAttrs_list PySem.F.slot_list_extend PySem.F.type_list_extend mt_extend (ho true) (pa_cons (ha true) pa_nil (star_no hs _ _)) (base_ok hb) (few_ok hs) hl (star_no hs _ _) (by rfl)) fun σ H Q ⟨ρ, m, as, rl, rs, g⟩ => ?_
  refine recv (X := X) rl rs g fun ρ1 H1 m1 i a rl1 rs1 hi g1 ty => ⟨ty, ρ1, m1, as, rl1, rs1, (Good.bind g1).imp fun y ρ2 H2 m2 n2 g2 w rw' => ?_⟩
  obtain ⟨z, m3, e3, g3⟩ := Good.op g2
  have e4 : (match getL m2 i, lstI m2 y with | some (e, xs), some ys => if okN (xs.length + ys.length) then some (AV.non, setL i e (xs ++ ys) m2) else none | _, _ => none) = some (z, m3) := e3
  cases hg : getL m2 i with
  | none => rw [hg] at e4; cases e4
  | some p =>
    obtain ⟨ep, xs⟩ := p
    cases hy : lstI m2 y with
    | none => rw [hg, hy] at e4; cases e4
    | some ys =>
      rw [hg, hy] at e4
      have e5 : (if okN (xs.length + ys.length) = true then some (AV.non, setL i ep (xs ++ ys) m2) else none) = some (z, m3) := e4
      by_cases c : okN (xs.length + ys.length) = true
      · rw [if_pos c] at e5
        cases e5
        have hi2 := pre_get n2.ext.pre hi
        obtain ⟨vs, hv, rv⟩ := n2.rl.list hg hi2
        obtain ⟨b, zs, rfl, hb, rb⟩ := lstI_ok n2.rl hy rw'
        have := okN_le c
        exact ⟨_, b, vs, zs, rfl, rfl, hv, hb, by rw [← rv.length, ← rb.length]; exact this, g3 _ _ (Nx.setl n2.rl hg hi2 hv (rv.append rb)) _ .non⟩
      · rw [if_neg c] at e5; cases e5
theorem x_popL (hb : recvB r = true) (hl : (ap.endLine == cp.line) = true) (ho : ∀ fr, PE X r (spE T W F fr o)) :
    PE X (.Call (.Attribute r "pop" ap) [] [] cp) (spE T W F fr (dE (ePopL o))) := by
  refine weakE (pe_bm0 PySem.F.plainAttrs_list PySem.F.slot_list_pop PySem.F.type_list_pop mt_pop (ho true) (base_ok hb) hl) fun σ H Q ⟨ρ, m, as, rl, rs, g⟩ => ?_
  refine recv (X := X) rl rs g fun ρ1 H1 m1 i a rl1 rs1 hi g1 ty => ⟨ty, ?_⟩
  obtain ⟨z, m3, e3, g3⟩ := Good.op g1
  have e4 : (match getL m1 i with | some (e, xs) => (match xs[xs.length - 1]? with | some y => some (y, setL i e xs.dropLast m1) | none => none) | none => none) = some (z, m3) := e3
  cases hg : getL m1 i with
  | none => rw [hg] at e4; cases e4
  | some p =>
    obtain ⟨ep, xs⟩ := p
    rw [hg] at e4
    have e5 : (match xs[xs.length - 1]? with | some y => some (y, setL i ep xs.dropLast m1) | none => none) = some (z, m3) := e4
    cases hx : xs[xs.length - 1]? with
    | none => rw [hx] at e5; cases e5
    | some y =>
      rw [hx] at e5
      cases e5
      obtain ⟨vs, hv, rv⟩ := rl1.list hg hi
      obtain ⟨u, hu, ru⟩ := rv.get hx
      have nx := Nx.setl rl1 hg hi hv rv.dropLast
      exact ⟨_, vs, u, rfl, rfl, hv, by rw [← rv.length]; exact hu, g3 _ _ nx _ (ru.mono rl1.muts nx.ext)⟩
theorem x_popA (hb : recvB r = true) (hl : (ap.endLine == cp.line) = true) (hs : notStar e = true) (ho : ∀ fr, PE X r (spE T W F fr o)) (ha : ∀ fr, PE X e (spE T W F fr a)) :
    PE X (.Call (.Attribute r "pop" ap) [e] [] cp) (spE T W F fr (dE (ePopA o a))) := by
  refine weakE (pe_bm PySem.F.plainAttrs_list PySem.F.slot_list_pop PySem.F.type_list_pop mt_popAt (ho true) (pa_cons (ha true) pa_nil (star_no hs _ _)) (base_ok hb) (few_ok hs) hl (star_no hs _ _) (by rfl)) fun σ H Q ⟨ρ, m, as, rl, rs, g⟩ => ?_
  refine recv (X := X) rl rs g fun ρ1 H1 m1 i a rl1 rs1 hi g1 ty => ⟨ty, ρ1, m1, as, rl1, rs1, (Good.bind g1).imp fun y ρ2 H2 m2 n2 g2 w rw' => ?_⟩
  obtain ⟨z, m3, e3, g3⟩ := Good.op g2
  cases y <;> first | (cases e3; done) | skip
  rename_i j
  cases rw'
  unfold popAV at e3
  cases hg : getL m2 i with
  | none => rw [hg] at e3; cases e3
  | some p =>
    obtain ⟨ep, xs⟩ := p
    rw [hg] at e3
    have e5 : (if small62 j = true then (match L2.ixN xs.length j with | some j => (match xs[j]? with | some y => some (y, setL i ep (xs.eraseIdx j) m2) | none => none) | none => none) else none) = some (z, m3) := e3
    by_cases c : small62 j = true
    · rw [if_pos c] at e5
      obtain ⟨c1, c2⟩ := small_of c
      cases hj : L2.ixN xs.length j with
      | none => rw [hj] at e5; cases e5
      | some q =>
        rw [hj] at e5
        have e6 : (match xs[q]? with | some y => some (y, setL i ep (xs.eraseIdx q) m2) | none => none) = some (z, m3) := e5
        cases hx : xs[q]? with
        | none => rw [hx] at e6; cases e6
        | some y =>
          rw [hx] at e6
          cases e6
          have hi2 := pre_get n2.ext.pre hi
          obtain ⟨vs, hv, rv⟩ := n2.rl.list hg hi2
          obtain ⟨u, hu, ru⟩ := rv.get hx
          have nx := Nx.setl n2.rl hg hi2 hv (rv.eraseIdx q)
          exact ⟨_, vs, j, q, u, rfl, rfl, hv, by omega, by omega, by rw [← rv.length]; exact (ixN_seq hj).1, hu, g3 _ _ nx _ (ru.mono n2.rl.muts nx.ext)⟩
    · rw [if_neg c] at e5; cases e5

/-! ### x.index(y) -/
theorem idxI_at {w : Int} : ∀ {ns : List Int} {i j : Nat}, idxI w ns i = some j → w ∈ ns ∧ j = i + ns.idxOf w
  | [], _, _, h => by cases h
  | y :: ys, i, j, h => by
    have h' : (if (y == w) = true then some i else idxI w ys (i + 1)) = some j := h
    by_cases c : (y == w) = true
    · rw [if_pos c] at h'
      cases h'
      have e := eq_of_beq c
      subst e
      exact ⟨List.mem_cons_self, by simp⟩
    · rw [if_neg c] at h'
      obtain ⟨h1, h2⟩ := idxI_at h'
      refine ⟨List.mem_cons_of_mem _ h1, ?_⟩
      have c' : (y == w) = false := by simpa using c
      rw [List.idxOf_cons, c']
      simp only [cond_false]
      omega
theorem idxP_at {d : AV} : ∀ {ps : List AV} {i j : Nat}, idxP d ps i = some j → ∃ q b, j = i + q ∧ ps[q]? = some b ∧ eqF 60 b d = true ∧ ∀ p b', p < q → ps[p]? = some b' → eqF 60 b' d = false
  | [], _, _, h => by cases h
  | y :: ys, i, j, h => by
    have h' : (if eqF 60 y d = true then some i else idxP d ys (i + 1)) = some j := h
    by_cases c : eqF 60 y d = true
    · rw [if_pos c] at h'
      cases h'
      exact ⟨0, y, rfl, rfl, c, fun p b' hp => absurd hp (Nat.not_lt_zero _)⟩
    · rw [if_neg c] at h'
      obtain ⟨q, b, e1, e2, e3, e4⟩ := idxP_at h'
      refine ⟨q + 1, b, by omega, by simpa using e2, e3, fun p b' hp hb => ?_⟩
      cases p with
      | zero =>
        have : y = b' := by simpa using hb
        subst this
        simpa using c
      | succ p => exact e4 p b' (by omega) (by simpa using hb)
/-- x.index(y), a list or a tuple of ints -/
def rIxT (K : PySem.W.Frag) (p : Addr) (ys : List V) (H : Hp) (Q : VK) : Prop := ∃ (ns : List Int) (w : Int), ys = [V.int w] ∧ SqT K H p (ns.map V.int) ∧ w ∈ ns ∧ Q (.int (ns.idxOf w : Nat)) H
def tIdx (K : PySem.W.Frag) (to ta : TE) : TE := fun σ H Q => to σ H fun x H1 => ∃ p, x = V.ref p ∧
  (((∃ xs, SqL K H1 p xs) ∧ ta σ H1 fun y H2 => rIndexD K (V.ref p) [y] H2 Q) ∨ (∃ o vs, (H1 p = some (.frz o (.tup vs)) ∧ o.dict = none) ∧ ta σ H1 fun y H2 => rIxT K p [y] H2 Q))
theorem px_index {to ta : TE} (ck : Ck T F k n sx W X) (hb : recvB r = true) (hl : (ap.endLine == cp.line) = true) (hs : notStar e = true) (ho : PE X r to) (ha : PE X e ta) : PE X (.Call (.Attribute r "index" ap) [e] [] cp) (tIdx X.K to ta) := by
  refine ⟨fun pins s σ H Q I h => wpAny_Call_method_late (base_ok hb) (few_ok hs) hl rfl (thn (ho.run pins s σ H _ I h) ?_)⟩
  rintro v s1 ⟨x, H1, J, rv, p, rfl, h⟩
  cases rv
  have ar := pa_cons ha pa_nil (star_no hs _ _)
  rcases h with ⟨⟨xs, hx⟩, q⟩ | ⟨o, vs, ⟨hx, hd⟩, q⟩
  · obtain ⟨t1, t2⟩ := tyV_is (x := V.ref p) (T := "list") J rfl (.inl ⟨rfl, xs, hx⟩)
    refine ⟨"list", _, PySem.F.plainAttrs_list, PySem.F.slot_list_index, PySem.F.type_list_index, t1, t2, ?_⟩
    have hA := ar.run cp pins s1 σ H1 (fun vs H2 => rIndexD X.K (V.ref p) vs H2 Q) J q
    rw [star_no hs] at hA ⊢
    refine Calls.callWith_builtin rfl (Calls.evalArgs_plain (thn hA ?_))
    rintro us s2 ⟨ws, H2, J2, r2, q2⟩
    exact mt_indexD (hu65 ck) pins s2 σ H2 (V.ref p) ws _ us Q J2 rfl r2 q2
  · have ob := J.hok p _ hx
    refine ⟨"tuple", _, PySem.F.plainAttrs_tuple, PySem.F.slot_tuple_index, PySem.F.type_tuple_index, ?_, fun b e => ?_, ?_⟩
    · obtain ⟨e1, _, _, _, ⟨o2, e2, c2, _⟩⟩ := ob
      exact ⟨o2, e2, c2⟩
    · cases e
      exact ⟨o, ob.1, hd⟩
    · have hA := ar.run cp pins s1 σ H1 (fun vs H2 => rIxT X.K p vs H2 Q) J q
      rw [star_no hs] at hA ⊢
      refine Calls.callWith_builtin rfl (Calls.evalArgs_plain (thn hA ?_))
      rintro us s2 ⟨ws, H2, J2, r2, ns, w, rfl, ht, hw, q2⟩
      obtain ⟨u, rfl, ⟨t, rfl⟩⟩ := Vals.one r2
      obtain ⟨its, ri, ⟨o2, e2, c2, nn, d2⟩, _⟩ := J2.tuple ht
      exact PySem.SeqAt.tuple_index_ints ⟨o2, e2, c2, nn, d2⟩ (Vals.ints ri) hw ⟨V.int (ns.idxOf w : Nat), H2, J2.tok _, ⟨_, rfl⟩, q2⟩
theorem toPs_get : ∀ {ps : List AV} {j : Nat} {b : AV}, ps[j]? = some b → (toPs ps)[j]? = some (toP b) := fun {ps j b} h => by
  rw [toPs_map, List.getElem?_map, h]
  rfl
theorem optM_get {α β : Type} {f : α → Option β} : ∀ {xs : List α} {ys : List β} {j : Nat} {x : α}, optM f xs = some ys → xs[j]? = some x → ∃ y, ys[j]? = some y ∧ f x = some y
  | [], _, _, _, _, h => by simp at h
  | x :: xs, ys, j, z, h, hj => by
    obtain ⟨y, r, e1, e2, rfl⟩ := optM_cons h
    cases j with
    | zero =>
      have : x = z := by simpa using hj
      subst this
      exact ⟨y, rfl, e1⟩
    | succ j =>
      obtain ⟨y', k1, k2⟩ := optM_get (j := j) (x := z) e2 (by simpa using hj)
      exact ⟨y', by simpa using k1, k2⟩
theorem optM_all {α β : Type} {f : α → Option β} : ∀ {xs : List α} {ys : List β} {j : Nat} {y : β}, optM f xs = some ys → ys[j]? = some y → ∃ x, f x = some y
  | [], _, _, _, h, hj => by rw [optM_nil h] at hj; simp at hj
  | x :: xs, ys, j, z, h, hj => by
    obtain ⟨y, r, e1, e2, rfl⟩ := optM_cons h
    cases j with
    | zero =>
      have : y = z := by simpa using hj
      subst this
      exact ⟨x, e1⟩
    | succ j => exact optM_all (j := j) e2 (by simpa using hj)
theorem index_rep {ρ : List Addr} {H : Hp} {m : AH} {v w : AV} {p : Addr} {u : V} {j : Nat} {Q : VK} (rl : Rl T ρ H m) (rv : Rep T ρ H v (.ref p)) (rw' : Rep T ρ H w u) (hv : isLstV v = true) (h : indexV v w m = some j) (q : Q (.int (j : Nat)) H) : rIndexD T.K (V.ref p) [u] H Q := by
  have h' : (match lstI m v with | some xs => (match optM (frz m 60) xs, frz m 60 w with | some ps, some d => idxP d ps 0 | _, _ => none) | none => none) = some j := by
    cases v <;> first | exact h | cases hv
  cases hx : lstI m v with
  | none => rw [hx] at h'; cases h'
  | some xs =>
    rw [hx] at h'
    have h2 : (match optM (frz m 60) xs, frz m 60 w with | some ps, some d => idxP d ps 0 | _, _ => none) = some j := h'
    cases hp : optM (frz m 60) xs with
    | none => rw [hp] at h2; cases h2
    | some ps =>
      cases hd : frz m 60 w with
      | none => rw [hp, hd] at h2; cases h2
      | some d =>
        rw [hp, hd] at h2
        obtain ⟨a, vs, e, hl, rvs⟩ := lstI_ok rl hx rv
        cases e
        obtain ⟨q', b, e1, e2, e3, e4⟩ := idxP_at h2
        have ej : j = q' := by omega
        subst ej
        obtain ⟨l1, l2⟩ := frzs_lay hp
        obtain ⟨xb, hb⟩ := optM_all hp e2
        refine ⟨p, u, toP d, toPs ps, j, toP b, rfl, rfl, .lst (SqL.of hl) (frzs_dp rl 60 hp rvs), frz_dp rl 60 hd rw', ?_, frz_shaped hd, toPs_get e2, ?_, ?_, q⟩
        · unfold SeqAt.shaped
          rw [PyData.canLay0, l1, PyData.depth]
          rw [decide_eq_true (by omega)]
          rfl
        · rw [← eqF_eqv 60 60 hb hd]; exact e3
        · intro i z' hi hz
          rw [toPs_map, List.getElem?_map] at hz
          obtain ⟨b', h3, rfl⟩ := Option.map_eq_some_iff.mp hz
          obtain ⟨xb', hb'⟩ := optM_all hp h3
          rw [← eqF_eqv 60 60 hb' hd]
          exact e4 i b' hi h3
theorem x_index (ck : Ck T F k n sx W X) (hb : recvB r = true) (hl : (ap.endLine == cp.line) = true) (hs : notStar e = true) (ho : ∀ fr, PE X r (spE T W F fr o)) (ha : ∀ fr, PE X e (spE T W F fr a)) :
    PE X (.Call (.Attribute r "index" ap) [e] [] cp) (spE T W F fr (dE (eIndex o a))) := by
  refine weakE (px_index ck hb hl hs (ho true) (ha true)) fun σ H Q ⟨ρ, m, as, rl, rs, g⟩ => ⟨ρ, m, as, rl, rs, ?_⟩
  refine (Good.bind g).imp fun x ρ1 H1 m1 n1 g1 v rv => ?_
  have g1' : Good T W σ ρ1 H1 m1 (if (isTupV x || isLstV x) = true then (a.e true F as m1).bind fun w m2 => .of ((indexV x w m2).map fun i => AV.int (i : Nat)) m2 else .no) _ := g1
  by_cases c : (isTupV x || isLstV x) = true
  · rw [if_pos c] at g1'
    have g2 := Good.bind g1'
    have rs1 := rs.mono rl.muts n1.ext
    cases rv <;> first | (cases c; done) | skip
    · rename_i xs p vs o1 h1 r1
      refine ⟨p, rfl, .inr ⟨o1, vs, h1, ρ1, m1, as, n1.rl, rs1, g2.imp fun y ρ2 H2 m2 n2 g3 w rw' => ?_⟩⟩
      obtain ⟨z, e1, g4⟩ := Good.of n2.rl g3
      obtain ⟨j, e2, rfl⟩ := Option.map_eq_some_iff.mp e1
      have e3 := e2
      simp only [indexV] at e3
      cases hn : optM intOf xs with
      | none => rw [hn] at e3; cases e3
      | some ns =>
        rw [hn] at e3
        cases y <;> first | (cases e3; done) | skip
        rename_i w0
        cases rw'
        obtain ⟨k1, k2⟩ := idxI_at (w := w0) (ns := ns) (i := 0) (j := j) e3
        have r2 := (Rep.mono n1.rl.muts n2.ext (.tup h1 r1))
        cases r2 with
        | tup h2 r2 =>
          have ev := ints_rep r2 hn
          subst ev
          refine ⟨ns, w0, rfl, SqT.tup h2, k1, ?_⟩
          have ej : j = ns.idxOf w0 := by omega
          rw [← ej]
          exact g4 _ (.int _)
    · rename_i xs p vs h1 nr r1
      refine ⟨p, rfl, .inl ⟨⟨vs, SqL.of h1⟩, ρ1, m1, as, n1.rl, rs1, g2.imp fun y ρ2 H2 m2 n2 g3 w rw' => ?_⟩⟩
      obtain ⟨z, e1, g4⟩ := Good.of n2.rl g3
      obtain ⟨j, e2, rfl⟩ := Option.map_eq_some_iff.mp e1
      rw [ck.hK]
      exact index_rep n2.rl (Rep.mono n1.rl.muts n2.ext (.fl h1 nr r1)) rw' rfl e2 (g4 _ (.int _))
    · rename_i i p ha
      obtain ⟨vs1, hv1⟩ := ref_list n1.rl ha
      refine ⟨p, rfl, .inl ⟨⟨vs1, SqL.of hv1⟩, ρ1, m1, as, n1.rl, rs1, g2.imp fun y ρ2 H2 m2 n2 g3 w rw' => ?_⟩⟩
      obtain ⟨z, e1, g4⟩ := Good.of n2.rl g3
      obtain ⟨j, e2, rfl⟩ := Option.map_eq_some_iff.mp e1
      rw [ck.hK]
      exact index_rep n2.rl (Rep.mono n1.rl.muts n2.ext (.ref ha)) rw' rfl e2 (g4 _ (.int _))
  · rw [if_neg c] at g1'; exact g1'.elim
end
end Mi
set_option Elab.async false
set_option linter.all false
set_option maxRecDepth 100000
set_option maxHeartbeats 4000000
/-! Mini: calls of the text's defs: the callee's own small heap -/
namespace Mi
open PySem PySem.Spec PyProof.Rows L2

/-! ### plain facts -/
theorem posN_get {r : Nat} : ∀ {rs : List Nat} {j : Nat}, posN r rs = some j → rs[j]? = some r
  | [], _, h => by cases h
  | x :: xs, j, h => by
    have h' : (if Nat.beq r x = true then some 0 else (posN r xs).map (· + 1)) = some j := h
    by_cases c : Nat.beq r x = true
    · rw [if_pos c] at h'
      cases h'
      have := Nat.eq_of_beq_eq_true c
      subst this
      rfl
    · rw [if_neg c] at h'
      obtain ⟨i, h1, rfl⟩ := Option.map_eq_some_iff.mp h'
      simpa using posN_get h1
theorem addU_nd {rs : List Nat} (h : rs.Nodup) (r : Nat) : (addU rs r).Nodup := by
  unfold addU
  by_cases c : rs.any (Nat.beq r) = true
  · rw [if_pos c]; exact h
  · rw [if_neg c]
    rw [List.nodup_append]
    refine ⟨h, by simp, fun a ha b hb => ?_⟩
    rw [List.mem_singleton] at hb
    subst hb
    intro e
    subst e
    exact c (List.any_eq_true.mpr ⟨a, ha, Nat.beq_refl a⟩)
theorem uniq_nd (rs : List Nat) : (uniq rs).Nodup := by
  unfold uniq
  have : ∀ (l acc : List Nat), acc.Nodup → (l.foldl addU acc).Nodup := fun l => by
    induction l with
    | nil => exact fun _ h => h
    | cons x l ih => exact fun acc h => ih _ (addU_nd h x)
  exact this rs [] List.nodup_nil
theorem uniq_mem {r : Nat} {rs : List Nat} (h : r ∈ uniq rs) : r ∈ rs := by
  have : ∀ (l acc : List Nat), r ∈ l.foldl addU acc → r ∈ acc ∨ r ∈ l := fun l => by
    induction l with
    | nil => exact fun _ h => .inl h
    | cons x l ih =>
      intro acc h
      rcases ih _ h with h | h
      · unfold addU at h
        by_cases c : acc.any (Nat.beq x) = true
        · rw [if_pos c] at h; exact .inl h
        · rw [if_neg c] at h
          rcases List.mem_append.mp h with h | h
          · exact .inl h
          · exact .inr (by rw [List.mem_singleton.mp h]; exact List.mem_cons_self)
      · exact .inr (List.mem_cons_of_mem _ h)
  rcases this rs [] h with h | h
  · cases h
  · exact h
theorem subH_get {m : AH} : ∀ {rs : List Nat} {m0 : AH}, subH m rs = some m0 → rs.length = m0.length ∧ ∀ (j r : Nat), rs[j]? = some r → ∃ o, m[r]? = some o ∧ pureO o = true ∧ m0[j]? = some o
  | [], m0, h => by
    have e : m0 = [] := optM_nil h
    subst e
    exact ⟨rfl, fun j r h => by simp at h⟩
  | x :: rs, m0, h => by
    obtain ⟨o, os, h1, h2, rfl⟩ := optM_cons (show optM _ (x :: rs) = some m0 from h)
    obtain ⟨l1, l2⟩ := subH_get (rs := rs) h2
    refine ⟨by rw [List.length_cons, List.length_cons, l1], fun j r hj => ?_⟩
    cases j with
    | zero =>
      have : x = r := by simpa using hj
      subst this
      have h0 : (match m[x]? with | some o => if pureO o = true then some o else none | none => none) = some o := h1
      cases hx : m[x]? with
      | none => rw [hx] at h0; cases h0
      | some o' =>
        rw [hx] at h0
        have h1' : (if pureO o' = true then some o' else none) = some o := h0
        by_cases c : pureO o' = true
        · rw [if_pos c] at h1'; cases h1'
          exact ⟨_, rfl, c, rfl⟩
        · rw [if_neg c] at h1'; cases h1'
    | succ j =>
      obtain ⟨o', k1, k2, k3⟩ := l2 j r (by simpa using hj)
      exact ⟨o', k1, k2, by simpa using k3⟩
theorem putH_get : ∀ {rs : List Nat} {m m1 m2 : AH}, putH m rs m1 = some m2 → rs.Nodup → m2.length = m.length ∧ (∀ (j r : Nat), rs[j]? = some r → ∃ o, m1[j]? = some o ∧ pureO o = true ∧ (r < m.length → m2[r]? = some o)) ∧ ∀ r : Nat, r ∉ rs → m2[r]? = m[r]?
  | [], m, m1, m2, h, _ => by
    simp only [putH] at h
    cases h
    exact ⟨rfl, fun j r h => by simp at h, fun _ _ => rfl⟩
  | x :: rs, m, [], m2, h, _ => by cases h
  | x :: rs, m, o :: os, m2, h, nd => by
    have h' : (if pureO o = true then putH (m.set x o) rs os else none) = some m2 := h
    by_cases c : pureO o = true
    · rw [if_pos c] at h'
      rw [List.nodup_cons] at nd
      obtain ⟨l1, l2, l3⟩ := putH_get h' nd.2
      rw [List.length_set] at l1 l2
      refine ⟨l1, fun j r hj => ?_, fun r hr => ?_⟩
      · cases j with
        | zero =>
          have : x = r := by simpa using hj
          subst this
          refine ⟨o, rfl, c, fun hlt => ?_⟩
          rw [l3 _ nd.1, List.getElem?_set_self hlt]
        | succ j =>
          obtain ⟨o', k1, k2, k3⟩ := l2 j r (by simpa using hj)
          exact ⟨o', by simpa using k1, k2, k3⟩
      · rw [List.mem_cons, not_or] at hr
        rw [l3 r hr.2, List.getElem?_set_ne (Ne.symm hr.1)]
    · rw [if_neg c] at h'; cases h'

section
variable {T : Tb} {fb2 : Addr → Prop} {ρ1 ρ2 : List Addr} {H : Hp}
mutual
theorem Rep.cv (h : ∀ a, a ∉ ρ1 ∧ ¬ T.fb a → H a ≠ none → a ∉ ρ2 ∧ ¬ fb2 a) : ∀ {x : AV} {v : V}, pureV x = true → Rep T ρ1 H x v → Rep (T.wb fb2) ρ2 H x v
  | _, _, _, .non => .non
  | _, _, _, .bl b => .bl b
  | _, _, _, .int i => .int i
  | _, _, _, .str x => .str x
  | _, _, p, .tup h1 r => .tup h1 (Reps.cv h p r)
  | _, _, p, .fl h1 n r => .fl h1 (h _ n (by rw [h1]; exact fun z => nomatch z)) (Reps.cv h p r)
  | _, _, p, .sc h1 r => .sc h1 (Reps.cv h p r)
  | _, _, p, .ref _ => by cases p
  | _, _, _, .fn e => .fn e
  | _, _, p, .obj h1 n r => .obj h1 ⟨h _ n.1 (by rw [h1.1]; exact fun z => nomatch z), h _ n.2 (by rw [h1.2]; exact fun z => nomatch z)⟩ (Reps.cv h p r)
  | _, _, p, .fd h1 n r1 r2 => .fd h1 (h _ n (by rw [h1]; exact fun z => nomatch z)) (Reps.cv h (Bool.and_eq_true_iff.mp p).1 r1) (Reps.cv h (Bool.and_eq_true_iff.mp p).2 r2)
theorem Reps.cv (h : ∀ a, a ∉ ρ1 ∧ ¬ T.fb a → H a ≠ none → a ∉ ρ2 ∧ ¬ fb2 a) : ∀ {xs : List AV} {vs : List V}, pureL xs = true → Reps T ρ1 H xs vs → Reps (T.wb fb2) ρ2 H xs vs
  | _, _, _, .nil => .nil
  | _, _, p, .cons a r => .cons (Rep.cv h (Bool.and_eq_true_iff.mp p).1 a) (Reps.cv h (Bool.and_eq_true_iff.mp p).2 r)
end
theorem Ob.cv (h : ∀ a, a ∉ ρ1 ∧ ¬ T.fb a → H a ≠ none → a ∉ ρ2 ∧ ¬ fb2 a) {a : Addr} {o : AO} (p : pureO o = true) (ob : Ob T ρ1 H a o) : Ob (T.wb fb2) ρ2 H a o := by
  cases o with
  | lst e xs =>
    obtain ⟨vs, h1, r⟩ := ob
    exact ⟨vs, h1, Reps.cv h p r⟩
mutual
theorem Rep.rn {f : Nat → Option Nat} (h : ∀ a, a ∉ ρ1 ∧ ¬ T.fb a → H a ≠ none → a ∉ ρ2 ∧ ¬ fb2 a) (hf : ∀ i j a, f i = some j → ρ1[i]? = some a → ρ2[j]? = some a) :
    ∀ {x : AV} {v : V}, Rep T ρ1 H x v → ∀ {y : AV}, renV f x = some y → Rep (T.wb fb2) ρ2 H y v
  | _, _, .non, _, e => by cases e; exact .non
  | _, _, .bl b, _, e => by cases e; exact .bl b
  | _, _, .int i, _, e => by cases e; exact .int i
  | _, _, .str x, _, e => by cases e; exact .str x
  | _, _, .tup h1 r, _, e => by
    obtain ⟨ys, e1, rfl⟩ := Option.map_eq_some_iff.mp (show (renL f _).map AV.tup = some _ from e)
    exact .tup h1 (Reps.rn h hf r e1)
  | _, _, .fl h1 n r, _, e => by
    obtain ⟨ys, e1, rfl⟩ := Option.map_eq_some_iff.mp (show (renL f _).map AV.fl = some _ from e)
    exact .fl h1 (h _ n (by rw [h1]; exact fun z => nomatch z)) (Reps.rn h hf r e1)
  | _, _, .sc h1 r, _, e => by
    obtain ⟨ys, e1, rfl⟩ := Option.map_eq_some_iff.mp (show (renL f _).map AV.sc = some _ from e)
    exact .sc h1 (Reps.rn h hf r e1)
  | _, _, .ref ha, _, e => by
    obtain ⟨j, e1, rfl⟩ := Option.map_eq_some_iff.mp (show (f _).map AV.ref = some _ from e)
    exact .ref (hf _ _ _ e1 ha)
  | _, _, .fn k, _, e => by cases e; exact .fn k
  | _, _, .obj h1 n r, _, e => by
    obtain ⟨ys, e1, rfl⟩ := Option.map_eq_some_iff.mp (show (renL f _).map (AV.obj _) = some _ from e)
    exact .obj h1 ⟨h _ n.1 (by rw [h1.1]; exact fun z => nomatch z), h _ n.2 (by rw [h1.2]; exact fun z => nomatch z)⟩ (Reps.rn h hf r e1)
  | _, _, @Rep.fd _ _ _ ks xs a kvs h1 n r1 r2, y, e => by
    have e' : (match renL f ks, renL f xs with | some a, some b => some (AV.fd a b) | _, _ => none) = some y := e
    cases q1 : renL f ks with
    | none => rw [q1] at e'; cases e'
    | some k2 =>
      cases q2 : renL f xs with
      | none => rw [q1, q2] at e'; cases e'
      | some x2 =>
        rw [q1, q2] at e'
        cases e'
        exact .fd h1 (h _ n (by rw [h1]; exact fun z => nomatch z)) (Reps.rn h hf r1 q1) (Reps.rn h hf r2 q2)
theorem Reps.rn {f : Nat → Option Nat} (h : ∀ a, a ∉ ρ1 ∧ ¬ T.fb a → H a ≠ none → a ∉ ρ2 ∧ ¬ fb2 a) (hf : ∀ i j a, f i = some j → ρ1[i]? = some a → ρ2[j]? = some a) :
    ∀ {xs : List AV} {vs : List V}, Reps T ρ1 H xs vs → ∀ {ys : List AV}, renL f xs = some ys → Reps (T.wb fb2) ρ2 H ys vs
  | _, _, .nil, _, e => by cases e; exact .nil
  | x :: xs, _, .cons a r, _, e => by
    have e' : (match renV f x, renL f xs with | some y, some ys => some (y :: ys) | _, _ => none) = some _ := e
    cases h1 : renV f x with
    | none => rw [h1] at e'; cases e'
    | some y =>
      cases h2 : renL f xs with
      | none => rw [h1, h2] at e'; cases e'
      | some ys =>
        rw [h1, h2] at e'
        cases e'
        exact .cons (Rep.rn h hf a h1) (Reps.rn h hf r h2)
end
end

/-! ### the callee's world -/
def picks (ρ : List Addr) (rs : List Nat) : List Addr := rs.map fun r => ρ.getD r 0
def fbOf (T : Tb) (ρ ρ0 : List Addr) : Addr → Prop := fun b => T.fb b ∨ (b ∈ ρ ∧ b ∉ ρ0)
theorem nodup_at {α : Type} {l : List α} (h : l.Nodup) {i j : Nat} {x : α} (a : l[i]? = some x) (b : l[j]? = some x) : i = j := (List.getElem?_inj (get_lt a) h).mp (a.trans b.symm)
section
variable {T : Tb} {ρ : List Addr} {H : Hp} {m m0 : AH} {rs : List Nat}
theorem picks_get (rl : Rl T ρ H m) (hs : subH m rs = some m0) {j r : Nat} (hj : rs[j]? = some r) : ∃ a, ρ[r]? = some a ∧ (picks ρ rs)[j]? = some a := by
  obtain ⟨o, h1, _⟩ := (subH_get hs).2 j r hj
  have hr : r < ρ.length := by rw [rl.len]; exact get_lt h1
  refine ⟨ρ[r], List.getElem?_eq_getElem hr, ?_⟩
  unfold picks
  rw [List.getElem?_map, hj]
  show some (ρ.getD r 0) = _
  rw [List.getD_eq_getElem?_getD, List.getElem?_eq_getElem hr]
  rfl
theorem picks_inv (rl : Rl T ρ H m) (hs : subH m rs = some m0) {j : Nat} {a : Addr} (hj : (picks ρ rs)[j]? = some a) : ∃ r, rs[j]? = some r ∧ ρ[r]? = some a := by
  have hl : j < rs.length := by have := get_lt hj; unfold picks at this; rw [List.length_map] at this; exact this
  obtain ⟨b, h1, h2⟩ := picks_get rl hs (List.getElem?_eq_getElem hl)
  rw [hj] at h2
  cases h2
  exact ⟨_, List.getElem?_eq_getElem hl, h1⟩
theorem picks_mem (rl : Rl T ρ H m) (hs : subH m rs = some m0) {a : Addr} (h : a ∈ picks ρ rs) : a ∈ ρ := by
  obtain ⟨j, hj⟩ := List.mem_iff_getElem?.mp h
  obtain ⟨r, _, h2⟩ := picks_inv rl hs hj
  exact mem_get h2
theorem picks_nd (rl : Rl T ρ H m) (hs : subH m rs = some m0) (nd : rs.Nodup) : (picks ρ rs).Nodup := by
  have hm : ∀ r ∈ rs, r < ρ.length := fun r hr => by
    obtain ⟨j, hj⟩ := List.mem_iff_getElem?.mp hr
    obtain ⟨o, h1, _⟩ := (subH_get hs).2 j r hj
    rw [rl.len]; exact get_lt h1
  unfold picks
  rw [List.Nodup, List.pairwise_map]
  refine List.Pairwise.imp_of_mem (fun {a b} ha hb ne e => ne ?_) nd
  have la := hm a ha
  have lb := hm b hb
  rw [List.getD_eq_getElem?_getD, List.getD_eq_getElem?_getD, List.getElem?_eq_getElem la, List.getElem?_eq_getElem lb] at e
  exact nodup_at rl.nd (List.getElem?_eq_getElem la) (by rw [List.getElem?_eq_getElem lb]; exact congrArg some (show ρ[b] = ρ[a] from e.symm))
/-- the callee's heap -/
theorem Rl.callee (rl : Rl T ρ H m) (hs : subH m rs = some m0) (nd : rs.Nodup) : Rl (T.wb (fbOf T ρ (picks ρ rs))) (picks ρ rs) H m0 where
  len := by unfold picks; rw [List.length_map]; exact (subH_get hs).1
  nd := picks_nd rl hs nd
  ob := fun j a o hj ho => by
    obtain ⟨r, h1, h2⟩ := picks_inv rl hs hj
    obtain ⟨o', k1, k2, k3⟩ := (subH_get hs).2 j r h1
    rw [ho] at k3
    cases k3
    refine Ob.cv (T := T) (ρ1 := ρ) (fun b nb _ => ⟨fun z => nb.1 (picks_mem rl hs z), ?_⟩) k2 (rl.ob r a o h2 k1)
    rintro (z | z)
    · exact nb.2 z
    · exact nb.1 z.1
  fb := fun b hb => by
    rcases hb with hb | hb
    · exact ⟨fun z => (rl.fb b hb).1 (picks_mem rl hs z), (rl.fb b hb).2⟩
    · exact ⟨hb.2, rl.muts _ hb.1⟩
  tb := rl.tb

variable {ρ1 : List Addr} {H1 : Hp} {m1 m2 os : AH} {js : List Nat}
/-- what is new to the callee is new to the caller -/
theorem out_of (nx : Nx (T.wb (fbOf T ρ (picks ρ rs))) (picks ρ rs) H m0 ρ1 H1 m1) {a : Addr} (h : a ∉ ρ1 ∧ ¬ fbOf T ρ (picks ρ rs) a) : a ∉ ρ ∧ ¬ T.fb a := by
  refine ⟨fun z => ?_, fun z => h.2 (.inl z)⟩
  by_cases c : a ∈ picks ρ rs
  · exact h.1 (nx.ext.pre.subset c)
  · exact h.2 (.inr ⟨z, c⟩)
theorem new_of (nd : rs.Nodup) (rl : Rl T ρ H m) (hs : subH m rs = some m0) (nx : Nx (T.wb (fbOf T ρ (picks ρ rs))) (picks ρ rs) H m0 ρ1 H1 m1) {a : Addr} {r : Nat} (hr : rs.length ≤ r) (ha : ρ1[r]? = some a) : a ∉ ρ ∧ ¬ T.fb a ∧ a ∉ picks ρ rs := by
  have n1 : a ∉ picks ρ rs := fun z => by
    obtain ⟨j, hj⟩ := List.mem_iff_getElem?.mp z
    have e := nodup_at nx.rl.nd ha (pre_get nx.ext.pre hj)
    have := get_lt hj
    unfold picks at this
    rw [List.length_map] at this
    omega
  have n2 : ¬ fbOf T ρ (picks ρ rs) a := fun z => (nx.rl.fb a z).1 (mem_get ha)
  exact ⟨fun z => n2 (.inr ⟨z, n1⟩), fun z => n2 (.inl z), n1⟩
/-- back in the caller's world -/
theorem Nx.back (nd : rs.Nodup) (rl : Rl T ρ H m) (hs : subH m rs = some m0) (nx : Nx (T.wb (fbOf T ρ (picks ρ rs))) (picks ρ rs) H m0 ρ1 H1 m1) (hp : putH m rs m1 = some m2)
    (ndj : js.Nodup) (hj : ∀ r ∈ js, rs.length ≤ r) (ho : subH m1 js = some os) : Nx T ρ H m (ρ ++ picks ρ1 js) H1 (m2 ++ os) := by
  obtain ⟨pl, p1, p2⟩ := putH_get hp nd
  obtain ⟨sl, s1⟩ := subH_get hs
  obtain ⟨ol, o1⟩ := subH_get ho
  have news : ∀ {a : Addr}, a ∈ picks ρ1 js → a ∉ ρ ∧ ¬ T.fb a ∧ a ∉ picks ρ rs ∧ a ∈ ρ1 := fun {a} z => by
    obtain ⟨j, hj'⟩ := List.mem_iff_getElem?.mp z
    obtain ⟨r, h1, h2⟩ := picks_inv nx.rl ho hj'
    obtain ⟨k1, k2, k3⟩ := new_of nd rl hs nx (hj r (mem_get h1)) h2
    exact ⟨k1, k2, k3, mem_get h2⟩
  have ex : Ext ρ H (ρ ++ picks ρ1 js) H1 := {
    pre := List.prefix_append _ _
    keep := fun b o hb nb => nx.ext.keep b o hb (fun z => nb (picks_mem rl hs z))
    new := fun b hb => by
      rcases List.mem_append.mp hb with z | z
      · exact .inl z
      · obtain ⟨_, _, n3, n4⟩ := news z
        rcases nx.ext.new b n4 with q | q
        · exact absurd q n3
        · exact .inr q }
  have cv : ∀ a, a ∉ ρ1 ∧ ¬ fbOf T ρ (picks ρ rs) a → H1 a ≠ none → a ∉ ρ ++ picks ρ1 js ∧ ¬ T.fb a := fun a h _ => by
    obtain ⟨k1, k2⟩ := out_of nx h
    exact ⟨fun z => by
      rcases List.mem_append.mp z with z | z
      · exact k1 z
      · exact h.1 (news z).2.2.2, k2⟩
  have jn : ∀ {r : Nat}, r ∈ rs → ∃ j, rs[j]? = some r := fun h => List.mem_iff_getElem?.mp h
  refine ⟨ex, ⟨?_, ?_, ?_, ?_, nx.rl.tb⟩, ?_⟩
  · rw [List.length_append, List.length_append, rl.len, pl, ← ol]
    unfold picks
    rw [List.length_map]
  · rw [List.nodup_append]
    exact ⟨rl.nd, picks_nd nx.rl ho ndj, fun a ha b hb e => (news hb).1 (by rw [← e]; exact ha)⟩
  · intro i a o hi hm
    by_cases c : i < ρ.length
    · rw [List.getElem?_append_left c] at hi
      rw [List.getElem?_append_left (by rw [pl, ← rl.len]; exact c)] at hm
      by_cases z : i ∈ rs
      · obtain ⟨j, hj1⟩ := jn z
        obtain ⟨o', k1, k2, k3⟩ := p1 j i hj1
        rw [k3 (by rw [← rl.len]; exact c)] at hm
        cases hm
        obtain ⟨b, q1, q2⟩ := picks_get rl hs hj1
        rw [hi] at q1
        cases q1
        exact Ob.cv (T := T.wb (fbOf T ρ (picks ρ rs))) (fb2 := T.fb) cv k2 (nx.rl.ob j a o (pre_get nx.ext.pre q2) k1)
      · rw [p2 i z] at hm
        have ob := rl.ob i a o hi hm
        refine ob.mono rl.muts ex ?_
        have na : a ∉ picks ρ rs := fun q => by
          obtain ⟨j, hj1⟩ := List.mem_iff_getElem?.mp q
          obtain ⟨r, h1, h2⟩ := picks_inv rl hs hj1
          have := nodup_at rl.nd hi h2
          subst this
          exact z (mem_get h1)
        cases e : H a with
        | none => exact absurd e (rl.muts.some (mem_get hi))
        | some u => exact nx.ext.keep a u e na (by have := rl.muts a (mem_get hi); rw [e] at this; exact this.noTb)
    · have c' : ρ.length ≤ i := Nat.le_of_not_lt c
      rw [List.getElem?_append_right c'] at hi
      rw [List.getElem?_append_right (by rw [pl, ← rl.len]; exact c')] at hm
      obtain ⟨r, h1, h2⟩ := picks_inv nx.rl ho hi
      obtain ⟨o', k1, k2, k3⟩ := o1 _ r h1
      rw [pl, ← rl.len, k3] at hm
      cases hm
      exact Ob.cv (T := T.wb (fbOf T ρ (picks ρ rs))) (fb2 := T.fb) cv k2 (nx.rl.ob r a o h2 k1)
  · intro b hb
    refine ⟨fun z => ?_, (nx.rl.fb b (.inl hb)).2⟩
    rcases List.mem_append.mp z with z | z
    · exact (rl.fb b hb).1 z
    · exact (news z).2.1 hb
  · intro r e xs hr
    have hlt : r < m2.length := by rw [pl]; exact get_lt hr
    rw [List.getElem?_append_left hlt]
    by_cases z : r ∈ rs
    · obtain ⟨j, hj1⟩ := jn z
      obtain ⟨o', k1, k2, k3⟩ := s1 j r hj1
      rw [hr] at k1
      cases k1
      obtain ⟨e', xs', h1, h2, h3⟩ := nx.mono j e xs k3
      obtain ⟨o2, q1, q2, q3⟩ := p1 j r hj1
      rw [h1] at q1
      cases q1
      exact ⟨e', xs', q3 (by rw [← pl]; exact hlt), h2, h3⟩
    · rw [p2 r z]
      exact ⟨e, xs, hr, Nat.le_refl _, fun _ => rfl⟩
/-- new lists, frozen -/
theorem optM_rep {f : AV → Option AV} {T1 T2 : Tb} {ρ2 : List Addr} (h : ∀ {x y : AV} {v : V}, f x = some y → Rep T1 ρ1 H1 x v → Rep T2 ρ2 H1 y v) : ∀ {xs ys : List AV} {vs : List V}, optM f xs = some ys → Reps T1 ρ1 H1 xs vs → Reps T2 ρ2 H1 ys vs
  | [], _, _, e, r => by rw [optM_nil e]; cases r; exact .nil
  | x :: xs, _, _, e, r => by
    obtain ⟨y, t, h1, h2, rfl⟩ := optM_cons e
    cases r with
    | cons r1 r2 => exact .cons (h h1 r1) (optM_rep h h2 r2)
theorem fz_rep {lo : Nat} {T2 : Tb} {fb2 : Addr → Prop} {ρ2 : List Addr} (rl1 : Rl T2 ρ1 H1 m1) (cv : ∀ a, a ∉ ρ1 ∧ ¬ T2.fb a → H1 a ≠ none → a ∉ ρ2 ∧ ¬ fb2 a) (nw : ∀ r a, lo ≤ r → ρ1[r]? = some a → a ∉ ρ2 ∧ ¬ fb2 a) :
    ∀ (n : Nat) {x y : AV} {v : V}, fzV lo m1 n x = some y → Rep T2 ρ1 H1 x v → Rep (T2.wb fb2) ρ2 H1 y v
  | 0, _, _, _, e, _ => by cases e
  | n + 1, x, y, v, e, r => by
    have ih := fun {xs ys : List AV} {vs : List V} => optM_rep (xs := xs) (ys := ys) (vs := vs) (f := fzV lo m1 n) (T1 := T2) (T2 := T2.wb fb2) (ρ1 := ρ1) (ρ2 := ρ2) (H1 := H1) (fun h r => fz_rep rl1 cv nw n h r)
    have flat : ∀ {x : AV}, (if pureV x = true then some x else none) = some y → Rep T2 ρ1 H1 x v → Rep (T2.wb fb2) ρ2 H1 y v := fun {x} e r => by
      by_cases c : pureV x = true
      · rw [if_pos c] at e; cases e; exact Rep.cv cv c r
      · rw [if_neg c] at e; cases e
    cases x with
    | tup xs =>
      obtain ⟨ys, e1, rfl⟩ := Option.map_eq_some_iff.mp (show (optM (fzV lo m1 n) xs).map AV.tup = some y from e)
      cases r with
      | tup h1 r1 => exact .tup h1 (ih e1 r1)
    | fl xs =>
      obtain ⟨ys, e1, rfl⟩ := Option.map_eq_some_iff.mp (show (optM (fzV lo m1 n) xs).map AV.fl = some y from e)
      cases r with
      | fl h1 nn r1 => exact .fl h1 (cv _ nn (by rw [h1]; exact fun z => nomatch z)) (ih e1 r1)
    | ref i =>
      have e' : (if Nat.ble lo i = true then (match getL m1 i with | some (_, xs) => (optM (fzV lo m1 n) xs).map AV.fl | none => none) else none) = some y := e
      by_cases c : Nat.ble lo i = true
      · rw [if_pos c] at e'
        cases hg : getL m1 i with
        | none => rw [hg] at e'; cases e'
        | some p =>
          obtain ⟨ep, xs⟩ := p
          rw [hg] at e'
          obtain ⟨ys, e1, rfl⟩ := Option.map_eq_some_iff.mp (show (optM (fzV lo m1 n) xs).map AV.fl = some y from e')
          cases r with
          | ref ha =>
            obtain ⟨vs, hv, rv⟩ := rl1.list hg ha
            exact .fl hv (nw _ _ (Nat.le_of_ble_eq_true c) ha) (ih e1 rv)
      · rw [if_neg c] at e'; cases e'
    | non => exact flat (x := .non) e r
    | bl b => exact flat (x := .bl b) e r
    | int i => exact flat (x := .int i) e r
    | str z => exact flat (x := .str z) e r
    | sc xs => exact flat (x := .sc xs) e r
    | fn k => exact flat (x := .fn k) e r
    | obj c xs => exact flat (x := .obj c xs) e r
    | fd ks xs => exact flat (x := .fd ks xs) e r
end

/-! ### the call -/
section
variable {T : Tb} {F : FT} {ρ : List Addr} {H : Hp} {m : AH} {W : WX} {σ : L2.St}
theorem ex_cv {T : Tb} {fb2 : Addr → Prop} {ρ1 ρ2 : List Addr} {H : Hp} {c : Nat} {vs : List AV} {d : Option Addr} (cv : ∀ a, a ∉ ρ1 ∧ ¬ T.fb a → H a ≠ none → a ∉ ρ2 ∧ ¬ fb2 a) (p : pureL vs = true) (h : ExAt T c vs d ρ1 H) : ExAt (T.wb fb2) c vs d ρ2 H := by
  unfold ExAt at h ⊢
  cases e : T.fld c with
  | none =>
    rw [e] at h
    exact h
  | some f =>
    rw [e] at h
    obtain ⟨x, v, da, rfl, rfl, h3, h4, h5, h6⟩ := h
    obtain ⟨k1, k2⟩ := cv da ⟨h5, h6⟩ (by rw [h3]; exact fun z => nomatch z)
    exact ⟨x, v, da, rfl, rfl, h3, Rep.cv cv (Bool.and_eq_true_iff.mp p).1 h4, k1, k2⟩
theorem call_sp {fr : Bool} {i : Nat} {avs : List AV} {vs : List V} {Q : VK} (rl : Rl T ρ H m) (rvs : Reps T ρ H avs vs) (g : Good T W σ ρ H m (callV fr F i avs m) fun a ρ' H' _ => ∀ v, Rep T ρ' H' a v → Q v H') : spF T F i vs H Q (WE W σ) := by
  obtain ⟨rs, ers⟩ : ∃ rs, rs = uniq (refsL avs) := ⟨_, rfl⟩
  have nd : rs.Nodup := by rw [ers]; exact uniq_nd _
  unfold callV at g
  rw [← ers] at g
  cases hs : subH m rs with
  | none => simp only [hs] at g; exact g.elim
  | some m0 =>
    cases hr : renL (fun r => posN r rs) avs with
    | none => simp only [hs, hr] at g; exact g.elim
    | some ws =>
      simp only [hs, hr] at g
      have rl0 := rl.callee hs nd
      refine ⟨fbOf T ρ (picks ρ rs), picks ρ rs, m0, ws, rl0, ?_, ?_⟩
      · refine Reps.rn (ρ1 := ρ) (T := T) (fun b nb _ => ⟨fun z => nb.1 (picks_mem rl hs z), ?_⟩) (fun r j a h1 h2 => ?_) rvs hr
        · rintro (z | z)
          · exact nb.2 z
          · exact nb.1 z.1
        · obtain ⟨b, q1, q2⟩ := picks_get rl hs (posN_get h1)
          rw [h2] at q1
          cases q1
          exact q2
      · cases hc : F.call i ws m0 with
        | no => simp only [hc] at g; exact g.elim
        | ex c xs m1 =>
          simp only [hc] at g
          intro ρ1 H1 d nx ex
          cases hp : putH m rs m1 with
          | none => simp only [hp] at g; exact g.elim
          | some m2 =>
            simp only [hp] at g
            by_cases p : pureL xs = true
            · rw [if_pos p] at g
              have nb := Nx.back (js := []) (os := []) nd rl hs nx hp List.nodup_nil (fun r h => nomatch h) rfl
              unfold picks at nb
              rw [List.map_nil, List.append_nil, List.append_nil] at nb
              exact g ρ H1 d nb (ex_cv (T := T.wb (fbOf T ρ (picks ρ rs))) (fb2 := T.fb) (fun a h _ => out_of nx h) p ex)
            · rw [if_neg p] at g; exact g.elim
        | ok v m1 =>
          simp only [hc] at g
          intro ρ1 H1 nx x rx
          cases hp : putH m rs m1 with
          | none => simp only [hp] at g; exact g.elim
          | some m2 =>
            simp only [hp] at g
            have nb0 := Nx.back (js := []) (os := []) nd rl hs nx hp List.nodup_nil (fun r h => nomatch h) rfl
            unfold picks at nb0
            rw [List.map_nil, List.append_nil, List.append_nil] at nb0
            by_cases p : pureV v = true
            · rw [if_pos p] at g
              exact g ρ H1 nb0 x (Rep.cv (T := T.wb (fbOf T ρ (picks ρ rs))) (fb2 := T.fb) (fun a h _ => out_of nx h) p rx)
            · rw [if_neg p] at g
              by_cases hf : fr = true
              · rw [if_pos hf] at g
                cases hz : fzV rs.length m1 60 v with
                | none => simp only [hz, Rs.of] at g; exact g.elim
                | some v' =>
                  simp only [hz, Rs.of] at g
                  refine g ρ H1 nb0 x (fz_rep (T2 := T.wb (fbOf T ρ (picks ρ rs))) (fb2 := T.fb) nx.rl (fun a h _ => out_of nx h) (fun r a hr ha => ?_) 60 hz rx)
                  obtain ⟨k1, k2, _⟩ := new_of nd rl hs nx hr ha
                  exact ⟨k1, k2⟩
              · rw [if_neg hf] at g
                obtain ⟨js, ejs⟩ : ∃ js, js = uniq ((refsV v).filter fun j => Nat.ble rs.length j) := ⟨_, rfl⟩
                rw [← ejs] at g
                have ndj : js.Nodup := by rw [ejs]; exact uniq_nd _
                have lj : ∀ r ∈ js, rs.length ≤ r := fun r hr => by
                  rw [ejs] at hr
                  exact Nat.le_of_ble_eq_true (List.mem_filter.mp (uniq_mem hr)).2
                cases ho : subH m1 js with
                | none => simp only [newH, ho] at g; exact g.elim
                | some os =>
                  simp only [newH, ho] at g
                  obtain ⟨f, ef⟩ : ∃ f : Nat → Option Nat, f = fun j => if Nat.blt j rs.length = true then rs[j]? else (posN j js).map (· + m2.length) := ⟨_, rfl⟩
                  rw [← ef] at g
                  cases hz : renV f v with
                  | none => simp only [hz] at g; exact g.elim
                  | some v' =>
                    simp only [hz] at g
                    have nb := Nx.back nd rl hs nx hp ndj lj ho
                    refine g _ H1 nb x (Rep.rn (T := T.wb (fbOf T ρ (picks ρ rs))) (fb2 := T.fb) (fun a h _ => ?_) (fun i j a h1 h2 => ?_) rx hz)
                    · obtain ⟨k1, k2⟩ := out_of nx h
                      refine ⟨fun z => ?_, k2⟩
                      rcases List.mem_append.mp z with z | z
                      · exact k1 z
                      · exact h.1 (picks_mem nx.rl ho z)
                    · rw [ef] at h1
                      have h1' : (if Nat.blt i rs.length = true then rs[i]? else (posN i js).map (· + m2.length)) = some j := h1
                      have le : m2.length = ρ.length := by rw [(putH_get hp nd).1, rl.len]
                      by_cases c : Nat.blt i rs.length = true
                      · rw [if_pos c] at h1'
                        obtain ⟨b, q1, q2⟩ := picks_get rl hs h1'
                        have q3 := pre_get nx.ext.pre q2
                        rw [h2] at q3
                        cases q3
                        rw [List.getElem?_append_left (get_lt q1)]
                        exact q1
                      · rw [if_neg c] at h1'
                        obtain ⟨q, q1, rfl⟩ := Option.map_eq_some_iff.mp h1'
                        obtain ⟨b, q2, q3⟩ := picks_get nx.rl ho (posN_get q1)
                        rw [h2] at q2
                        cases q2
                        rw [List.getElem?_append_right (by omega)]
                        rw [show q + m2.length - ρ.length = q by omega]
                        exact q3

variable {k : Kx} {n : Nat} {sx : Sx} {X : Cx} {fr : Bool} {pos : Pos} {es : D} {x : Str} {p : Pos} {e : Expr} {l : List Expr}
/-- a def is called -/
theorem run_at {X : Cx} {f : Addr} {sp : Sp} {E : L2.St → XK} {pins : List (Addr × Obj)} {σ : L2.St} {H : Hp} {s : Shared} {Q : VK} {us : List Value} {vs : List V} (fa : FnAt X.prog X.w X.K X.mg X.base (L2.CX X.prog X.w) X.A f sp)
    (hx : PassesAt (L2.CX X.prog X.w) X σ (E σ)) (I : Inv X pins σ H s) (r : Vals vs us) (h : sp vs H Q (E σ)) : wpAny (model X.prog X.w) X.A (PySem.call (.ref f) us) (EP X pins σ Q) X.xe s := by
  refine wpAny_call (codeAny_mono (fa.run X.stack s H us vs Q (E σ) I.env0 r h) ?_)
  rintro (er | (u | _ | _ | _)) s' hq
  · exact hx pins H s er s' I hq
  all_goals first | exact I.after hq | exact False.elim hq
theorem x_call {j : Nat} (ck : Ck T F k n sx W X) (hx : nmB x = true) (hg : glB sx.sc x = true) (hj : k.gn.lookup x = some j) (hs : notStar e = true) (hl : l.all notStar = true) (ha : PA X (e :: l) (spA T W F es)) :
    PE X (.Call (.Name x p) (e :: l) [] pos) (spE T W F fr (dE (eCall j es))) := by
  obtain ⟨a, ea, em⟩ := ck.gn x j hj
  have fok := ck.fns j a ea
  refine ⟨fun pins s σ H Q I ⟨ρ, m, as, rl, rs, g⟩ => ?_⟩
  refine wpAny_Call_Name_kw (ld_glob I (gl_of ck hg) em ?_ (nm_of hx).1)
  refine PySem.W.callWith_K (h₀ := X.base) I.ok.mod.kin (ck.kp j a ea) (thn (ha.run pos pins s σ H (fun vs H1 => spF T F j vs H1 Q (WE W σ)) I ⟨ρ, m, as, rl, rs, (Good.bind g).imp fun xs ρ1 H1 m1 n1 g1 vs rvs => call_sp n1.rl rvs g1⟩) ?_) (star_no hs _ _) (bk_ok hl)
  rintro us s1 ⟨vs, H1, J, r, q⟩
  exact ⟨J.kIn, run_at (E := WE W) fok (passAt ck.takes σ) J r q⟩
theorem x_calv {i : Nat} (ck : Ck T F k n sx W X) (hx : nmB x = true) (hi : atB k.N i x = true) (hv : visB sx.sc x = true) (hs : notStar e = true) (hl : l.all notStar = true) (ha : PA X (e :: l) (spA T W F es)) :
    PE X (.Call (.Name x p) (e :: l) [] pos) (spE T W F fr (dE (eCalv i es))) := by
  refine ⟨fun pins s σ H Q I ⟨ρ, m, as, rl, rs, g⟩ => ?_⟩
  have g1 := Good.bind g
  have hn := x_var (T := T) (F := F) (W := W) (fr := true) (pos := p) ck hx hi hv
  refine wpAny_Call_Name_kw (thn (hn.run pins s σ H (fun v H1 => ∃ ρ1 m1 j, Rl T ρ1 H1 m1 ∧ RS1 T ρ1 H1 as σ ∧ Rep T ρ1 H1 (.fn j) v ∧ Good T W σ ρ1 H1 m1 ((es.a F as m1).bind fun vs m2 => callV fr F j vs m2) fun a ρ' H' _ => ∀ v, Rep T ρ' H' a v → Q v H') I
    ⟨ρ, m, as, rl, rs, g1.imp fun z ρ1 H1 m1 n1 g2 v rv => ?_⟩) ?_)
  · cases z <;> first | exact g2.elim | skip
    exact ⟨ρ1, m1, _, n1.rl, rs.mono rl.muts n1.ext, rv, g2⟩
  rintro u s1 ⟨v, H1, J, ru, ρ1, m1, j, rl1, rs1, rz, g2⟩
  have g3 := Good.bind g2
  cases rz with
  | fn ea =>
    rename_i a
    cases ru
    have fok := ck.fns j a ea
    refine PySem.W.callWith_K (h₀ := X.base) J.ok.mod.kin (ck.kp j a ea) (thn (ha.run pos pins s1 σ H1 (fun vs H2 => spF T F j vs H2 Q (WE W σ)) J ⟨ρ1, m1, as, rl1, rs1, g3.imp fun xs ρ2 H2 m2 n2 g4 vs rvs => call_sp n2.rl rvs g4⟩) ?_) (star_no hs _ _) (bk_ok hl)
    rintro us s2 ⟨vs, H2, J2, r2, q2⟩
    exact ⟨J2.kIn, run_at (E := WE W) fok (passAt ck.takes σ) J2 r2 q2⟩
end
end Mi
set_option Elab.async false
set_option linter.all false
set_option maxRecDepth 100000
set_option maxHeartbeats 4000000
/-! Mini: what is walked -/
namespace Mi
open PySem PySem.Spec PyProof.Rows L2

/-- later, but for the objects in fb (which are written from outside) -/
structure ExtF (fb : Addr → Prop) (ρ : List Addr) (H : Hp) (ρ' : List Addr) (H' : Hp) : Prop where
  pre : ρ <+: ρ'
  keep : ∀ b o, H b = some o → b ∉ ρ → ¬ fb b → NoTb o → H' b = some o
  new : ∀ b ∈ ρ', b ∈ ρ ∨ Nw (H b)
theorem Ext.toF {fb : Addr → Prop} {ρ ρ' : List Addr} {H H' : Hp} (e : Ext ρ H ρ' H') : ExtF fb ρ H ρ' H' := ⟨e.pre, fun b o h n _ t => e.keep b o h n t, e.new⟩
theorem ExtF.trans {fb : Addr → Prop} {ρ ρ1 ρ2 : List Addr} {H H1 H2 : Hp} (a : ExtF fb ρ H ρ1 H1) (b : ExtF fb ρ1 H1 ρ2 H2) (hf : ∀ c, fb c → c ∉ ρ2) : ExtF fb ρ H ρ2 H2 where
  pre := a.pre.trans b.pre
  keep := fun c o h n nf t => b.keep c o (a.keep c o h n nf t) (fun z => by
    rcases a.new c z with q | q
    · exact n q
    · exact q.no h t) nf t
  new := fun c z => by
    rcases b.new c z with q | q
    · exact a.new c q
    · by_cases n : c ∈ ρ
      · exact .inl n
      · by_cases nf : fb c
        · exact absurd z (hf c nf)
        · exact .inr fun u e t => q.no (a.keep c u e n nf t) t
section
variable {T : Tb} {ρ ρ' : List Addr} {H H' : Hp}
mutual
theorem Rep.monoF (m : Muts ρ H) (mf : ∀ b, T.fb b → H b = none ∨ Pl (H b)) (e : ExtF T.fb ρ H ρ' H') : ∀ {x : AV} {v : V}, Rep T ρ H x v → Rep T ρ' H' x v
  | _, _, .non => .non
  | _, _, .bl b => .bl b
  | _, _, .int i => .int i
  | _, _, .str x => .str x
  | _, _, .tup h r => .tup ⟨e.keep _ _ h.1 (m.frz h.1) (fun z => by
      rcases mf _ z with q | q
      · rw [h.1] at q; cases q
      · rw [h.1] at q; exact q) (fun _ z => nomatch z), h.2⟩ (Reps.monoF m mf e r)
  | _, _, .fl h n r => .fl (e.keep _ _ h n.1 n.2 (fun _ z => nomatch z)) ⟨(fun z => by
      rcases e.new _ z with q | q
      · exact n.1 q
      · exact q.no h (fun _ z => nomatch z)), n.2⟩ (Reps.monoF m mf e r)
  | _, _, .sc h r => .sc (by
      rcases h with ⟨o, h⟩ | h
      · exact .inl ⟨o, e.keep _ _ h (m.frz h) (fun z => by
          rcases mf _ z with q | q
          · rw [h] at q; cases q
          · rw [h] at q; exact q) (fun _ z => nomatch z)⟩
      · exact .inr h) (Reps.monoF m mf e r)
  | _, _, .ref h => .ref (pre_get e.pre h)
  | _, _, .fn h => .fn h
  | _, _, .obj h n r => .obj ⟨e.keep _ _ h.1 n.1.1 n.1.2 (fun _ z => nomatch (show HO.ext _ = _ from z)), e.keep _ _ h.2 n.2.1 n.2.2 (fun _ z => nomatch z)⟩ ⟨⟨(fun z => by
      rcases e.new _ z with q | q
      · exact n.1.1 q
      · exact q.no h.1 (fun _ z => nomatch (show HO.ext _ = _ from z))), n.1.2⟩, ⟨(fun z => by
      rcases e.new _ z with q | q
      · exact n.2.1 q
      · exact q.no h.2 (fun _ z => nomatch z)), n.2.2⟩⟩ (Reps.monoF m mf e r)
  | _, _, .fd h n r1 r2 => .fd (e.keep _ _ h n.1 n.2 (fun _ z => nomatch z)) ⟨(fun z => by
      rcases e.new _ z with q | q
      · exact n.1 q
      · exact q.no h (fun _ z => nomatch z)), n.2⟩ (Reps.monoF m mf e r1) (Reps.monoF m mf e r2)
theorem Reps.monoF (m : Muts ρ H) (mf : ∀ b, T.fb b → H b = none ∨ Pl (H b)) (e : ExtF T.fb ρ H ρ' H') : ∀ {xs : List AV} {vs : List V}, Reps T ρ H xs vs → Reps T ρ' H' xs vs
  | _, _, .nil => .nil
  | _, _, .cons h t => .cons (Rep.monoF m mf e h) (Reps.monoF m mf e t)
end
mutual
theorem Rep.fbw {fb2 : Addr → Prop} (h : ∀ a, ¬ T.fb a → H a ≠ none → ¬ fb2 a) : ∀ {x : AV} {v : V}, Rep T ρ H x v → Rep (T.wb fb2) ρ H x v
  | _, _, .non => .non
  | _, _, .bl b => .bl b
  | _, _, .int i => .int i
  | _, _, .str x => .str x
  | _, _, .tup h1 r => .tup h1 (Reps.fbw h r)
  | _, _, .fl h1 n r => .fl h1 ⟨n.1, h _ n.2 (by rw [h1]; exact fun z => nomatch z)⟩ (Reps.fbw h r)
  | _, _, .sc h1 r => .sc h1 (Reps.fbw h r)
  | _, _, .ref h1 => .ref h1
  | _, _, .fn h1 => .fn h1
  | _, _, .obj h1 n r => .obj h1 ⟨⟨n.1.1, h _ n.1.2 (by rw [h1.1]; exact fun z => nomatch z)⟩, ⟨n.2.1, h _ n.2.2 (by rw [h1.2]; exact fun z => nomatch z)⟩⟩ (Reps.fbw h r)
  | _, _, .fd h1 n r1 r2 => .fd h1 ⟨n.1, h _ n.2 (by rw [h1]; exact fun z => nomatch z)⟩ (Reps.fbw h r1) (Reps.fbw h r2)
theorem Reps.fbw {fb2 : Addr → Prop} (h : ∀ a, ¬ T.fb a → H a ≠ none → ¬ fb2 a) : ∀ {xs : List AV} {vs : List V}, Reps T ρ H xs vs → Reps (T.wb fb2) ρ H xs vs
  | _, _, .nil => .nil
  | _, _, .cons a r => .cons (Rep.fbw h a) (Reps.fbw h r)
end
end

/-- a later state, also written in fb' -/
structure Later (T : Tb) (ρ1 : List Addr) (H1 : Hp) (m1 : AH) (fb wr : Addr → Prop) (ρ : List Addr) (H : Hp) (m : AH) : Prop where
  up : ∀ b, fb b → T.fb b ∨ H1 b = none
  dn : ∀ b, T.fb b → fb b
  wf : ∀ b, wr b → fb b
  ext : ExtF wr ρ1 H1 ρ H
  rl : Rl (T.wb fb) ρ H m
  mono : Mono m1 m
section
variable {T : Tb} {ρ1 ρ : List Addr} {H1 H : Hp} {m1 m : AH} {fb wr : Addr → Prop}
theorem ExtF.up {fb wr : Addr → Prop} {ρ ρ' : List Addr} {H H' : Hp} (e : ExtF wr ρ H ρ' H') (h : ∀ b, wr b → fb b) : ExtF fb ρ H ρ' H' := ⟨e.pre, fun b o k n nf t => e.keep b o k n (fun z => nf (h b z)) t, e.new⟩
theorem Later.muf (rl1 : Rl T ρ1 H1 m1) (l : Later T ρ1 H1 m1 fb wr ρ H m) : ∀ b, fb b → H1 b = none ∨ Pl (H1 b) := fun b h => by
  rcases l.up b h with q | q
  · exact .inr (rl1.fb b q).2
  · exact .inl q
theorem Later.w (l : Later T ρ1 H1 m1 fb wr ρ H m) : ∀ a, ¬ T.fb a → H1 a ≠ none → ¬ fb a := fun a n ne z => by
  rcases l.up a z with q | q
  · exact n q
  · exact ne q
theorem Rep.later {x : AV} {v : V} (rl1 : Rl T ρ1 H1 m1) (l : Later T ρ1 H1 m1 fb wr ρ H m) (r : Rep T ρ1 H1 x v) : Rep (T.wb fb) ρ H x v :=
  Rep.monoF (T := T.wb fb) rl1.muts (l.muf rl1) (l.ext.up l.wf) (Rep.fbw l.w r)
theorem Reps.later {x : List AV} {v : List V} (rl1 : Rl T ρ1 H1 m1) (l : Later T ρ1 H1 m1 fb wr ρ H m) (r : Reps T ρ1 H1 x v) : Reps (T.wb fb) ρ H x v :=
  Reps.monoF (T := T.wb fb) rl1.muts (l.muf rl1) (l.ext.up l.wf) (Reps.fbw l.w r)

/-- what a turn gives -/
def Yd (T : Tb) (J : L2.It) (i : Nat) (ρ : List Addr) (H : Hp) (m : AH) (a : AV) : Prop := J.go i H ∧ ∀ x H', J.yld i H x H' → Nx T ρ H m ρ H' m ∧ Rep T ρ H' a x
/-- J walks w -/
structure Wk (T : Tb) (w : AI) (J : L2.It) (ρ1 : List Addr) (H1 : Hp) (m1 : AH) : Prop where
  it : ∀ fb wr ρ H m, Later T ρ1 H1 m1 fb wr ρ H m → still w.live m = true → ∀ i, (∀ a, w.its[i]? = some a → Yd (T.wb fb) J i ρ H m a) ∧ (w.its.length = i → J.stop i H)
  gr : ∀ r, w.grow = some r → ∀ fb wr ρ H m, Later T ρ1 H1 m1 fb wr ρ H m → ∀ ep ys, getL m r = some (ep, ys) → ∀ i, (∀ a, ys[i]? = some a → Yd (T.wb fb) J i ρ H m a) ∧ (ys.length ≤ i → J.stop i H)

/-- a sequence as it stands -/
def SeqA (T : Tb) (xs : List AV) (l : Bool) (a : Addr) (ρ : List Addr) (H : Hp) : Prop := ∃ vs, SqS T.K H l a vs ∧ Reps T ρ H xs vs
theorem still_get {lv : List (Nat × Nat)} {r e : Nat} (h : still lv m = true) (hm : (r, e) ∈ lv) : ∃ xs, getL m r = some (e, xs) := by
  unfold still at h
  have q := List.all_eq_true.mp h _ hm
  have q' : (match getL m r with | some (e', _) => Nat.beq e' e | none => false) = true := q
  cases k : getL m r with
  | none => rw [k] at q'; cases q'
  | some p =>
    obtain ⟨e', xs⟩ := p
    rw [k] at q'
    have := Nat.eq_of_beq_eq_true q'
    subst this
    exact ⟨xs, rfl⟩
theorem still_app {lv lv' : List (Nat × Nat)} (h : still (lv ++ lv') m = true) : still lv m = true ∧ still lv' m = true := by
  unfold still at h ⊢
  rw [List.all_append, Bool.and_eq_true] at h
  exact h
theorem seq_of {v : AV} {x : V} {xs : List AV} (rl1 : Rl T ρ1 H1 m1) (h : items m1 v = some xs) (rv : Rep T ρ1 H1 v x) :
    ∃ l a, x = .ref a ∧ SeqA T xs l a ρ1 H1 ∧ (∀ fb wr ρ H m, Later T ρ1 H1 m1 fb wr ρ H m → still (liveOf m1 v) m = true → SeqA (T.wb fb) xs l a ρ H) ∧
      ∀ r, v = .ref r → l = true ∧ ∀ fb wr ρ H m, Later T ρ1 H1 m1 fb wr ρ H m → ∀ ep ys, getL m r = some (ep, ys) → SeqA (T.wb fb) ys l a ρ H := by
  cases rv with
  | tup h1 r1 =>
    cases h
    exact ⟨false, _, rfl, ⟨_, SqT.tup h1, r1⟩, fun fb wr ρ H m l _ => by
      have r2 := Rep.later rl1 l (.tup h1 r1)
      cases r2 with
      | tup h2 r2 => exact ⟨_, SqT.tup h2, r2⟩, fun r e => nomatch e⟩
  | fl h1 n r1 =>
    cases h
    exact ⟨true, _, rfl, ⟨_, SqL.of h1, r1⟩, fun fb wr ρ H m l _ => by
      have r2 := Rep.later rl1 l (.fl h1 n r1)
      cases r2 with
      | fl h2 _ r2 => exact ⟨_, SqL.of h2, r2⟩, fun r e => nomatch e⟩
  | sc h1 r1 =>
    cases h
    exact ⟨true, _, rfl, ⟨_, h1.sql, r1⟩, fun fb wr ρ H m l _ => by
      have r2 := Rep.later rl1 l (.sc h1 r1)
      cases r2 with
      | sc h2 r2 => exact ⟨_, h2.sql, r2⟩, fun r e => nomatch e⟩
  | @ref r a ha =>
    obtain ⟨⟨e, ys⟩, h1, h2⟩ := Option.map_eq_some_iff.mp (show (getL m1 r).map Prod.snd = some xs from h)
    have h2 : ys = xs := h2
    subst h2
    obtain ⟨vs, h3, h4⟩ := rl1.list h1 ha
    have gr : ∀ fb wr ρ H m, Later T ρ1 H1 m1 fb wr ρ H m → ∀ ep zs, getL m r = some (ep, zs) → SeqA (T.wb fb) zs true a ρ H := fun fb wr ρ H m l ep zs hz => by
      obtain ⟨ws, k1, k2⟩ := l.rl.list hz (pre_get l.ext.pre ha)
      exact ⟨ws, SqL.of k1, k2⟩
    refine ⟨true, a, rfl, ⟨vs, SqL.of h3, h4⟩, fun fb wr ρ H m l st => ?_, fun r' e' => ?_⟩
    · have lv : liveOf m1 (.ref r) = [(r, e)] := by
        show (match getL m1 r with | some (e, _) => [(r, e)] | none => []) = _
        rw [h1]
      rw [lv] at st
      obtain ⟨zs, hz⟩ := still_get st List.mem_cons_self
      have z := gr fb wr ρ H m l e zs hz
      obtain ⟨e2, xs2, k1, k2, k3⟩ := l.mono r e ys (getL_some h1)
      have k4 := getL_some hz
      rw [k1] at k4
      cases k4
      rw [k3 rfl] at z
      exact z
    · cases e'
      exact ⟨rfl, gr⟩
  | _ => cases h

/-! ### the iterators -/
theorem reps_at {T : Tb} {ρ : List Addr} {H : Hp} {xs : List AV} {vs : List V} {i : Nat} {a : AV} {v : V} (r : Reps T ρ H xs vs) (h : xs[i]? = some a) (h2 : vs[i]? = some v) : Rep T ρ H a v := by
  obtain ⟨w, e, rw'⟩ := r.get h
  rw [h2] at e
  cases e
  exact rw'
theorem wk_e {v : AV} {xs : List AV} {x : V} (rl1 : Rl T ρ1 H1 m1) (h : items m1 v = some xs) (rv : Rep T ρ1 H1 v x) :
    ∃ a, x = .ref a ∧ (((∃ vs, SqL T.K H1 a vs) ∧ Wk T ⟨xs, liveOf m1 v, growOf v⟩ (Itl T.K a) ρ1 H1 m1) ∨ ((∃ vs, SqT T.K H1 a vs) ∧ Wk T ⟨xs, liveOf m1 v, growOf v⟩ (Itt T.K a) ρ1 H1 m1)) := by
  obtain ⟨l, a, rfl, ⟨vs, s1, _⟩, s2, s3⟩ := seq_of rl1 h rv
  refine ⟨a, rfl, ?_⟩
  cases l with
  | true =>
    have yd : ∀ {fb : Addr → Prop} {ρ : List Addr} {H : Hp} {m : AH} {ys : List AV}, Rl (T.wb fb) ρ H m → SeqA (T.wb fb) ys true a ρ H → ∀ i, (∀ b, ys[i]? = some b → Yd (T.wb fb) (Itl T.K a) i ρ H m b) ∧ (ys.length ≤ i → (Itl T.K a).stop i H) :=
      fun {fb ρ H m ys} rl ⟨ws, q1, q2⟩ i => ⟨fun b hb => by
        obtain ⟨u, hu, ru⟩ := q2.get hb
        refine ⟨⟨ws, u, q1, hu⟩, fun y H' e => ?_⟩
        obtain ⟨rfl, hy⟩ := e
        have z := hy ws q1
        rw [hu] at z
        cases z
        exact ⟨Nx.refl rl, ru⟩, fun hl => ⟨ws, q1, by rw [← q2.length]; exact hl⟩⟩
    refine .inl ⟨⟨vs, s1⟩, ?_, ?_⟩
    · intro fb wr ρ H m lt st i
      obtain ⟨k1, k2⟩ := yd lt.rl (s2 fb wr ρ H m lt st) i
      exact ⟨k1, fun e => k2 (Nat.le_of_eq e)⟩
    · intro r hr fb wr ρ H m lt ep ys hy i
      cases v <;> first | (cases hr; done) | skip
      cases hr
      exact yd lt.rl ((s3 _ rfl).2 fb wr ρ H m lt ep ys hy) i
  | false =>
    have yd : ∀ {fb : Addr → Prop} {ρ : List Addr} {H : Hp} {m : AH} {ys : List AV}, Rl (T.wb fb) ρ H m → SeqA (T.wb fb) ys false a ρ H → ∀ i, (∀ b, ys[i]? = some b → Yd (T.wb fb) (Itt T.K a) i ρ H m b) ∧ (ys.length ≤ i → (Itt T.K a).stop i H) :=
      fun {fb ρ H m ys} rl ⟨ws, q1, q2⟩ i => ⟨fun b hb => by
        obtain ⟨u, hu, ru⟩ := q2.get hb
        refine ⟨⟨ws, u, q1, hu⟩, fun y H' e => ?_⟩
        obtain ⟨rfl, hy⟩ := e
        have z := hy ws q1
        rw [hu] at z
        cases z
        exact ⟨Nx.refl rl, ru⟩, fun hl => ⟨ws, q1, by rw [← q2.length]; exact hl⟩⟩
    refine .inr ⟨⟨vs, s1⟩, ?_, ?_⟩
    · intro fb wr ρ H m lt st i
      obtain ⟨k1, k2⟩ := yd lt.rl (s2 fb wr ρ H m lt st) i
      exact ⟨k1, fun e => k2 (Nat.le_of_eq e)⟩
    · intro r hr
      cases v <;> first | (cases hr; done) | skip
      exact absurd (s3 _ rfl).1 (by decide)
theorem rngI_get {lo c : Int} : ∀ {n i : Nat} {a : AV}, (rngI lo c n)[i]? = some a → a = .int (lo + i * c) ∧ i < n
  | 0, _, _, h => by simp [rngI] at h
  | n + 1, 0, a, h => by
    simp [rngI] at h
    subst h
    refine ⟨?_, Nat.succ_pos _⟩
    congr 1
    simp
  | n + 1, i + 1, a, h => by
    have h' : (rngI (lo + c) c n)[i]? = some a := by simpa [rngI] using h
    obtain ⟨e, hl⟩ := rngI_get h'
    refine ⟨?_, by omega⟩
    rw [e]
    congr 1
    have : ((i + 1 : Nat) : Int) * c = (i : Int) * c + c := by rw [Int.natCast_succ, Int.add_mul, Int.one_mul]
    rw [this]
    omega
theorem rngI_len {lo c : Int} : ∀ {n : Nat}, (rngI lo c n).length = n
  | 0 => rfl
  | n + 1 => by show (rngI (lo + c) c n).length + 1 = _; rw [rngI_len]
theorem wk_r {lo : Int} {n : Nat} (rl1 : Rl T ρ1 H1 m1) : Wk T ⟨rngI lo 1 n, [], none⟩ (Itr lo n) ρ1 H1 m1 where
  it := fun fb wr ρ H m lt st i => ⟨fun a ha => by
    obtain ⟨rfl, hl⟩ := rngI_get ha
    refine ⟨hl, fun x H' e => ?_⟩
    obtain ⟨rfl, rfl⟩ := e
    refine ⟨Nx.refl lt.rl, ?_⟩
    rw [Int.mul_one]
    exact .int _, fun e => by
    have e' : n = i := by rw [← e]; exact rngI_len.symm
    exact Nat.le_of_eq e'⟩
  gr := fun r h => nomatch h
theorem wk_c {lo c : Int} {n : Nat} (rl1 : Rl T ρ1 H1 m1) : Wk T ⟨rngI lo c n, [], none⟩ (Itc lo c n) ρ1 H1 m1 where
  it := fun fb wr ρ H m lt st i => ⟨fun a ha => by
    obtain ⟨rfl, hl⟩ := rngI_get ha
    refine ⟨hl, fun x H' e => ?_⟩
    obtain ⟨rfl, rfl⟩ := e
    exact ⟨Nx.refl lt.rl, .int _⟩, fun e => by
    have e' : n = i := by rw [← e]; exact rngI_len.symm
    exact Nat.le_of_eq e'⟩
  gr := fun r h => nomatch h
theorem enumI_get : ∀ {xs : List AV} {k i : Nat} {a : AV}, (enumI (k : Int) xs)[i]? = some a → ∃ x, xs[i]? = some x ∧ a = .tup [.int ((k + i : Nat) : Int), x]
  | [], _, _, _, h => by simp [enumI] at h
  | x :: xs, k, 0, a, h => by
    simp [enumI] at h
    exact ⟨x, rfl, h.symm⟩
  | x :: xs, k, i + 1, a, h => by
    have h' : (enumI ((k + 1 : Nat) : Int) xs)[i]? = some a := by
      have : ((k + 1 : Nat) : Int) = (k : Int) + 1 := by omega
      rw [this]
      simpa [enumI] using h
    obtain ⟨y, h1, h2⟩ := enumI_get h'
    exact ⟨y, by simpa using h1, by rw [h2]; congr 3; omega⟩
theorem enumI_len : ∀ {xs : List AV} {k : Int}, (enumI k xs).length = xs.length
  | [], _ => rfl
  | x :: xs, k => by show (enumI (k + 1) xs).length + 1 = _; rw [enumI_len]; rfl
theorem wk_n {v : AV} {xs : List AV} {x : V} (rl1 : Rl T ρ1 H1 m1) (h : items m1 v = some xs) (rv : Rep T ρ1 H1 v x) :
    ∃ l a vs, x = .ref a ∧ SqS T.K H1 l a vs ∧ Wk T ⟨enumI 0 xs, liveOf m1 v, none⟩ (IteS T.K l a) ρ1 H1 m1 := by
  obtain ⟨l, a, rfl, ⟨vs, s1, _⟩, s2, _⟩ := seq_of rl1 h rv
  refine ⟨l, a, vs, rfl, s1, ⟨fun fb wr ρ H m lt st i => ?_, fun r h => nomatch h⟩⟩
  obtain ⟨ws, q1, q2⟩ := s2 fb wr ρ H m lt st
  refine ⟨fun b hb => ?_, fun e => ⟨ws, q1, ?_⟩⟩
  · obtain ⟨y, hy, rfl⟩ := enumI_get (k := 0) hb
    obtain ⟨u, hu, ru⟩ := q2.get hy
    refine ⟨⟨ws, u, q1, hu⟩, fun z H' e => ?_⟩
    obtain ⟨p, w, us, rfl, hp, rfl, hw⟩ := e
    have e2 := hw ws q1
    rw [hu] at e2
    cases e2
    refine ⟨Nx.add lt.rl hp, .tup ⟨upd_same, rfl⟩ (.cons ?_ (.cons (ru.mono lt.rl.muts (Ext.add hp)) .nil))⟩
    rw [Nat.zero_add]
    exact .int _
  · rw [← q2.length, ← e]
    exact enumI_len.symm
theorem zipI_get : ∀ {xs ys : List AV} {i : Nat} {a : AV}, (zipI xs ys)[i]? = some a → ∃ x y, xs[i]? = some x ∧ ys[i]? = some y ∧ a = .tup [x, y]
  | [], _, _, _, h => by simp [zipI] at h
  | _ :: _, [], _, _, h => by simp [zipI] at h
  | x :: xs, y :: ys, 0, a, h => by
    simp [zipI] at h
    exact ⟨x, y, rfl, rfl, h.symm⟩
  | x :: xs, y :: ys, i + 1, a, h => by
    have h' : (zipI xs ys)[i]? = some a := by simpa [zipI] using h
    obtain ⟨x', y', h1, h2, h3⟩ := zipI_get h'
    exact ⟨x', y', by simpa using h1, by simpa using h2, h3⟩
theorem zipI_len : ∀ {xs ys : List AV}, (zipI xs ys).length = min xs.length ys.length
  | [], _ => by simp [zipI]
  | _ :: _, [] => by simp [zipI]
  | x :: xs, y :: ys => by
    show (zipI xs ys).length + 1 = _
    rw [zipI_len, List.length_cons, List.length_cons]
    omega
theorem wk_z {v v2 : AV} {xs ys : List AV} {x y : V} (rl1 : Rl T ρ1 H1 m1) (h : items m1 v = some xs) (rv : Rep T ρ1 H1 v x) (h2 : items m1 v2 = some ys) (rv2 : Rep T ρ1 H1 v2 y) :
    ∃ l a l2 b vs ws, x = .ref a ∧ y = .ref b ∧ SqS T.K H1 l a vs ∧ SqS T.K H1 l2 b ws ∧ Wk T ⟨zipI xs ys, liveOf m1 v ++ liveOf m1 v2, none⟩ (ItzS T.K l a l2 b) ρ1 H1 m1 := by
  obtain ⟨l, a, rfl, ⟨vs, s1, _⟩, s2, _⟩ := seq_of rl1 h rv
  obtain ⟨l2, b, rfl, ⟨vs2, t1, _⟩, t2, _⟩ := seq_of rl1 h2 rv2
  refine ⟨l, a, l2, b, vs, vs2, rfl, rfl, s1, t1, ⟨fun fb wr ρ H m lt st i => ?_, fun r h => nomatch h⟩⟩
  obtain ⟨st1, st2⟩ := still_app st
  obtain ⟨ws, q1, q2⟩ := s2 fb wr ρ H m lt st1
  obtain ⟨us, p1, p2⟩ := t2 fb wr ρ H m lt st2
  refine ⟨fun c hc => ?_, fun e => ⟨ws, us, q1, p1, ?_⟩⟩
  · obtain ⟨x, y, hx, hy, rfl⟩ := zipI_get hc
    obtain ⟨u, hu, ru⟩ := q2.get hx
    obtain ⟨u2, hu2, ru2⟩ := p2.get hy
    refine ⟨⟨ws, us, u, u2, q1, p1, hu, hu2⟩, fun z H' e => ?_⟩
    obtain ⟨p, w, w2, tt, rfl, hp, rfl, hw, hw2⟩ := e
    have e1 := hw ws q1
    rw [hu] at e1
    cases e1
    have e2 := hw2 us p1
    rw [hu2] at e2
    cases e2
    exact ⟨Nx.add lt.rl hp, .tup ⟨upd_same, rfl⟩ (.cons (ru.mono lt.rl.muts (Ext.add hp)) (.cons (ru2.mono lt.rl.muts (Ext.add hp)) .nil))⟩
  · have e' : min xs.length ys.length = i := by rw [← e]; exact zipI_len.symm
    have l1 := q2.length
    have l2 := p2.length
    omega
end
section
variable {T : Tb} {F : FT} {k : Kx} {n : Nat} {sx : Sx} {W : WX} {X : Cx} {pos p : Pos} {tg : Expr} {es : D}
def spI (T : Tb) (W : WX) (F : FT) (d : D) : TI := fun σ H R => ∃ ρ m as, Rl T ρ H m ∧ RS1 T ρ H as σ ∧ Good T W σ ρ H m (d.i F as m) fun w ρ' H' m' => ∀ J, Wk T w J ρ' H' m' → R J H'
theorem weakI {e : Expr} {t t' : TI} (h : PI X tg e t) (w : ∀ σ H Q, t' σ H Q → t σ H Q) : PI X tg e t' := ⟨fun pins s σ H Q I q => h.run pins s σ H Q I (w σ H Q q)⟩
theorem it_read {kk : It} {σ : L2.St} {H : Hp} {R : L2.It → Hp → Prop} {Q : List V → Hp → Prop} (h : spI T W F { i := iIter kk es } σ H R) (q : ∀ vs ρ' H' m' w, Rl T ρ' H' m' → ∀ xs, Reps T ρ' H' xs vs → iterV kk xs m' = some w → (∀ J, Wk T w J ρ' H' m' → R J H') → Q vs H') : spA T W F es σ H Q := by
  obtain ⟨ρ, m, as, rl, rs, g⟩ := h
  refine ⟨ρ, m, as, rl, rs, (Good.bind g).imp fun xs ρ1 H1 m1 n1 g1 vs rvs => ?_⟩
  obtain ⟨w, e, g2⟩ := Good.of n1.rl g1
  exact q vs ρ1 H1 m1 w n1.rl xs rvs e g2
/-- a list's or a tuple's iterator -/
def iAny (K : PySem.W.Frag) (tl : TE) : TI := fun σ H R => tl σ H fun x H1 => ∃ a, x = .ref a ∧ (((∃ xs, SqL K H1 a xs) ∧ R (Itl K a) H1) ∨ ((∃ xs, SqT K H1 a xs) ∧ R (Itt K a) H1))
theorem pi_any {e : Expr} {tl : TE} (hl : PE X e tl) : PI X tg e (iAny X.K tl) := by
  refine ⟨fun pins s σ H R I h => thn (hl.run pins s σ H _ I h) ?_⟩
  rintro v s1 ⟨x, H1, J, rv, a, rfl, h⟩
  cases rv
  have fresh : ∀ b ∈ [s1.heap.objs.size], FpOk X pins H1 b := fun b hb => by
    rw [List.mem_singleton.mp hb]
    exact J.fpOk (Nat.le_refl _) (J.hok.fresh (Nat.le_refl _))
  have grown : ∀ o : Obj, Inv X pins σ H1 { s1 with heap := s1.heap.push o } := fun o => J.kept (t' := s1.toks) fun _ _ q => Heap.get?_push_of_some _ q
  rcases h with ⟨⟨xs, hq⟩, q⟩ | ⟨⟨xs, hq⟩, q⟩
  · obtain ⟨its, _, pl, _⟩ := J.list hq
    exact wpAny_pyIter_list pl.isList ⟨_, _, _, _, H1, rfl, grown _, turn_list a _, ⟨_, Heap.get?_push_size _ rfl, rfl, rfl⟩, fresh, q⟩
  · obtain ⟨its, _, pl, _⟩ := J.tuple hq
    exact wpAny_pyIter_tuple (show s1.heap.IsTuple a its.toArray from pl) ⟨_, _, _, _, H1, rfl, grown _, turn_tuple a _, ⟨_, Heap.get?_push_size _ rfl, rfl, rfl⟩, fresh, q⟩
theorem i_e {e : Expr} {a : D} (hK : X.K = T.K) (ha : ∀ fr, PE X e (spE T W F fr a)) : PI X tg e (spI T W F { i := iE a }) := by
  refine weakI (pi_any (ha true)) fun σ H R ⟨ρ, m, as, rl, rs, g⟩ => ⟨ρ, m, as, rl, rs, ?_⟩
  refine (Good.bind g).imp fun v ρ1 H1 m1 n1 g1 x rv => ?_
  obtain ⟨w, e, g2⟩ := Good.of n1.rl g1
  have e' : (match items m1 v with | some xs => some (⟨xs, liveOf m1 v, growOf v⟩ : AI) | none => none) = some w := e
  cases hi : items m1 v with
  | none => rw [hi] at e'; cases e'
  | some xs =>
    rw [hi] at e'
    cases e'
    obtain ⟨p, rfl, h⟩ := wk_e n1.rl hi rv
    rw [hK]
    refine ⟨p, rfl, ?_⟩
    rcases h with ⟨h1, h2⟩ | ⟨h1, h2⟩
    · exact .inl ⟨h1, g2 _ h2⟩
    · exact .inr ⟨h1, g2 _ h2⟩
theorem i_r1 {e : Expr} {x : Str} (ck : Ck T F k n sx W X) (hx : bname k sx x "range" = true) (hs : notStar e = true) (ha : PA X [e] (spA T W F es)) : PI X tg (.Call (.Name x p) [e] [] pos) (spI T W F { i := iIter .rng1 es }) := by
  obtain ⟨rfl, hg, hm, _, _⟩ := bn_of ck hx
  refine weakI (pi_range1 hg hm ha (star_no hs _ _)) fun σ H R h => it_read h fun vs ρ' H' m' w rl xs rxs e g => ?_
  match xs, e with
  | [.int j], e =>
    cases rxs with
    | cons r1 r2 =>
      cases r1
      cases r2
      have e' : (if small62 j = true then some (⟨rngI 0 1 j.toNat, [], none⟩ : AI) else none) = some w := e
      by_cases c : small62 j = true
      · rw [if_pos c] at e'
        cases e'
        obtain ⟨c1, c2⟩ := small_of c
        exact ⟨j, rfl, by omega, by omega, g _ (wk_r rl)⟩
      · rw [if_neg c] at e'; cases e'
theorem i_r2 {e e2 : Expr} {x : Str} (ck : Ck T F k n sx W X) (hx : bname k sx x "range" = true) (hs : notStar e = true) (hs2 : notStar e2 = true) (ha : PA X [e, e2] (spA T W F es)) : PI X tg (.Call (.Name x p) [e, e2] [] pos) (spI T W F { i := iIter .rng2 es }) := by
  obtain ⟨rfl, hg, hm, _, _⟩ := bn_of ck hx
  refine weakI (pi_range2 hg hm ha (by rw [star_no hs, star_no hs2]; rfl) (star_no hs2 _ _)) fun σ H R h => it_read h fun vs ρ' H' m' w rl xs rxs e g => ?_
  match xs, e with
  | [.int i, .int j], e =>
    cases rxs with
    | cons r1 r2 =>
      cases r1
      cases r2 with
      | cons r1 r2 =>
        cases r1
        cases r2
        have e' : (if (small62 i && small62 j) = true then some (⟨rngI i 1 (j - i).toNat, [], none⟩ : AI) else none) = some w := e
        by_cases c : (small62 i && small62 j) = true
        · rw [if_pos c] at e'
          cases e'
          rw [Bool.and_eq_true] at c
          obtain ⟨c1, c2⟩ := small_of c.1
          obtain ⟨d1, d2⟩ := small_of c.2
          exact ⟨i, j, rfl, ⟨by omega, by omega, by omega, by omega⟩, g _ (wk_r rl)⟩
        · rw [if_neg c] at e'; cases e'
theorem i_r3 {e e2 e3 : Expr} {x : Str} (ck : Ck T F k n sx W X) (hx : bname k sx x "range" = true) (hs : notStar e = true) (hs2 : notStar e2 = true) (hs3 : notStar e3 = true) (ha : PA X [e, e2, e3] (spA T W F es)) :
    PI X tg (.Call (.Name x p) [e, e2, e3] [] pos) (spI T W F { i := iIter .rng3 es }) := by
  obtain ⟨rfl, hg, hm, _, _⟩ := bn_of ck hx
  refine weakI (pi_range3 hg hm ha (star_no hs _ _) (bk_ok (by rw [List.all_cons, hs2, List.all_cons, hs3]; rfl))) fun σ H R h => it_read h fun vs ρ' H' m' w rl xs rxs e g => ?_
  match xs, e with
  | [.int i, .int j, .int c], e =>
    cases rxs with
    | cons r1 r2 =>
      cases r1
      cases r2 with
      | cons r1 r2 =>
        cases r1
        cases r2 with
        | cons r1 r2 =>
          cases r1
          cases r2
          have e' : (if (small62 i && small62 j && (c == -1)) = true then some (⟨rngI i c (i - j).toNat, [], none⟩ : AI) else none) = some w := e
          by_cases z : (small62 i && small62 j && (c == -1)) = true
          · rw [if_pos z] at e'
            cases e'
            rw [Bool.and_eq_true, Bool.and_eq_true] at z
            obtain ⟨c1, c2⟩ := small_of z.1.1
            obtain ⟨d1, d2⟩ := small_of z.1.2
            have ec := eq_of_beq z.2
            subst ec
            exact ⟨i, j, -1, (i - j).toNat, rfl, RgC.neg (by omega) (by omega) (by omega) (by omega), g _ (wk_c rl)⟩
          · rw [if_neg z] at e'; cases e'
theorem i_n {e : Expr} {x : Str} {ts : List Expr} {j : Nat} {tp : Pos} (ck : Ck T F k n sx W X) (hx : bname k sx x "enumerate" = true) (hs : notStar e = true) (ha : PA X [e] (spA T W F es)) : PI X (.Tuple ts j tp) (.Call (.Name x p) [e] [] pos) (spI T W F { i := iIter .enum es }) := by
  obtain ⟨rfl, hg, hm, _, _⟩ := bn_of ck hx
  refine weakI (pi_enumS hg hm ha (star_no hs _ _)) fun σ H R h => it_read h fun vs ρ' H' m' w rl xs rxs e g => ?_
  match xs, e with
  | [v], e =>
    cases rxs with
    | cons r1 r2 =>
      cases r2
      have e' : (match items m' v with | some xs => some (⟨enumI 0 xs, liveOf m' v, none⟩ : AI) | none => none) = some w := e
      cases hi : items m' v with
      | none => rw [hi] at e'; cases e'
      | some ys =>
        rw [hi] at e'
        cases e'
        obtain ⟨l, a, ws, rfl, h1, h2⟩ := wk_n rl hi r1
        rw [ck.hK]
        exact ⟨l, a, ws, rfl, h1, g _ h2⟩
theorem i_z {e e2 : Expr} {x : Str} {ts : List Expr} {j : Nat} {tp : Pos} (ck : Ck T F k n sx W X) (hx : bname k sx x "zip" = true) (hs : notStar e = true) (hs2 : notStar e2 = true) (ha : PA X [e, e2] (spA T W F es)) : PI X (.Tuple ts j tp) (.Call (.Name x p) [e, e2] [] pos) (spI T W F { i := iIter .zip es }) := by
  obtain ⟨rfl, hg, hm, _, _⟩ := bn_of ck hx
  refine weakI (pi_zipS hg hm ha (star_no hs _ _) (bk_ok (by rw [List.all_cons, hs2]; rfl))) fun σ H R h => it_read h fun vs ρ' H' m' w rl xs rxs e g => ?_
  match xs, e with
  | [v, v2], e =>
    cases rxs with
    | cons r1 r2 =>
      cases r2 with
      | cons r2 r3 =>
        cases r3
        have e' : (match items m' v, items m' v2 with | some xs, some ys => some (⟨zipI xs ys, liveOf m' v ++ liveOf m' v2, none⟩ : AI) | _, _ => none) = some w := e
        cases hi : items m' v with
        | none => rw [hi] at e'; cases e'
        | some ys =>
          cases hi2 : items m' v2 with
          | none => rw [hi, hi2] at e'; cases e'
          | some zs =>
            rw [hi, hi2] at e'
            cases e'
            obtain ⟨l, a, l2, b, vs1, ws, rfl, rfl, h1, h2, h3⟩ := wk_z rl hi r1 hi2 r2
            rw [ck.hK]
            exact ⟨l, a, l2, b, vs1, ws, rfl, h1, h2, g _ h3⟩
end
end Mi
set_option Elab.async false
set_option linter.all false
set_option maxRecDepth 100000
set_option maxHeartbeats 4000000
/-! Mini: targets, comprehensions -/
namespace Mi
open PySem PySem.Spec PyProof.Rows L2
/-- slots that differ only at sl -/
def OffS (sl : List Nat) (σ σ' : L2.St) : Prop := σ'.length = σ.length ∧ ∀ i, i ∉ sl → σ'[i]? = σ[i]?
theorem OffS.refl (sl : List Nat) (σ : L2.St) : OffS sl σ σ := ⟨rfl, fun _ _ => rfl⟩
theorem OffS.trans {sl sl' : List Nat} {σ σ1 σ2 : L2.St} (a : OffS sl σ σ1) (b : OffS sl' σ1 σ2) : OffS (sl ++ sl') σ σ2 :=
  ⟨b.1.trans a.1, fun i h => by
    rw [List.mem_append, not_or] at h
    exact (b.2 i h.2).trans (a.2 i h.1)⟩
theorem wipe_in {σ : L2.St} {i : Nat} : ∀ {vs : List Nat}, i ∈ vs → i < σ.length → (L2.wipe σ vs)[i]? = some none
  | v :: vs, h, hl => by
    unfold L2.wipe
    by_cases e : v = i
    · subst e
      rw [List.getElem?_set_self (by rw [L2.wipe_length]; exact hl)]
    · rw [List.getElem?_set_ne e]
      rcases List.mem_cons.mp h with z | z
      · exact absurd z.symm e
      · exact wipe_in z hl
theorem wipe_off {σ σ' : L2.St} {vs : List Nat} (h : OffS vs σ σ') : L2.wipe σ' vs = L2.wipe σ vs := by
  refine List.ext_getElem? fun i => ?_
  by_cases m : i ∈ vs
  · by_cases l : i < σ.length
    · rw [wipe_in m l, wipe_in m (by rw [h.1]; exact l)]
    · rw [List.getElem?_eq_none (by rw [L2.wipe_length, h.1]; omega), List.getElem?_eq_none (by rw [L2.wipe_length]; omega)]
  · rw [L2.wipe_out m, L2.wipe_out m]
    exact h.2 i m
theorem wipe_self (σ : L2.St) (vs : List Nat) : OffS vs σ (L2.wipe σ vs) := ⟨L2.wipe_length σ vs, fun i h => L2.wipe_out h⟩
theorem OffS.sub {sl vs : List Nat} {σ σ' : L2.St} (h : OffS sl σ σ') (s : subN sl vs = true) : OffS vs σ σ' := ⟨h.1, fun i hi => h.2 i fun m => hi (by
  have := List.all_eq_true.mp s i m
  exact List.contains_iff_mem.mp this)⟩
section
variable {T : Tb} {F : FT} {k : Kx} {n : Nat} {sx : Sx} {W : WX} {X : Cx} {pos : Pos}
/-! ### targets -/
def spG (T : Tb) (d : D) (sl : List Nat) : TG := fun v σ H Q => ∃ fb ρ m a as as', Rl (T.wb fb) ρ H m ∧ RS1 (T.wb fb) ρ H as σ ∧ Rep (T.wb fb) ρ H a v ∧ d.g a as = some as' ∧ ∀ σ', RS1 (T.wb fb) ρ H as' σ' → OffS sl σ σ' → Q σ' H
def spGs (T : Tb) (d : D) (sl : List Nat) : TGs := fun vs σ H Q => ∃ fb ρ m xs as as', Rl (T.wb fb) ρ H m ∧ RS1 (T.wb fb) ρ H as σ ∧ Reps (T.wb fb) ρ H xs vs ∧ d.gs xs as = some as' ∧ ∀ σ', RS1 (T.wb fb) ρ H as' σ' → OffS sl σ σ' → Q σ' H
theorem weakG {e : Expr} {t t' : TG} (h : PG X e t) (w : ∀ v σ H Q, t' v σ H Q → t v σ H Q) : PG X e t' := ⟨fun pins s σ H v u Q I r q => h.run pins s σ H v u Q I r (w v σ H Q q)⟩
theorem weakGs {e : List Expr} {t t' : TGs} (h : PGs X e t) (w : ∀ v σ H Q, t' v σ H Q → t v σ H Q) : PGs X e t' := ⟨fun pins s σ H v u Q I r q => h.run pins s σ H v u Q I r (w v σ H Q q)⟩
theorem st_of (ck : Ck T F k n sx W X) {x : Str} (h : stB sx x = true) : Loc X.env.scope x ∧ (X.fn x = true ∨ X.env.scope.names.lookup x = some .local) := by
  unfold stB at h
  rw [← ck.sc] at h
  split at h
  · exact ⟨.inl (by assumption), .inr (by assumption)⟩
  · exact ⟨.inr (by assumption), .inl (ck.fn x h)⟩
  · cases h
theorem g_n {i : Nat} {x : Str} (ck : Ck T F k n sx W X) (h1 : atB k.N i x = true) (h2 : stB sx x = true) : PG X (.Name x pos) (spG T { g := fun v s => some (setS s i v) } [i]) := by
  obtain ⟨l, f⟩ := st_of ck h2
  refine weakG (pg_name ck.nd (at_of ck h1) l f) fun v σ H Q ⟨fb, ρ, m, a, as, as', rl, rs, ra, e, q⟩ => ?_
  cases e
  refine q _ (rs.set ra i) ⟨by rw [List.length_set], fun j hj => ?_⟩
  rw [List.getElem?_set_ne]
  intro z
  subst z
  exact hj List.mem_cons_self
theorem gs_nil : PGs X [] (spGs T { gs := fun vs s => match vs with | [] => some s | _ => none } []) := by
  refine weakGs pgs_nil fun v σ H Q ⟨fb, ρ, m, xs, as, as', rl, rs, ra, e, q⟩ => ?_
  cases ra with
  | nil =>
    cases e
    exact ⟨rfl, q σ rs (OffS.refl _ _)⟩
  | cons _ _ => cases e
theorem as_no {e : Expr} (h : notStar e = true) (es : List Expr) (env : Env) : assignEach (e :: es) env = (false, assign e env) :: assignEach es env := by
  cases e <;> first | rfl | cases h
theorem as_len {env : Env} : ∀ {es : List Expr}, es.all notStar = true → (assignEach es env).length = es.length
  | [], _ => rfl
  | e :: es, h => by
    rw [List.all_cons, Bool.and_eq_true] at h
    rw [as_no h.1, List.length_cons, List.length_cons, as_len h.2]
theorem as_find {env : Env} : ∀ {es : List Expr}, es.all notStar = true → (assignEach es env).findIdx? (·.1) = none
  | [], _ => rfl
  | e :: es, h => by
    rw [List.all_cons, Bool.and_eq_true] at h
    rw [as_no h.1, List.findIdx?_cons]
    have ih := as_find (env := env) h.2
    rw [ih]
    rfl
theorem gs_cons {a b : D} {sa sb : List Nat} {e : Expr} {es : List Expr} (hs : notStar e = true) (ha : PG X e (spG T a sa)) (hb : PGs X es (spGs T b sb)) : PGs X (e :: es) (spGs T { gs := gCons a b } (sa ++ sb)) := by
  refine weakGs (pgs_cons ha hb (by rw [as_no hs]; rfl)) fun v σ H Q ⟨fb, ρ, m, xs, as, as', rl, rs, ra, e, q⟩ => ?_
  cases ra with
  | nil => cases e
  | @cons x u xs us r1 r2 =>
    have e' : (match a.g x as with | some s1 => b.gs xs s1 | none => none) = some as' := e
    cases h1 : a.g x as with
    | none => rw [h1] at e'; cases e'
    | some s1 =>
      rw [h1] at e'
      exact ⟨u, us, rfl, fb, ρ, m, x, as, s1, rl, rs, r1, h1, fun σ1 rs1 o1 => ⟨fb, ρ, m, xs, s1, as', rl, rs1, r2, e', fun σ2 rs2 o2 => q σ2 rs2 (o1.trans o2)⟩⟩
theorem g_t {es : D} {sl : List Nat} {l : List Expr} {j : Nat} (ck : Ck T F k n sx W X) (hs : l.all notStar = true) (hl : ∀ xs as as', es.gs xs as = some as' → xs.length = l.length) (ha : PGs X l (spGs T es sl)) :
    PG X (.Tuple l j pos) (spG T { g := fun v s => match v with | .tup xs => es.gs xs s | _ => none } sl) := by
  refine weakG (pg_tup (n := l.length) ck.calm ha (as_len hs) (as_find hs)) fun v σ H Q ⟨fb, ρ, m, a, as, as', rl, rs, ra, e, q⟩ => ?_
  cases ra <;> first | (cases e; done) | skip
  rename_i xs p vs o h1 r1 _
  exact ⟨p, vs, rfl, SqT.tup h1, by rw [← r1.length]; exact hl xs as as' e, fb, ρ, m, xs, as, as', rl, rs, r1, e, q⟩

/-! ### tests -/
def spTs (T : Tb) (W : WX) (F : FT) (d : D) : TT := fun σ H Q => ∃ ρ m as, Rl T ρ H m ∧ RS1 T ρ H as σ ∧ Good T W σ ρ H m (d.t F as m) fun b ρ' H' m' => Q b H'
theorem weakTs {e : List Expr} {t t' : TT} (h : PTs X e t) (w : ∀ σ H Q, t' σ H Q → t σ H Q) : PTs X e t' := ⟨fun pins s σ H Q I q => h.run pins s σ H Q I (w σ H Q q)⟩
theorem ts_nil : PTs X [] (spTs T W F { t := fun _ _ m => .ok true m }) := weakTs pts_nil fun σ H Q ⟨ρ, m, as, rl, rs, g⟩ => Good.ok rl g
theorem ts_one {a b : D} {e : Expr} (hb : ∀ F as m, b.t F as m = .ok true m) (ha : PT X e (spT T W F a)) : PTs X [e] (spTs T W F { t := tCons a b }) := by
  refine weakTs (pts_one ha) fun σ H Q ⟨ρ, m, as, rl, rs, g⟩ => ⟨ρ, m, as, rl, rs, ?_⟩
  refine (Good.bind g).imp fun x ρ1 H1 m1 n1 g1 => ?_
  have g1' : Good T W σ ρ1 H1 m1 (match truV m1 x with | some true => b.t F as m1 | some false => .ok false m1 | none => .no) _ := g1
  cases e : truV m1 x with
  | none => rw [e] at g1'; exact g1'.elim
  | some c =>
    rw [e] at g1'
    cases c with
    | true =>
      have g2 : Good T W σ ρ1 H1 m1 (b.t F as m1) _ := g1'
      rw [hb] at g2
      exact ⟨true, rfl, Good.ok n1.rl g2⟩
    | false => exact ⟨false, rfl, Good.ok n1.rl g1'⟩

/-! ### the block -/
def Fls : WX := fun _ _ _ _ => False
theorem Ck.wb (ck : Ck T F k n sx W X) (fb : Addr → Prop) : Ck (T.wb fb) F k n sx W X := ⟨ck.hK, ck.hN, ck.nd, ck.sc, ck.fn, ck.calm, ck.room, ck.gn, ck.cs, ck.ss, ck.bn, ck.kp, ck.fns, ck.fin, ck.cx, ck.takes, ck.gd, ck.lw, ck.mt, fun h x c b hl => ⟨(ck.ec h x c b hl).no, (ck.ec h x c b hl).one⟩⟩
theorem Ck.blk (ck : Ck T F k n sx W X) (scope : Scope) (s : Shared) (H : Hp) (C : Addr) (cl : List (Str × Addr)) (fp : List Addr) : Ck T F k n (blkSx sx scope) Fls (X.blk s H scope (compEnvC scope cl C X.env) fp) where
  hK := ck.hK
  hN := ck.hN
  nd := ck.nd
  sc := by show relS scope X.env.scope = relS scope sx.sc; rw [ck.sc]
  fn := fun _ h => h
  calm := ck.calm
  room := ck.room
  gn := ck.gn
  cs := ck.cs
  ss := ck.ss
  bn := ck.bn
  kp := ck.kp
  fns := ck.fns
  fin := ck.fin
  cx := ck.cx
  takes := fun u s' ⟨a, B, sI, pins, σ, H, cls, d, e, I, nb, up, sky, na, os, ag, w⟩ => w
  gd := fun h => nomatch h
  lw := fun h => nomatch h
  mt := fun h => nomatch h
  ec := fun h => nomatch h
theorem exE {e : Expr} {t : (Addr → Prop) → TE} (h : ∀ fb, PE X e (t fb)) : PE X e (fun σ H Q => ∃ fb, t fb σ H Q) := ⟨fun pins s σ H Q I ⟨fb, q⟩ => (h fb).run pins s σ H Q I q⟩
theorem exTs {e : List Expr} {t : (Addr → Prop) → TT} (h : ∀ fb, PTs X e (t fb)) : PTs X e (fun σ H Q => ∃ fb, t fb σ H Q) := ⟨fun pins s σ H Q I ⟨fb, q⟩ => (h fb).run pins s σ H Q I q⟩
theorem exI {tg e : Expr} {t : (Addr → Prop) → TI} (h : ∀ fb, PI X tg e (t fb)) : PI X tg e (fun σ H Q => ∃ fb, t fb σ H Q) := ⟨fun pins s σ H Q I ⟨fb, q⟩ => (h fb).run pins s σ H Q I q⟩
end

/-! ### the list that is being made -/
section
variable {T : Tb} {ρ : List Addr} {H : Hp} {m : AH} {Dd : Addr} {o : HO}
mutual
theorem Rep.wr (hD : T.fb Dd) (hl : ∃ us, H Dd = some (.lst us)) : ∀ {x : AV} {v : V}, Rep T ρ H x v → Rep T ρ (upd H Dd o) x v
  | _, _, .non => .non
  | _, _, .bl b => .bl b
  | _, _, .int i => .int i
  | _, _, .str x => .str x
  | _, _, .tup h r => .tup ⟨(by
      rw [upd_ne]
      · exact h.1
      · intro z
        obtain ⟨us, e⟩ := hl
        rw [← z, h.1] at e
        cases e), h.2⟩ (Reps.wr hD hl r)
  | _, _, .fl h n r => .fl (by
      rw [upd_ne]
      · exact h
      · intro z
        rw [z] at n
        exact n.2 hD) n (Reps.wr hD hl r)
  | _, _, .sc h r => .sc (by
      rcases h with ⟨o, h⟩ | h
      · refine .inl ⟨o, ?_⟩
        rw [upd_ne]
        · exact h
        · intro z
          obtain ⟨us, e⟩ := hl
          rw [← z, h] at e
          cases e
      · exact .inr h) (Reps.wr hD hl r)
  | _, _, .ref h => .ref h
  | _, _, .fn h => .fn h
  | _, _, .obj h n r => .obj ⟨(by
      rw [upd_ne]
      · exact h.1
      · intro z
        rw [z] at n
        exact n.1.2 hD), (by
      rw [upd_ne]
      · exact h.2
      · intro z
        rw [z] at n
        exact n.2.2 hD)⟩ n (Reps.wr hD hl r)
  | _, _, .fd h n r1 r2 => .fd (by
      rw [upd_ne]
      · exact h
      · intro z
        rw [z] at n
        exact n.2 hD) n (Reps.wr hD hl r1) (Reps.wr hD hl r2)
theorem Reps.wr (hD : T.fb Dd) (hl : ∃ us, H Dd = some (.lst us)) : ∀ {xs : List AV} {vs : List V}, Reps T ρ H xs vs → Reps T ρ (upd H Dd o) xs vs
  | _, _, .nil => .nil
  | _, _, .cons a r => .cons (Rep.wr hD hl a) (Reps.wr hD hl r)
end
theorem Rl.wr {ws : List V} (hD : T.fb Dd) (hl : ∃ us, H Dd = some (.lst us)) (rl : Rl T ρ H m) : Rl T ρ (upd H Dd (.lst ws)) m where
  len := rl.len
  nd := rl.nd
  ob := fun r a u h1 h2 => by
    have ob := rl.ob r a u h1 h2
    have ne : a ≠ Dd := fun z => (rl.fb Dd hD).1 (by rw [← z]; exact mem_get h1)
    cases u with
    | lst e xs =>
      obtain ⟨vs, k1, k2⟩ := ob
      exact ⟨vs, by rw [upd_ne ne]; exact k1, k2.wr hD hl⟩
  fb := fun b hb => by
    obtain ⟨k1, k2⟩ := rl.fb b hb
    refine ⟨k1, ?_⟩
    by_cases e : b = Dd
    · subst e; rw [upd_same]; exact True.intro
    · rw [upd_ne e]; exact k2
  tb := tabs_upd rl.tb (.inr (by obtain ⟨us, e⟩ := hl; rw [e]; exact True.intro))
theorem Rl.fbw {fb2 : Addr → Prop} (rl : Rl T ρ H m) (h : ∀ a, ¬ T.fb a → H a ≠ none → ¬ fb2 a) (h2 : ∀ b, fb2 b → b ∉ ρ ∧ Pl (H b)) : Rl (T.wb fb2) ρ H m where
  len := rl.len
  nd := rl.nd
  ob := fun r a u h1 h2 => by
    have ob := rl.ob r a u h1 h2
    cases u with
    | lst e xs =>
      obtain ⟨vs, k1, k2⟩ := ob
      exact ⟨vs, k1, k2.fbw h⟩
  fb := h2
  tb := rl.tb
variable {ρ1 ρ' : List Addr} {H1 H' : Hp} {m1 m' : AH} {fb wr : Addr → Prop}
theorem Later.refl (rl : Rl T ρ H m) (hw : ∀ b, wr b → T.fb b) : Later T ρ H m T.fb wr ρ H m := ⟨fun b h => .inl h, fun b h => h, hw, (Ext.refl _ _).toF, rl, Mono.refl _⟩
theorem Later.step (l : Later T ρ1 H1 m1 fb wr ρ H m) (n : Nx (T.wb fb) ρ H m ρ' H' m') : Later T ρ1 H1 m1 fb wr ρ' H' m' :=
  ⟨l.up, l.dn, l.wf, l.ext.trans n.ext.toF fun c h => (n.rl.fb c (l.wf c h)).1, n.rl, l.mono.trans n.mono⟩
theorem Later.write {ws : List V} (l : Later T ρ1 H1 m1 fb wr ρ H m) (hD : wr Dd) (hl : ∃ us, H Dd = some (.lst us)) : Later T ρ1 H1 m1 fb wr ρ (upd H Dd (.lst ws)) m :=
  ⟨l.up, l.dn, l.wf, l.ext.trans ⟨List.prefix_refl _, fun b o h _ nf _ => by
    rw [upd_ne (fun z => nf (by rw [z]; exact hD))]; exact h, fun b h => .inl h⟩ (fun c h => (l.rl.fb c (l.wf c h)).1), l.rl.wr (T := T.wb fb) (l.wf _ hD) hl, l.mono⟩
theorem Later.trans (a : Later T ρ1 H1 m1 fb wr ρ H m) (b : Later (T.wb fb) ρ H m fb wr ρ' H' m') : Later T ρ1 H1 m1 fb wr ρ' H' m' :=
  ⟨a.up, a.dn, a.wf, a.ext.trans b.ext fun c h => (b.rl.fb c (a.wf c h)).1, b.rl, a.mono.trans b.mono⟩
theorem RS1.later {as : ASt} {σ : L2.St} (rl1 : Rl T ρ1 H1 m1) (l : Later T ρ1 H1 m1 fb wr ρ H m) (h : RS1 T ρ1 H1 as σ) : RS1 (T.wb fb) ρ H as σ :=
  ⟨h.len, fun i x q => let ⟨v, a, b⟩ := h.at_ i x q; ⟨v, a, b.later rl1 l⟩⟩
end
theorem lcGo_len {g : TGt} {t : FT → ASt → AH → Rs Bool} {e : ASt → AH → Rs (List AV)} {F : FT} {s : ASt} {lv : List (Nat × Nat)} : ∀ {its acc : List AV} {m mf : AH} {xs : List AV}, lcGo g t e F s lv its acc m = .ok xs mf → acc.length ≤ xs.length
  | [], acc, m, mf, xs, h => by cases h; exact Nat.le_refl _
  | x :: its, acc, m, mf, xs, h => by
    have h' : (match g x s with
      | some s1 => (t F s1 m).bind fun c m1 => match c with
        | true => (e s1 m1).bind fun ys m2 => if still lv m2 then lcGo g t e F s lv its (acc ++ ys) m2 else .no
        | false => if still lv m1 then lcGo g t e F s lv its acc m1 else .no
      | none => .no) = .ok xs mf := h
    cases h1 : g x s with
    | none => rw [h1] at h'; cases h'
    | some s1 =>
      rw [h1] at h'
      cases h2 : t F s1 m with
      | ok c m1 =>
        simp only [h2, Rs.bind] at h'
        cases c with
        | true =>
          cases h3 : e s1 m1 with
          | ok ys m2 =>
            simp only [h3] at h'
            by_cases c : still lv m2 = true
            · rw [if_pos c] at h'
              have := lcGo_len h'
              rw [List.length_append] at this
              omega
            · rw [if_neg c] at h'; cases h'
          | ex c vs m => simp only [h3] at h'; cases h'
          | no => simp only [h3] at h'; cases h'
        | false =>
          simp only at h'
          by_cases c : still lv m1 = true
          · rw [if_pos c] at h'; exact lcGo_len h'
          · rw [if_neg c] at h'; cases h'
      | ex c vs m => simp only [h2, Rs.bind] at h'; cases h'
      | no => simp only [h2, Rs.bind] at h'; cases h'

section
variable {T : Tb} {fb2 : Addr → Prop} {ρ l : List Addr} {H : Hp}
mutual
theorem rep_app (h : ∀ a, a ∉ ρ ∧ ¬ T.fb a → H a ≠ none → a ∉ ρ ++ l ∧ ¬ fb2 a) : ∀ {x : AV} {v : V}, Rep T ρ H x v → Rep (T.wb fb2) (ρ ++ l) H x v
  | _, _, .non => .non
  | _, _, .bl b => .bl b
  | _, _, .int i => .int i
  | _, _, .str x => .str x
  | _, _, .tup h1 r => .tup h1 (reps_app h r)
  | _, _, .fl h1 n r => .fl h1 (h _ n (by rw [h1]; exact fun z => nomatch z)) (reps_app h r)
  | _, _, .sc h1 r => .sc h1 (reps_app h r)
  | _, _, .ref h1 => .ref (pre_get (List.prefix_append _ _) h1)
  | _, _, .fn h1 => .fn h1
  | _, _, .obj h1 n r => .obj h1 ⟨h _ n.1 (by rw [h1.1]; exact fun z => nomatch z), h _ n.2 (by rw [h1.2]; exact fun z => nomatch z)⟩ (reps_app h r)
  | _, _, .fd h1 n r1 r2 => .fd h1 (h _ n (by rw [h1]; exact fun z => nomatch z)) (reps_app h r1) (reps_app h r2)
theorem reps_app (h : ∀ a, a ∉ ρ ∧ ¬ T.fb a → H a ≠ none → a ∉ ρ ++ l ∧ ¬ fb2 a) : ∀ {xs : List AV} {vs : List V}, Reps T ρ H xs vs → Reps (T.wb fb2) (ρ ++ l) H xs vs
  | _, _, .nil => .nil
  | _, _, .cons a r => .cons (rep_app h a) (reps_app h r)
end
end

/-! ### the turns of one clause -/
theorem lcGo_cons {g : TGt} {t : FT → ASt → AH → Rs Bool} {e : ASt → AH → Rs (List AV)} {F : FT} {s : ASt} {lv : List (Nat × Nat)} {x : AV} {its acc : List AV} {m mf : AH} {xs : List AV} (h : lcGo g t e F s lv (x :: its) acc m = .ok xs mf) :
    ∃ s1 c m1, g x s = some s1 ∧ t F s1 m = .ok c m1 ∧ ((c = true ∧ ∃ ys m2, e s1 m1 = .ok ys m2 ∧ still lv m2 = true ∧ lcGo g t e F s lv its (acc ++ ys) m2 = .ok xs mf) ∨ (c = false ∧ still lv m1 = true ∧ lcGo g t e F s lv its acc m1 = .ok xs mf)) := by
  have h' : (match g x s with
    | some s1 => (t F s1 m).bind fun c m1 => match c with
      | true => (e s1 m1).bind fun ys m2 => if still lv m2 then lcGo g t e F s lv its (acc ++ ys) m2 else .no
      | false => if still lv m1 then lcGo g t e F s lv its acc m1 else .no
    | none => .no) = .ok xs mf := h
  cases h1 : g x s with
  | none => rw [h1] at h'; cases h'
  | some s1 =>
    rw [h1] at h'
    cases h2 : t F s1 m with
    | ok c m1 =>
      simp only [h2, Rs.bind] at h'
      refine ⟨s1, c, m1, rfl, h2, ?_⟩
      cases c with
      | true =>
        cases h3 : e s1 m1 with
        | ok ys m2 =>
          simp only [h3] at h'
          by_cases c : still lv m2 = true
          · rw [if_pos c] at h'
            exact .inl ⟨rfl, ys, m2, rfl, c, h'⟩
          · rw [if_neg c] at h'; cases h'
        | ex c vs m => simp only [h3] at h'; cases h'
        | no => simp only [h3] at h'; cases h'
      | false =>
        simp only at h'
        by_cases c : still lv m1 = true
        · rw [if_pos c] at h'; exact .inr ⟨rfl, c, h'⟩
        · rw [if_neg c] at h'; cases h'
    | ex c vs m => simp only [h2, Rs.bind] at h'; cases h'
    | no => simp only [h2, Rs.bind] at h'; cases h'
theorem turns {Tb : Tb} {ρb ρ0 : List Addr} {Hb H0 : Hp} {mb m0 mf : AH} {fb wr : Addr → Prop} {Dd : Addr} {w : AI} {J : L2.It} {g ifs : D} {sl vs : List Nat} {tt : TT} {body : L2.St → Hp → (Hp → Prop) → Prop} {e : ASt → AH → Rs (List AV)} {F : FT} {as0 : ASt} {σ : L2.St} {pr xs : List AV} {accv0 : List V} {End : Hp → Prop}
    (rlb : Rl Tb ρb Hb mb) (wk : Wk Tb w J ρb Hb mb) (rsb : RS1 Tb ρb Hb as0 σ) (hsub : subN sl vs = true) (htt : ∀ σ H Q, spTs (Tb.wb fb) Fls F ifs σ H Q → tt σ H Q)
    (hbody : ∀ s1 σ2 ρ H m acc accv ys m2 (Nx : Hp → Prop), Later Tb ρb Hb mb fb wr ρ H m → RS1 (Tb.wb fb) ρ H s1 σ2 → H Dd = some (.lst accv) → Reps (Tb.wb fb) ρ H (pr ++ acc) accv → e s1 m = .ok ys m2 → (pr ++ (acc ++ ys)).length ≤ sizeLine →
      (∀ ρ' H' accv', Later Tb ρb Hb mb fb wr ρ' H' m2 → H' Dd = some (.lst accv') → Reps (Tb.wb fb) ρ' H' (pr ++ (acc ++ ys)) accv' → Nx H') → body σ2 H Nx)
    (start : Later Tb ρb Hb mb fb wr ρ0 H0 m0) (st : still w.live m0 = true) (hD : H0 Dd = some (.lst accv0)) (r0 : Reps (Tb.wb fb) ρ0 H0 pr accv0) (hf : fb Dd)
    (run : lcGo g.g ifs.t e F (wipeS as0 vs) w.live w.its [] m0 = .ok xs mf) (sz : (pr ++ xs).length ≤ sizeLine)
    (hend : ∀ ρ H accv, Later Tb ρb Hb mb fb wr ρ H mf → H Dd = some (.lst accv) → Reps (Tb.wb fb) ρ H (pr ++ xs) accv → End H) :
    ∃ W : Nat → Nat → Hp → Prop, (∃ m, W 0 m H0) ∧ ∀ i m H, W i m H → (J.stop i H ∧ End H) ∨ (J.go i H ∧ ∃ Nx : Hp → Prop, (∀ H', Nx H' → ∃ m', m' < m ∧ W (i + 1) m' H') ∧ ∀ x H', J.yld i H x H' →
      spG Tb g sl x (L2.wipe σ vs) H' fun σ2 H2 => L2.wipe σ2 vs = L2.wipe σ vs ∧ tt σ2 H2 fun b H3 => if b = true then body σ2 H3 Nx else Nx H3) := by
  refine ⟨fun i kk H => i ≤ w.its.length ∧ kk = w.its.length - i ∧ ∃ ρ m acc accv, Later Tb ρb Hb mb fb wr ρ H m ∧ still w.live m = true ∧ H Dd = some (.lst accv) ∧ Reps (Tb.wb fb) ρ H (pr ++ acc) accv ∧ lcGo g.g ifs.t e F (wipeS as0 vs) w.live (w.its.drop i) acc m = .ok xs mf,
    ⟨_, Nat.zero_le _, rfl, ρ0, m0, [], accv0, start, st, hD, by rw [List.append_nil]; exact r0, run⟩, ?_⟩
  rintro i kk H ⟨hi, rfl, ρ, m, acc, accv, lt, sti, hDi, ri, runi⟩
  obtain ⟨y1, y2⟩ := wk.it fb wr ρ H m lt sti i
  by_cases c : i < w.its.length
  · right
    obtain ⟨go, yld⟩ := y1 _ (List.getElem?_eq_getElem c)
    refine ⟨go, fun H' => i + 1 ≤ w.its.length ∧ ∃ ρ m acc accv, Later Tb ρb Hb mb fb wr ρ H' m ∧ still w.live m = true ∧ H' Dd = some (.lst accv) ∧ Reps (Tb.wb fb) ρ H' (pr ++ acc) accv ∧ lcGo g.g ifs.t e F (wipeS as0 vs) w.live (w.its.drop (i + 1)) acc m = .ok xs mf,
      fun H' h => ⟨w.its.length - (i + 1), by omega, h.1, rfl, h.2⟩, fun x H' hy => ?_⟩
    obtain ⟨nx, rx⟩ := yld x H' hy
    rw [List.drop_eq_getElem_cons c] at runi
    obtain ⟨s1, b, m1, e1, e2, e3⟩ := lcGo_cons runi
    have lt1 := lt.step nx
    have rs1 : RS1 (Tb.wb fb) ρ H' (wipeS as0 vs) (L2.wipe σ vs) := (rsb.wipe vs).later rlb lt1
    have keepD : ∀ {ρ' : List Addr} {H2 : Hp} {m' : AH}, Nx (Tb.wb fb) ρ H m ρ' H2 m' → H2 Dd = some (.lst accv) := fun n => n.ext.keep Dd _ hDi (lt.rl.fb Dd hf).1 (fun _ z => nomatch z)
    refine ⟨fb, ρ, m, _, _, s1, nx.rl, rs1, rx, e1, fun σ2 rs2 off => ⟨?_, ?_⟩⟩
    · exact (wipe_off (off.sub hsub)).trans (wipe_off (wipe_self σ vs))
    · refine htt σ2 H' _ ⟨ρ, m, s1, nx.rl, rs2, ?_⟩
      rw [e2]
      intro ρ3 H3 nx3
      have nx03 := nx.trans nx3
      have lt3 := lt.step nx03
      rcases e3 with ⟨rfl, ys, m2, e4, e5, e6⟩ | ⟨rfl, e5, e6⟩
      · show ite (true = true) _ _
        rw [if_pos rfl]
        have ll := lcGo_len e6
        refine hbody s1 σ2 ρ3 H3 m1 acc accv ys m2 _ lt3 (rs2.mono nx.rl.muts nx3.ext) (keepD nx03) (ri.mono lt.rl.muts nx03.ext) e4 ?_ fun ρ' H2 accv' l2 d2 r2 => ⟨c, ρ', m2, acc ++ ys, accv', l2, e5, d2, r2, e6⟩
        rw [List.length_append] at sz ⊢
        omega
      · show ite (false = true) _ _
        rw [if_neg Bool.false_ne_true]
        exact ⟨c, ρ3, m1, acc, accv, lt3, e5, keepD nx03, ri.mono lt.rl.muts nx03.ext, e6⟩
  · left
    have e : w.its.length = i := by omega
    refine ⟨y2 e, ?_⟩
    rw [List.drop_eq_nil_of_le (Nat.le_of_eq e)] at runi
    cases runi
    exact hend ρ H accv lt hDi ri
section
variable {T : Tb} {F : FT} {k : Kx} {n : Nat} {sx : Sx} {W : WX} {X : Cx} {pos : Pos} {fr : Bool}
theorem own_ix (N : List Str) (vs : List Nat) : (ownOf N vs).map (·.2) = vs := by
  unfold ownOf
  rw [List.map_map]
  exact List.map_id' vs
theorem fold_id {i : Expr} (h : notSet i = true) (env : Env) (x : Value) : foldedSetIterable i env x = pure x := by
  cases i <;> first | rfl | cases h

/-- the list is there -/
theorem lc_end {ρ1 ρ : List Addr} {H1 H : Hp} {m1 mf m' : AH} {Dd : Addr} {xs : List AV} {accv : List V} {r : AV} {Q : VK} (rl1 : Rl T ρ1 H1 m1) (hn : H1 Dd = none) (lt : Later T ρ1 H1 m1 (fun b => T.fb b ∨ b = Dd) (fun b => b = Dd) ρ H mf) (hD : H Dd = some (.lst accv))
    (rp : Reps (T.wb fun b => T.fb b ∨ b = Dd) ρ H xs accv) (h : newL fr xs mf = some (r, m')) (q : ∀ ρ' H' v, Nx T ρ1 H1 m1 ρ' H' m' → Rep T ρ' H' r v → Q v H') : Q (.ref Dd) H := by
  have nfb : ¬ T.fb Dd := fun z => mut_ne (rl1.fb Dd z).2 hn
  have nD : Dd ∉ ρ := (lt.rl.fb Dd (.inr rfl)).1
  have ex : Ext ρ1 H1 ρ H := ⟨lt.ext.pre, fun b o hb nb tt => lt.ext.keep b o hb nb (fun z => by rw [z, hn] at hb; cases hb) tt, lt.ext.new⟩
  have wk : ∀ a, ¬ (T.wb fun b => T.fb b ∨ b = Dd).fb a → H a ≠ none → ¬ T.fb a := fun a n _ z => n (.inl z)
  have rlT : Rl T ρ H mf := Rl.fbw (T := T.wb fun b => T.fb b ∨ b = Dd) (fb2 := T.fb) lt.rl wk fun b hb => lt.rl.fb b (.inl hb)
  unfold newL at h
  by_cases c : okN xs.length = true
  · rw [if_pos c] at h
    cases fr with
    | true =>
      cases h
      exact q ρ H _ ⟨ex, rlT, lt.mono⟩ (.fl hD ⟨nD, nfb⟩ (Reps.fbw (T := T.wb fun b => T.fb b ∨ b = Dd) (fb2 := T.fb) wk rp))
    | false =>
      cases h
      have cv : ∀ a, a ∉ ρ ∧ ¬ (T.wb fun b => T.fb b ∨ b = Dd).fb a → H a ≠ none → a ∉ ρ ++ [Dd] ∧ ¬ T.fb a := fun a n _ => ⟨fun z => by
        rcases List.mem_append.mp z with z | z
        · exact n.1 z
        · exact n.2 (.inr (List.mem_singleton.mp z)), fun z => n.2 (.inl z)⟩
      have cvR : ∀ {ys : List AV} {vs : List V}, Reps (T.wb fun b => T.fb b ∨ b = Dd) ρ H ys vs → Reps T (ρ ++ [Dd]) H ys vs := fun {ys vs} r => by
        obtain ⟨f, ef⟩ : ∃ f : Nat → Option Nat, f = some := ⟨_, rfl⟩
        exact reps_app (T := T.wb fun b => T.fb b ∨ b = Dd) (fb2 := T.fb) (fun a n ne => (cv a n ne)) r
      refine q (ρ ++ [Dd]) H _ ⟨⟨lt.ext.pre.trans (List.prefix_append _ _), ex.keep, fun b hb => ?_⟩, ⟨?_, ?_, fun i a u hi hu => ?_, fun b hb => ⟨fun z => ?_, (lt.rl.fb b (.inl hb)).2⟩, lt.rl.tb⟩, lt.mono.trans (Mono.app _ _)⟩ (.ref ?_)
      · rcases List.mem_append.mp hb with z | z
        · exact lt.ext.new b z
        · rw [List.mem_singleton.mp z]; exact .inr (nw_none hn)
      · rw [List.length_append, List.length_append, lt.rl.len]; rfl
      · rw [List.nodup_append]
        refine ⟨lt.rl.nd, by simp, fun a ha b hb e => ?_⟩
        rw [List.mem_singleton.mp hb] at e
        exact nD (by rw [← e]; exact ha)
      · rcases get_last hi with ⟨hl, h1⟩ | ⟨hl, rfl⟩
        · rw [List.getElem?_append_left (by rw [← lt.rl.len]; exact hl)] at hu
          have ob := lt.rl.ob i a u h1 hu
          cases u with
          | lst e ys =>
            obtain ⟨vs, k1, k2⟩ := ob
            exact ⟨vs, k1, cvR k2⟩
        · rw [hl, lt.rl.len, List.getElem?_append_right (Nat.le_refl _)] at hu
          simp at hu
          subst hu
          exact ⟨accv, hD, cvR rp⟩
      · rcases List.mem_append.mp z with z | z
        · exact (lt.rl.fb b (.inl hb)).1 z
        · rw [List.mem_singleton.mp z] at hb; exact nfb hb
      · rw [← lt.rl.len, List.getElem?_append_right (Nat.le_refl _)]; simp
  · rw [if_neg c] at h; cases h

theorem noEx_ok {r : Rs (List AV)} {P : AV → List Addr → Hp → AH → Prop} {σ : L2.St} {ρ : List Addr} {H : Hp} {m : AH} (h : Good T W σ ρ H m ((noEx r).bind fun xs m2 => .op (newL fr xs m2)) P) :
    ∃ xs mf z m', r = .ok xs mf ∧ okN xs.length = true ∧ newL fr xs mf = some (z, m') ∧ ∀ ρ' H', Nx T ρ H m ρ' H' m' → P z ρ' H' m' := by
  cases r with
  | ok xs mf =>
    have h' : Good T W σ ρ H m ((if okN xs.length = true then .ok xs mf else .no : Rs (List AV)).bind fun xs m2 => .op (newL fr xs m2)) P := h
    by_cases c : okN xs.length = true
    · rw [if_pos c] at h'
      have h2 : Good T W σ ρ H m (.op (newL fr xs mf)) P := h'
      cases e : newL fr xs mf with
      | none => rw [e] at h2; exact h2.elim
      | some z => rw [e] at h2; exact ⟨xs, mf, z.1, z.2, rfl, c, e, h2⟩
    · rw [if_neg c] at h'; exact h'.elim
  | ex c vs m => exact h.elim
  | no => exact h.elim
theorem lt_start {ρ1 : List Addr} {H1 : Hp} {m1 : AH} {Dd : Addr} (rl1 : Rl T ρ1 H1 m1) (hn : H1 Dd = none) : Later T ρ1 H1 m1 (fun b => T.fb b ∨ b = Dd) (fun b => b = Dd) ρ1 (upd H1 Dd (.lst [])) m1 := by
  have nD : Dd ∉ ρ1 := fun z => rl1.muts.some z hn
  have nfb : ¬ T.fb Dd := fun z => mut_ne (rl1.fb Dd z).2 hn
  refine ⟨fun b h => ?_, fun b h => .inl h, fun b h => .inr h, (Ext.add hn).toF, ?_, Mono.refl _⟩
  · rcases h with h | h
    · exact .inl h
    · rw [h]; exact .inr hn
  · have rl0 : Rl (T.wb fun b => T.fb b ∨ b = Dd) ρ1 (upd H1 Dd (.lst [])) m1 := by
      refine ⟨rl1.len, rl1.nd, fun r a u h1 h2 => ?_, fun b hb => ?_, tabs_upd rl1.tb (.inl hn)⟩
      · have ob := rl1.ob r a u h1 h2
        have ne : a ≠ Dd := fun z => nD (by rw [← z]; exact mem_get h1)
        cases u with
        | lst e xs =>
          obtain ⟨vs, k1, k2⟩ := ob
          refine ⟨vs, by rw [upd_ne ne]; exact k1, ?_⟩
          have k3 : Reps (T.wb fun b => T.fb b ∨ b = Dd) ρ1 H1 xs vs := k2.fbw fun a n ne z => by
            rcases z with z | z
            · exact n z
            · rw [z] at ne; exact ne hn
          exact k3.mono rl1.muts (Ext.add hn)
      · rcases hb with hb | hb
        · obtain ⟨k1, k2⟩ := rl1.fb b hb
          refine ⟨k1, ?_⟩
          rw [upd_ne (fun z => nfb (by rw [← z]; exact hb))]
          exact k2
        · subst hb
          exact ⟨nD, by rw [upd_same]; exact True.intro⟩
    exact rl0
/-- one clause: what HandS asks -/
theorem lc_wish {vs : List Nat} {tg it ifs elt : D} {sl : List Nat} {σ : L2.St} {H : Hp} {Q : VK} (hsub : subN sl vs = true) (h : spE T W F fr (dE (eLc vs tg it ifs elt)) σ H Q) :
    tLc (spI T W F it) (spG T tg sl) (fun σ H Q => ∃ fb, spTs (T.wb fb) Fls F ifs σ H Q) (fun σ H Q => ∃ fb, spE (T.wb fb) Fls F true elt σ H Q) vs σ H Q := by
  obtain ⟨ρ, m, as, rl, rs, g⟩ := h
  refine ⟨ρ, m, as, rl, rs, (Good.bind g).imp fun w ρ1 H1 m1 n1 g1 J wk Dd hDn => ?_⟩
  have g1' : Good T W σ ρ1 H1 m1 (if (!still w.live m1) = true then .no else (noEx (lcGo tg.g ifs.t (fun s m => (elt.e true F s m).bind fun v m => .ok [v] m) F (wipeS as vs) w.live w.its [] m1)).bind fun xs m2 => .op (newL fr xs m2)) _ := g1
  by_cases c : (!still w.live m1) = true
  · rw [if_pos c] at g1'; exact g1'.elim
  · rw [if_neg c] at g1'
    have st : still w.live m1 = true := by simpa using c
    obtain ⟨xs, mf, r, m', run, e2, e3, g3⟩ := noEx_ok g1'
    have sz := okN_le e2
    refine turns (fb := fun b => T.fb b ∨ b = Dd) (wr := fun b => b = Dd) (Dd := Dd) (pr := []) (accv0 := []) (tt := fun σ H Q => ∃ fb, spTs (T.wb fb) Fls F ifs σ H Q)
      (body := fun σ2 H3 Nx => ∃ fb, spE (T.wb fb) Fls F true elt σ2 H3 fun y H4 => ∃ acc, H4 Dd = some (.lst acc) ∧ acc.length < sizeLine ∧ Nx (upd H4 Dd (.lst (acc ++ [y])))) (End := fun H => Q (.ref Dd) H)
      n1.rl wk (rs.mono rl.muts n1.ext) hsub (fun σ H Q h => ⟨_, h⟩) ?_ (lt_start n1.rl hDn) st upd_same .nil (.inr rfl) run (by rw [List.nil_append]; exact sz) ?_
    · intro s1 σ2 ρ2 H2 m2 acc accv ys m3 Nx lt2 rs2 hD2 r2 he hsz hnx
      refine ⟨_, ρ2, m2, s1, lt2.rl, rs2, ?_⟩
      cases hv : elt.e true F s1 m2 with
      | ex c ws m => simp only [hv, Rs.bind] at he; cases he
      | no => simp only [hv, Rs.bind] at he; cases he
      | ok v m4 =>
        simp only [hv, Rs.bind] at he
        cases he
        intro ρ3 H3 nx y ry
        have hD3 := nx.ext.keep Dd _ hD2 (lt2.rl.fb Dd (.inr rfl)).1 (fun _ z => nomatch z)
        have l1 := r2.length
        rw [List.nil_append] at l1
        rw [List.nil_append, List.length_append] at hsz
        have l2 : ([v] : List AV).length = 1 := rfl
        refine ⟨accv, hD3, by omega, ?_⟩
        have lt3 := lt2.step nx
        exact hnx ρ3 _ _ (lt3.write (Dd := Dd) rfl ⟨_, hD3⟩) upd_same (((r2.mono lt2.rl.muts nx.ext).append (.cons ry .nil)).wr (T := T.wb fun b => T.fb b ∨ b = Dd) (.inr rfl) ⟨_, hD3⟩)
    · intro ρ2 H2 accv lt2 hD2 r2
      rw [List.nil_append] at r2
      exact lc_end n1.rl hDn lt2 hD2 r2 e3 fun ρ' H' v nx' rv => g3 ρ' H' nx' v rv
/-- two clauses -/
theorem lc2_wish {vs vs1 : List Nat} {tg it ifs tg1 it1 ifs1 elt : D} {sl sl1 : List Nat} {σ : L2.St} {H : Hp} {Q : VK} (hsub : subN sl vs = true) (hsub1 : subN sl1 vs1 = true) (h : spE T W F fr (dE (eLc2 vs vs1 tg it ifs tg1 it1 ifs1 elt)) σ H Q) :
    tLc2 (spI T W F it) (spG T tg sl) (fun σ H Q => ∃ fb, spTs (T.wb fb) Fls F ifs σ H Q) (fun σ H R => ∃ fb, spI (T.wb fb) Fls F it1 σ H R) (spG T tg1 sl1) (fun σ H Q => ∃ fb, spTs (T.wb fb) Fls F ifs1 σ H Q) (fun σ H Q => ∃ fb, spE (T.wb fb) Fls F true elt σ H Q) vs vs1 σ H Q := by
  obtain ⟨ρ, m, as, rl, rs, g⟩ := h
  refine ⟨ρ, m, as, rl, rs, (Good.bind g).imp fun w ρ1 H1 m1 n1 g1 J wk Dd hDn => ?_⟩
  have g1' : Good T W σ ρ1 H1 m1 (if (!still w.live m1) = true then .no else (noEx (lcGo tg.g ifs.t (fun s m => (it1.i F s m).bind fun w1 m => if !still w1.live m then .no else lcGo tg1.g ifs1.t (fun s m => (elt.e true F s m).bind fun v m => .ok [v] m) F (wipeS s vs1) w1.live w1.its [] m) F (wipeS as vs) w.live w.its [] m1)).bind fun xs m2 => .op (newL fr xs m2)) _ := g1
  by_cases c : (!still w.live m1) = true
  · rw [if_pos c] at g1'; exact g1'.elim
  · rw [if_neg c] at g1'
    have st : still w.live m1 = true := by simpa using c
    obtain ⟨xs, mf, r, m', run, e2, e3, g3⟩ := noEx_ok g1'
    have sz := okN_le e2
    refine turns (fb := fun b => T.fb b ∨ b = Dd) (wr := fun b => b = Dd) (Dd := Dd) (pr := []) (accv0 := []) (tt := fun σ H Q => ∃ fb, spTs (T.wb fb) Fls F ifs σ H Q)
      (body := fun σ2 H3 Nx => ∃ fb, spI (T.wb fb) Fls F it1 σ2 H3 fun J1 H4 => ∃ W1 : Nat → Nat → Hp → Prop, (∃ m, W1 0 m H4) ∧ ∀ j k H, W1 j k H →
        (J1.stop j H ∧ Nx H) ∨ (J1.go j H ∧ ∃ Nx1 : Hp → Prop, (∀ H', Nx1 H' → ∃ k', k' < k ∧ W1 (j + 1) k' H') ∧ ∀ x H', J1.yld j H x H' → spG T tg1 sl1 x (L2.wipe σ2 vs1) H' fun σ3 H5 => L2.wipe σ3 vs1 = L2.wipe σ2 vs1 ∧ ∃ fb, spTs (T.wb fb) Fls F ifs1 σ3 H5 fun b H6 =>
          if b = true then ∃ fb, spE (T.wb fb) Fls F true elt σ3 H6 fun y H7 => ∃ acc, H7 Dd = some (.lst acc) ∧ acc.length < sizeLine ∧ Nx1 (upd H7 Dd (.lst (acc ++ [y]))) else Nx1 H6)) (End := fun H => Q (.ref Dd) H)
      n1.rl wk (rs.mono rl.muts n1.ext) hsub (fun σ H Q h => ⟨_, h⟩) ?_ (lt_start n1.rl hDn) st upd_same .nil (.inr rfl) run (by rw [List.nil_append]; exact sz) ?_
    · intro s1 σ2 ρ2 H2 m2 acc accv ys m3 Nx lt2 rs2 hD2 r2 he hsz hnx
      rw [List.nil_append] at r2 hsz
      refine ⟨_, ρ2, m2, s1, lt2.rl, rs2, ?_⟩
      cases hv : it1.i F s1 m2 with
      | ex c ws m => simp only [hv, Rs.bind] at he; cases he
      | no => simp only [hv, Rs.bind] at he; cases he
      | ok w1 m4 =>
        simp only [hv, Rs.bind] at he
        by_cases c1 : (!still w1.live m4) = true
        · rw [if_pos c1] at he; cases he
        · rw [if_neg c1] at he
          have st1 : still w1.live m4 = true := by simpa using c1
          intro ρ4 H4 nx4 J1 wk1
          have lt4 := lt2.step nx4
          have hD4 := nx4.ext.keep Dd _ hD2 (lt2.rl.fb Dd (.inr rfl)).1 (fun _ z => nomatch z)
          refine turns (Tb := T.wb fun b => T.fb b ∨ b = Dd) (fb := fun b => T.fb b ∨ b = Dd) (wr := fun b => b = Dd) (Dd := Dd) (pr := acc) (accv0 := accv) (tt := fun σ H Q => ∃ fb, spTs (T.wb fb) Fls F ifs1 σ H Q)
            (body := fun σ2 H3 Nx => ∃ fb, spE (T.wb fb) Fls F true elt σ2 H3 fun y H4 => ∃ acc, H4 Dd = some (.lst acc) ∧ acc.length < sizeLine ∧ Nx (upd H4 Dd (.lst (acc ++ [y])))) (End := Nx)
            nx4.rl wk1 (rs2.mono lt2.rl.muts nx4.ext) hsub1 (fun σ H Q h => ⟨_, h⟩) ?_ (Later.refl nx4.rl fun b h => .inr h) st1 hD4 (r2.mono lt2.rl.muts nx4.ext) (.inr rfl) he hsz ?_
          · intro s3 σ5 ρ5 H5 m5 acc1 accv1 ys1 m6 Nx1 lt5 rs5 hD5 r5 he5 hsz5 hnx5
            refine ⟨_, ρ5, m5, s3, lt5.rl, rs5, ?_⟩
            cases hv5 : elt.e true F s3 m5 with
            | ex c ws m => simp only [hv5, Rs.bind] at he5; cases he5
            | no => simp only [hv5, Rs.bind] at he5; cases he5
            | ok v m7 =>
              simp only [hv5, Rs.bind] at he5
              cases he5
              intro ρ8 H8 nx8 y ry
              have hD8 := nx8.ext.keep Dd _ hD5 (lt5.rl.fb Dd (.inr rfl)).1 (fun _ z => nomatch z)
              have l1 := r5.length
              rw [List.length_append] at l1
              rw [List.length_append, List.length_append] at hsz5
              have l2 : ([v] : List AV).length = 1 := rfl
              refine ⟨accv1, hD8, by omega, ?_⟩
              have lt8 := lt5.step nx8
              refine hnx5 ρ8 _ _ (lt8.write (Dd := Dd) rfl ⟨_, hD8⟩) upd_same ?_
              rw [← List.append_assoc]
              exact ((r5.mono lt5.rl.muts nx8.ext).append (.cons ry .nil)).wr (T := T.wb fun b => T.fb b ∨ b = Dd) (.inr rfl) ⟨_, hD8⟩
          · intro ρ5 H5 accv5 lt5 hD5 r5
            exact hnx ρ5 H5 accv5 (lt4.trans lt5) hD5 (by rw [List.nil_append]; exact r5)
    · intro ρ2 H2 accv lt2 hD2 r2
      rw [List.nil_append] at r2
      exact lc_end n1.rl hDn lt2 hD2 r2 e3 fun ρ' H' v nx' rv => g3 ρ' H' nx' v rv

section
variable {vs vs1 : List Nat} {dt di df de dt1 di1 df1 : D} {sl sl1 : List Nat} {elt tg iter tg1 iter1 : Expr} {ifs ifs1 : List Expr} {scope : Scope} {p : Pos}
abbrev AtB (X : Cx) (scope : Scope) (P : Cx → Prop) : Prop := ∀ (s : Shared) (H : Hp) (C : Addr) (cl : List (Str × Addr)) (fp : List Addr), P (X.blk s H scope (compEnvC scope cl C X.env) fp)
theorem x_lc (ck : Ck T F k n sx W X) (hb : blkC k.N sx.sc scope (ownOf k.N vs) = true) (hn : notSet iter = true) (hsub : subN sl vs = true) (hi : PI X tg iter (spI T W F di)) (hg : AtB X scope fun X' => PG X' tg (spG T dt sl)) (ht : ∀ fb, AtB X scope fun X' => PTs X' ifs (spTs (T.wb fb) Fls F df))
    (he : ∀ fb, AtB X scope fun X' => PE X' elt (spE (T.wb fb) Fls F true de)) : PE X (.ListComp elt [⟨tg, iter, ifs, 0⟩] scope pos) (spE T W F fr (dE (eLc vs dt di df de))) := by
  have ok : BlkOk X.N X.env.scope scope (ownOf k.N vs) := by rw [ck.hN, ck.sc]; exact blkOk_by hb
  have z := pe_lc (pos := pos) ck.calm ck.nd hi ok hg (fun s H C cl fp => exTs fun fb => ht fb s H C cl fp) (fun s H C cl fp => exE fun fb => he fb s H C cl fp) (fold_id hn _)
  rw [own_ix] at z
  exact weakE z fun σ H Q h => lc_wish hsub h
theorem s_lc {i : Nat} {y : Str} {py spos : Pos} (ck : Ck T F k n sx W X) (hy : X.N[i]? = some y) (hyl : X.env.scope.names.lookup y = some .local) (hsw : swapsWith (.ListComp elt [⟨tg, iter, ifs, 0⟩] scope pos) (some (.Name y py)) spos.line X.env = pure true)
    (hb : blkC k.N sx.sc scope (ownOf k.N vs) = true) (hn : notSet iter = true) (hsub : subN sl vs = true) (hi : PI X tg iter (spI T W F di)) (hg : AtB X scope fun X' => PG X' tg (spG T dt sl)) (ht : ∀ fb, AtB X scope fun X' => PTs X' ifs (spTs (T.wb fb) Fls F df))
    (he : ∀ fb, AtB X scope fun X' => PE X' elt (spE (T.wb fb) Fls F true de)) : PS X (.Assign [.Name y py] (.ListComp elt [⟨tg, iter, ifs, 0⟩] scope pos) spos) (tAsg (spE T W F fr (dE (eLc vs dt di df de))) (gName i)) := by
  have ok : BlkOk X.N X.env.scope scope (ownOf k.N vs) := by rw [ck.hN, ck.sc]; exact blkOk_by hb
  have z := ps_setLc (pos := pos) ck.calm ck.nd hy hyl hsw hi ok hg (fun s H C cl fp => exTs fun fb => ht fb s H C cl fp) (fun s H C cl fp => exE fun fb => he fb s H C cl fp) (fold_id hn _)
  rw [own_ix] at z
  exact ⟨fun pins s σ H Q I h => z.run pins s σ H Q I (lc_wish hsub h)⟩
theorem x_lc2 (ck : Ck T F k n sx W X) (hb : blkC k.N sx.sc scope (ownOf k.N vs) = true) (hv : subN vs1 vs = true) (hn : notSet iter = true) (hn1 : notSet iter1 = true) (hsub : subN sl vs = true) (hsub1 : subN sl1 vs1 = true) (hi : PI X tg iter (spI T W F di)) (hg : AtB X scope fun X' => PG X' tg (spG T dt sl)) (ht : ∀ fb, AtB X scope fun X' => PTs X' ifs (spTs (T.wb fb) Fls F df))
    (hi1 : ∀ fb, AtB X scope fun X' => PI X' tg1 iter1 (spI (T.wb fb) Fls F di1)) (hg1 : AtB X scope fun X' => PG X' tg1 (spG T dt1 sl1)) (ht1 : ∀ fb, AtB X scope fun X' => PTs X' ifs1 (spTs (T.wb fb) Fls F df1))
    (he : ∀ fb, AtB X scope fun X' => PE X' elt (spE (T.wb fb) Fls F true de)) : PE X (.ListComp elt [⟨tg, iter, ifs, 0⟩, ⟨tg1, iter1, ifs1, 0⟩] scope pos) (spE T W F fr (dE (eLc2 vs vs1 dt di df dt1 di1 df1 de))) := by
  have ok : BlkOk X.N X.env.scope scope (ownOf k.N vs) := by rw [ck.hN, ck.sc]; exact blkOk_by hb
  have z := pe_lc2 (pos := pos) (vs1 := vs1) ck.calm ck.nd hi ok (fun i hi => by rw [own_ix]; exact List.contains_iff_mem.mp (List.all_eq_true.mp hv i hi)) hg (fun s H C cl fp => exTs fun fb => ht fb s H C cl fp) (fun s H C cl fp => exI fun fb => hi1 fb s H C cl fp) hg1 (fun s H C cl fp => exTs fun fb => ht1 fb s H C cl fp) (fun s H C cl fp => exE fun fb => he fb s H C cl fp) (fold_id hn _) (fun env x => fold_id hn1 env x)
  rw [own_ix] at z
  exact weakE z fun σ H Q h => lc2_wish hsub hsub1 h
theorem s_lc2 {i : Nat} {y : Str} {py spos : Pos} (ck : Ck T F k n sx W X) (hy : X.N[i]? = some y) (hyl : X.env.scope.names.lookup y = some .local) (hsw : swapsWith (.ListComp elt [⟨tg, iter, ifs, 0⟩, ⟨tg1, iter1, ifs1, 0⟩] scope pos) (some (.Name y py)) spos.line X.env = pure true)
    (hb : blkC k.N sx.sc scope (ownOf k.N vs) = true) (hv : subN vs1 vs = true) (hn : notSet iter = true) (hn1 : notSet iter1 = true) (hsub : subN sl vs = true) (hsub1 : subN sl1 vs1 = true) (hi : PI X tg iter (spI T W F di)) (hg : AtB X scope fun X' => PG X' tg (spG T dt sl)) (ht : ∀ fb, AtB X scope fun X' => PTs X' ifs (spTs (T.wb fb) Fls F df))
    (hi1 : ∀ fb, AtB X scope fun X' => PI X' tg1 iter1 (spI (T.wb fb) Fls F di1)) (hg1 : AtB X scope fun X' => PG X' tg1 (spG T dt1 sl1)) (ht1 : ∀ fb, AtB X scope fun X' => PTs X' ifs1 (spTs (T.wb fb) Fls F df1))
    (he : ∀ fb, AtB X scope fun X' => PE X' elt (spE (T.wb fb) Fls F true de)) : PS X (.Assign [.Name y py] (.ListComp elt [⟨tg, iter, ifs, 0⟩, ⟨tg1, iter1, ifs1, 0⟩] scope pos) spos) (tAsg (spE T W F fr (dE (eLc2 vs vs1 dt di df dt1 di1 df1 de))) (gName i)) := by
  have ok : BlkOk X.N X.env.scope scope (ownOf k.N vs) := by rw [ck.hN, ck.sc]; exact blkOk_by hb
  have z := ps_setLc2 (pos := pos) (vs1 := vs1) ck.calm ck.nd hy hyl hsw hi ok (fun i hi => by rw [own_ix]; exact List.contains_iff_mem.mp (List.all_eq_true.mp hv i hi)) hg (fun s H C cl fp => exTs fun fb => ht fb s H C cl fp) (fun s H C cl fp => exI fun fb => hi1 fb s H C cl fp) hg1 (fun s H C cl fp => exTs fun fb => ht1 fb s H C cl fp) (fun s H C cl fp => exE fun fb => he fb s H C cl fp) (fold_id hn _) (fun env x => fold_id hn1 env x)
  rw [own_ix] at z
  exact ⟨fun pins s σ H Q I h => z.run pins s σ H Q I (lc2_wish hsub hsub1 h)⟩
end
end
end Mi
set_option Elab.async false
set_option linter.all false
set_option maxRecDepth 100000
set_option maxHeartbeats 4000000
/-! Mini: statements -/
namespace Mi
open PySem PySem.Spec PyProof.Rows L2
def GoodS (T : Tb) (W : WX) (ρ : List Addr) (H : Hp) (m : AH) (r : RS) (D : Ends) : Prop :=
  match r with
  | .nx s' m' => ∀ ρ' H' σ', Nx T ρ H m ρ' H' m' → RS1 T ρ' H' s' σ' → D.nx σ' H'
  | .rt v m' => ∀ ρ' H' x, Nx T ρ H m ρ' H' m' → Rep T ρ' H' v x → D.rt x H'
  | .bk s' m' => ∀ ρ' H' σ', Nx T ρ H m ρ' H' m' → RS1 T ρ' H' s' σ' → D.bk σ' H'
  | .ct s' m' => ∀ ρ' H' σ', Nx T ρ H m ρ' H' m' → RS1 T ρ' H' s' σ' → D.ct σ' H'
  | .ex c vs s' m' => ∀ ρ' H' d σ', Nx T ρ H m ρ' H' m' → RS1 T ρ' H' s' σ' → ExAt T c vs d ρ' H' → W (.ref (T.ca c)) d σ' H'
  | .no => False
section
variable {T : Tb} {W : WX} {ρ ρ1 : List Addr} {H H1 : Hp} {m m1 : AH} {D : Ends} {σ : L2.St} {s : ASt}
theorem GoodS.step {r : RS} (g : GoodS T W ρ H m r D) (n : Nx T ρ H m ρ1 H1 m1) : GoodS T W ρ1 H1 m1 r D := by
  cases r with
  | nx s' m' => exact fun ρ' H' σ' k => g ρ' H' σ' (n.trans k)
  | rt v m' => exact fun ρ' H' x k => g ρ' H' x (n.trans k)
  | bk s' m' => exact fun ρ' H' σ' k => g ρ' H' σ' (n.trans k)
  | ct s' m' => exact fun ρ' H' σ' k => g ρ' H' σ' (n.trans k)
  | ex c vs s' m' => exact fun ρ' H' d σ' k => g ρ' H' d σ' (n.trans k)
  | no => exact g
theorem GoodS.nx_ {s' : ASt} (rl : Rl T ρ H m) (rs : RS1 T ρ H s' σ) (g : GoodS T W ρ H m (.nx s' m) D) : D.nx σ H := g ρ H σ (Nx.refl rl) rs
theorem GoodS.toRS {r : Rs AV} {k : AV → AH → RS} (rl : Rl T ρ H m) (rs : RS1 T ρ H s σ) (g : GoodS T W ρ H m (toRS r s k) D) : Good T W σ ρ H m r fun v ρ' H' m' => GoodS T W ρ' H' m' (k v m') D := by
  cases r with
  | ok v m' => exact fun ρ' H' n => GoodS.step (r := k v m') g n
  | ex c vs m' => exact fun ρ' H' d n e => g ρ' H' d σ n (rs.mono rl.muts n.ext) e
  | no => exact g
theorem GoodS.toRSl {r : Rs (List AV)} {k : List AV → AH → RS} (rl : Rl T ρ H m) (rs : RS1 T ρ H s σ) (g : GoodS T W ρ H m (toRSl r s k) D) : Good T W σ ρ H m r fun v ρ' H' m' => GoodS T W ρ' H' m' (k v m') D := by
  cases r with
  | ok v m' => exact fun ρ' H' n => GoodS.step (r := k v m') g n
  | ex c vs m' => exact fun ρ' H' d n e => g ρ' H' d σ n (rs.mono rl.muts n.ext) e
  | no => exact g
end
section
variable (T : Tb) (W : WX) (F : FT)
def spS (d : D) : TS := fun D σ H => ∃ ρ m as, Rl T ρ H m ∧ RS1 T ρ H as σ ∧ GoodS T W ρ H m (d.s F as m) D
def spB (d : D) : TS := fun D σ H => ∃ ρ m as, Rl T ρ H m ∧ RS1 T ρ H as σ ∧ GoodS T W ρ H m (d.b F as m) D
end
theorem weakS {X : Cx} {e : Stmt} {t t' : TS} (h : PS X e t) (w : ∀ D σ H, t' D σ H → t D σ H) : PS X e t' := ⟨fun pins s σ H D I q => h.run pins s σ H D I (w D σ H q)⟩
theorem weakB {X : Cx} {e : List Stmt} {t t' : TS} (h : PSs X e t) (w : ∀ D σ H, t' D σ H → t D σ H) : PSs X e t' := ⟨fun pins s σ H D I q => h.run pins s σ H D I (w D σ H q)⟩
section
variable {T : Tb} {F : FT} {k : Kx} {n : Nat} {sx : Sx} {W : WX} {X : Cx} {pos : Pos} {p : Pos} {e : Expr}
theorem b_nil : PSs X [] (spB T W F { b := fun _ s m => .nx s m }) := weakB pss_nil fun D σ H ⟨ρ, m, as, rl, rs, g⟩ => GoodS.nx_ rl rs g
theorem b_cons {a b : Mi.D} {st : Stmt} {r : List Stmt} (ha : PS X st (spS T W F a)) (hb : PSs X r (spB T W F b)) : PSs X (st :: r) (spB T W F { b := bCons a b }) := by
  refine weakB (pss_cons ha hb) fun D σ H ⟨ρ, m, as, rl, rs, g⟩ => ⟨ρ, m, as, rl, rs, ?_⟩
  have g' : GoodS T W ρ H m ((a.s F as m).seq fun s1 m1 => b.b F s1 m1) D := g
  cases h : a.s F as m with
  | nx s' m' =>
    rw [h] at g'
    exact fun ρ' H' σ' nx rs' => ⟨ρ', m', s', nx.rl, rs', GoodS.step (r := b.b F s' m') g' nx⟩
  | rt v m' => rw [h] at g'; exact g'
  | bk s' m' => rw [h] at g'; exact g'
  | ct s' m' => rw [h] at g'; exact g'
  | ex c vs s' m' => rw [h] at g'; exact g'
  | no => rw [h] at g'; exact g'
theorem sw_none {e : Expr} (h : notComp e = true) (t : Option Expr) (l : Nat) (env : Env) : swapsWith e t l env = pure false := by
  cases e <;> first | rfl | cases h
theorem s_E {d : Mi.D} (hn : notComp e = true) (ha : ∀ fr, PE X e (spE T W F fr d)) : PS X (.Expr e pos) (spS T W F (dS (sE d))) := by
  refine weakS (ps_expr (ha true) (sw_none hn _ _ _)) fun D σ H ⟨ρ, m, as, rl, rs, g⟩ => ⟨ρ, m, as, rl, rs, ?_⟩
  exact (GoodS.toRS rl rs g).imp fun v ρ1 H1 m1 n1 g1 x rv => GoodS.nx_ n1.rl (rs.mono rl.muts n1.ext) g1
theorem asg_read {i : Nat} {d : Mi.D} {D : Ends} {σ : L2.St} {H : Hp} (h : spS T W F (dS (sA i d)) D σ H) : tAsg (spE T W F false d) (gName i) D σ H := by
  obtain ⟨ρ, m, as, rl, rs, g⟩ := h
  refine ⟨ρ, m, as, rl, rs, ?_⟩
  exact (GoodS.toRS rl rs g).imp fun v ρ1 H1 m1 n1 g1 x rv => GoodS.nx_ n1.rl ((rs.mono rl.muts n1.ext).set rv i) g1
theorem s_A {i : Nat} {x : Str} {d : Mi.D} (ck : Ck T F k n sx W X) (h1 : atB k.N i x = true) (h2 : stB sx x = true) (hn : notComp e = true) (ha : ∀ fr, PE X e (spE T W F fr d)) : PS X (.Assign [.Name x p] e pos) (spS T W F (dS (sA i d))) := by
  obtain ⟨l, f⟩ := st_of ck h2
  exact weakS (ps_set ck.nd (at_of ck h1) l (ha false) (sw_none hn _ _ _) f) fun D σ H h => asg_read h
theorem s_G {dt d : Mi.D} {sl : List Nat} {ts : List Expr} {j : Nat} (hw : swappedStores [.Tuple ts j p] e X.env = pure none) (hn : notComp e = true) (ha : ∀ fr, PE X e (spE T W F fr d)) (hg : PG X (.Tuple ts j p) (spG T dt sl)) : PS X (.Assign [.Tuple ts j p] e pos) (spS T W F (dS (sG dt d))) := by
  refine weakS (ps_asg (ha false) hg (sw_none hn (some (.Tuple ts j p)) pos.line X.env) hw) fun D σ H ⟨ρ, m, as, rl, rs, g⟩ => ⟨ρ, m, as, rl, rs, ?_⟩
  refine (GoodS.toRS rl rs g).imp fun v ρ1 H1 m1 n1 g1 x rv => ?_
  have g1' : GoodS T W ρ1 H1 m1 (match dt.g v as with | some s1 => .nx s1 m1 | none => .no) D := g1
  cases h : dt.g v as with
  | none => rw [h] at g1'; exact g1'.elim
  | some s1 =>
    rw [h] at g1'
    exact ⟨T.fb, ρ1, m1, v, as, s1, n1.rl, rs.mono rl.muts n1.ext, rv, h, fun σ' rs' _ => GoodS.nx_ n1.rl rs' g1'⟩
theorem sw_store0 {t e : Expr} {env : Env} (h : notTup e = true) : swappedStores [t] e env = pure none := by
  cases e <;> first | (cases h; done) | (cases t <;> rfl)
theorem set_ix {ρ : List Addr} {H : Hp} {m : AH} {r : Nat} {a : Addr} {ep : Nat} {xs ys : List AV} {v : AV} {x : V} {jj : Int} (rl : Rl T ρ H m) (hr : getL m r = some (ep, xs)) (ha : ρ[r]? = some a) (rv : Rep T ρ H v x) (h : setIx xs jj v = some ys) :
    ∃ vs q, H a = some (.lst vs) ∧ ixN vs.length jj = some q ∧ Nx T ρ H m ρ (upd H a (.lst (vs.set q x))) (setL r ep ys m) := by
  obtain ⟨q, h1, h2⟩ := Option.map_eq_some_iff.mp (show (L2.ixN xs.length jj).map (fun j => xs.set j v) = some ys from h)
  obtain ⟨vs, hv, rvs⟩ := rl.list hr ha
  subst h2
  exact ⟨vs, q, hv, by rw [← rvs.length]; exact h1, Nx.setl rl hr ha hv (Reps.set rv q rvs)⟩
theorem s_I {o i d : Mi.D} {l j : Expr} (hj : notSlice j = true) (hn : notComp e = true) (ha : ∀ fr, PE X e (spE T W F fr d)) (ho : ∀ fr, PE X l (spE T W F fr o)) (hi : ∀ fr, PE X j (spE T W F fr i)) : PS X (.Assign [.Subscript l j p] e pos) (spS T W F (dS (sI o i d))) := by
  have pg : PG X (.Subscript l j p) (gSub (spE T W F true o) (spE T W F true i) rSetL) := pg_sub (ho true) (hi true) set_list (by cases j <;> first | (cases hj; done) | (intro v; rfl))
  have hw : swappedStores [.Subscript l j p] e X.env = pure none := by cases e <;> rfl
  refine weakS (ps_asg (ha false) pg (sw_none hn (some (.Subscript l j p)) pos.line X.env) hw) fun D σ H ⟨ρ, m, as, rl, rs, g⟩ => ⟨ρ, m, as, rl, rs, ?_⟩
  refine (GoodS.toRS rl rs g).imp fun v ρ1 H1 m1 n1 g1 x rv => ?_
  have rs1 := rs.mono rl.muts n1.ext
  refine ⟨ρ1, m1, as, n1.rl, rs1, (GoodS.toRS n1.rl rs1 g1).imp fun ov ρ2 H2 m2 n2 g2 y ry => ?_⟩
  have rs2 := rs1.mono n1.rl.muts n2.ext
  refine ⟨ρ2, m2, as, n2.rl, rs2, (GoodS.toRS n2.rl rs2 g2).imp fun iv ρ3 H3 m3 n3 g3 z rz => ?_⟩
  have rs3 := rs2.mono n2.rl.muts n3.ext
  cases ov <;> first | (cases iv <;> exact g3.elim) | skip
  rename_i r
  cases iv <;> first | exact g3.elim | skip
  rename_i jj
  cases rz
  have g3' : GoodS T W ρ3 H3 m3 (match getL m3 r with | some (ep, xs) => (match setIx xs jj v with | some ys => .nx as (setL r ep ys m3) | none => .no) | none => .no) D := g3
  cases hr : getL m3 r with
  | none => rw [hr] at g3'; exact g3'.elim
  | some q =>
    obtain ⟨ep, xs⟩ := q
    rw [hr] at g3'
    have g4 : GoodS T W ρ3 H3 m3 (match setIx xs jj v with | some ys => .nx as (setL r ep ys m3) | none => .no) D := g3'
    cases hx : setIx xs jj v with
    | none => rw [hx] at g4; exact g4.elim
    | some ys =>
      rw [hx] at g4
      cases ry with
      | ref hra =>
        have n12 := n2.trans n3
        obtain ⟨vs, q, k1, k2, k3⟩ := set_ix n3.rl hr (pre_get n3.ext.pre hra) (rv.mono n1.rl.muts n12.ext) hx
        exact ⟨_, vs, jj, q, rfl, rfl, k1, k2, g4 ρ3 _ σ k3 (rs3.mono n3.rl.muts k3.ext)⟩
theorem s_R {d : Mi.D} (ha : ∀ fr, PE X e (spE T W F fr d)) : PS X (.Return (some e) pos) (spS T W F (dS (sR d))) := by
  refine weakS (ps_ret (ha false)) fun D σ H ⟨ρ, m, as, rl, rs, g⟩ => ⟨ρ, m, as, rl, rs, ?_⟩
  exact (GoodS.toRS rl rs g).imp fun v ρ1 H1 m1 n1 g1 x rv => g1 ρ1 H1 x (Nx.refl n1.rl) rv
theorem s_Rn : PS X (.Return none pos) (spS T W F (dS fun _ _ m => .rt .non m)) := weakS ps_retN fun D σ H ⟨ρ, m, as, rl, rs, g⟩ => g ρ H .non (Nx.refl rl) .non
theorem s_pass : PS X (.Pass pos) (spS T W F (dS fun _ s m => .nx s m)) := weakS ps_pass fun D σ H ⟨ρ, m, as, rl, rs, g⟩ => GoodS.nx_ rl rs g
theorem s_brk : PS X (.Break pos) (spS T W F (dS fun _ s m => .bk s m)) := weakS ps_break fun D σ H ⟨ρ, m, as, rl, rs, g⟩ => g ρ H σ (Nx.refl rl) rs
theorem s_cnt : PS X (.Continue pos) (spS T W F (dS fun _ s m => .ct s m)) := weakS ps_continue fun D σ H ⟨ρ, m, as, rl, rs, g⟩ => g ρ H σ (Nx.refl rl) rs
theorem s_If {c a b : Mi.D} {l r : List Stmt} (hc : PT X e (spT T W F c)) (ha : PSs X l (spB T W F a)) (hb : PSs X r (spB T W F b)) : PS X (.If e l r pos) (spS T W F (dS (sIf c a b))) := by
  refine weakS (ps_if hc ha hb) fun D σ H ⟨ρ, m, as, rl, rs, g⟩ => ⟨ρ, m, as, rl, rs, ?_⟩
  refine (GoodS.toRS rl rs g).imp fun v ρ1 H1 m1 n1 g1 => ?_
  have g1' : GoodS T W ρ1 H1 m1 (match truV m1 v with | some true => a.b F as m1 | some false => b.b F as m1 | none => .no) D := g1
  cases h : truV m1 v with
  | none => rw [h] at g1'; exact g1'.elim
  | some t =>
    rw [h] at g1'
    refine ⟨t, rfl, ?_⟩
    cases t with
    | true => exact ⟨ρ1, m1, as, n1.rl, rs.mono rl.muts n1.ext, g1'⟩
    | false => exact ⟨ρ1, m1, as, n1.rl, rs.mono rl.muts n1.ext, g1'⟩
theorem s_no {st : Stmt} : PS X st (spS T W F (dS fun _ _ _ => .no)) := weakS ps_never fun D σ H ⟨ρ, m, as, rl, rs, g⟩ => g
/-- name op= value -/
theorem ip_xor : PIp X .BitXor (ipI Builtin.bitXor) := by
  rintro pins s σ H x y v u Q I r1 r2 ⟨i, j, rfl, rfl, q⟩
  obtain ⟨t, rfl⟩ := r1
  obtain ⟨t', rfl⟩ := r2
  exact ixor_int ⟨.int _, H, I.tok _, ⟨_, rfl⟩, q⟩
theorem ip_or : PIp X .BitOr (ipI Builtin.bitOr) := by
  rintro pins s σ H x y v u Q I r1 r2 ⟨i, j, rfl, rfl, q⟩
  obtain ⟨t, rfl⟩ := r1
  obtain ⟨t', rfl⟩ := r2
  exact ior_int ⟨.int _, H, I.tok _, ⟨_, rfl⟩, q⟩
theorem aug_ip {o : Op} {f : Int → Int → Int} (h : augF o = some f) : PIp X (opOf o) (ipI f) := by
  cases o <;> first | (cases h; done) | skip
  · cases h; exact ip_add
  · cases h; exact ip_xor
  · cases h; exact ip_or
theorem s_U {i : Nat} {x : Str} {o : Op} {d : Mi.D} {f : Int → Int → Int} (hf : augF o = some f) (ck : Ck T F k n sx W X) (h1 : atB k.N i x = true) (h2 : stB sx x = true) (ha : ∀ fr, PE X e (spE T W F fr d)) : PS X (.AugAssign (.Name x p) (opOf o) e pos) (spS T W F (dS (sU i o d))) := by
  obtain ⟨l, hfn⟩ := st_of ck h2
  refine weakS (ps_aug ck.nd (at_of ck h1) l (ha true) (aug_ip hf) hfn) fun D σ H ⟨ρ, m, as, rl, rs, g⟩ => ?_
  have g' : GoodS T W ρ H m (sU i o d F as m) D := g
  unfold sU at g'
  cases hx : as[i]? with
  | none => rw [hx] at g'; exact g'.elim
  | some ov =>
    cases ov with
    | none => rw [hx] at g'; exact g'.elim
    | some v =>
      cases v <;> first | (rw [hx] at g'; exact g'.elim) | skip
      rename_i x0
      rw [hx] at g'
      obtain ⟨w, hw, rw'⟩ := rs.at_ i _ hx
      cases rw'
      refine ⟨_, hw, ρ, m, as, rl, rs, (GoodS.toRS rl rs g').imp fun v ρ1 H1 m1 n1 g1 y ry => ?_⟩
      cases hz : augV o x0 v with
      | none => rw [hz] at g1; exact g1.elim
      | some z =>
        rw [hz] at g1
        unfold augV at hz
        rw [hf] at hz
        cases v <;> first | (cases hz; done) | skip
        cases hz
        cases ry
        exact ⟨x0, _, rfl, rfl, GoodS.nx_ n1.rl ((rs.mono rl.muts n1.ext).set (.int _) i) g1⟩

/-! ### two or three names at once -/
theorem tup_fold {ts vs : List Expr} {j j2 : Nat} {p2 : Pos} {env : Env} (h : vs.all (foldedForSure 8) = true) : swappedStores [.Tuple ts j p] (.Tuple vs j2 p2) env = pure none := by
  unfold swappedStores
  simp only [h]
  repeat' split
  all_goals first | rfl | exact absurd True.intro ‹¬True›
theorem tup_cell {ts vs : List Expr} {j j2 : Nat} {p2 : Pos} {env : Env} (h : ts.any (fun | .Name x _ => env.kindOf x == some .cell | _ => false) = true) : swappedStores [.Tuple ts j p] (.Tuple vs j2 p2) env = pure none := by
  unfold swappedStores
  simp only
  split
  · rfl
  · split
    · rfl
    · rw [if_pos]
      rw [Bool.or_eq_true]
      left
      rw [List.length_filterMap_eq_countP, bne_iff_ne]
      intro e
      rw [List.countP_eq_length] at e
      obtain ⟨t, ht, hc⟩ := List.any_eq_true.mp h
      have z := e t ht
      cases t <;> first | (cases hc; done) | skip
      rename_i x px
      have hc' : env.kindOf x = some .cell := by simpa using hc
      revert z
      simp [hc']
theorem reps_two {ρ : List Addr} {H : Hp} {xs : List AV} {vs : List V} {s s1 : ASt} {i j : Nat} (r : Reps T ρ H xs vs) (h : setAll [i, j] xs s = some s1) : ∃ v w a b, xs = [a, b] ∧ vs = [v, w] ∧ Rep T ρ H a v ∧ Rep T ρ H b w ∧ s1 = setS (setS s i a) j b := by
  match xs, h with
  | [], h => cases h
  | [a], h => cases h
  | [a, b], h =>
    cases h
    obtain ⟨v, w, rfl, k1, k2⟩ := reps2 r
    exact ⟨v, w, a, b, rfl, rfl, k1, k2, rfl⟩
  | _ :: _ :: _ :: _, h => cases h
theorem star_any0 {vs : List Expr} (h : vs.all notStar = true) : (vs.any fun | .Starred .. => true | _ => false) = false := by
  induction vs with
  | nil => rfl
  | cons v vs ih =>
    rw [List.all_cons, Bool.and_eq_true] at h
    rw [List.any_cons, ih h.2]
    have h1 := h.1
    cases v <;> first | rfl | cases h1
theorem sw_two {x y : Str} {px py pt p2 : Pos} {kt k2 : Nat} {a b : Expr} {env : Env} (hk : env.blockKind = .function) (hx : env.kindOf x = some .local) (hy : env.kindOf y = some .local) (l : (py.line == px.line) = true) (hne : (x == y) = false) (hs : [a, b].all notStar = true)
    (hf : [a, b].all (foldedForSure 8) = false) (hc : [a, b].all (constantsAlone 8) = false) : swappedStores [.Tuple [.Name x px, .Name y py] kt pt] (.Tuple [a, b] k2 p2) env = pure (some [x, y]) := by
  have h0 := star_any0 hs
  have hne2 : ¬ x = y := by simpa using hne
  have hne3 : ¬ y = x := fun e => hne2 e.symm
  have l' : py.line = px.line := by simpa using l
  have hyx : (y == x) = false := by simpa using hne3
  have e2 : ([x, y] : List Str).eraseDups = [x, y] := by
    rw [List.eraseDups_cons, List.filter_cons, hyx]
    rfl
  have h1 : ([Expr.Name x px, Expr.Name y py].filterMap fun
    | .Name id pos => if env.kindOf id == some .local && pos.line == (Option.map (fun x => x.pos.line) [Expr.Name x px, Expr.Name y py].head?).getD 0 then some id else none
    | _ => none) = [x, y] := by
    simp only [List.filterMap_cons, hx, hy, List.head?_cons, Option.map_some, Option.getD_some, Expr.pos, l', beq_self_eq_true, Bool.and_self, if_true, List.filterMap_nil]
  unfold swappedStores
  simp only [hf, hc, hk]
  rw [if_neg (by simp), if_neg (fun hh => by
    rw [List.any_eq_true] at hh
    obtain ⟨z, hz, hm⟩ := hh
    have k1 := List.all_eq_true.mp hs z hz
    cases z <;> first | (cases hm; done) | cases k1)]
  have h2 : ∀ l : List Str, l = [x, y] → (if (l.length != 2 || l.eraseDups.length != l.length) = true then (pure none : Sem (Option (List Str))) else pure (some l)) = pure (some [x, y]) := fun l e => by
    subst e
    rw [e2]
    rfl
  refine h2 _ ?_
  simp only [List.filterMap_cons, hx, hy, List.head?_cons, Option.map_some, Option.getD_some, Expr.pos, l', beq_self_eq_true, Bool.and_self, if_true, List.filterMap_nil]
theorem s_P2 {i j : Nat} {x y : Str} {a b : Expr} {px py pt p2 : Pos} {kt k2 : Nat} {es : Mi.D} (ck : Ck T F k n sx W X) (hi : X.N[i]? = some x) (hj : X.N[j]? = some y) (hij : i ≠ j) (hx : X.env.scope.names.lookup x = some .local) (hy : X.env.scope.names.lookup y = some .local)
    (hw : swappedStores [.Tuple [.Name x px, .Name y py] kt pt] (.Tuple [a, b] k2 p2) X.env = pure (some [x, y])) (ha : PA X [a, b] (spA T W F es)) : PS X (.Assign [.Tuple [.Name x px, .Name y py] kt pt] (.Tuple [a, b] k2 p2) pos) (spS T W F (dS (sP [i, j] es))) := by
  refine weakS (ps_par ck.calm ck.nd hi hj hij hx hy ha hw (by rfl)) fun D σ H ⟨ρ, m, as, rl, rs, g⟩ => ⟨ρ, m, as, rl, rs, ?_⟩
  refine (GoodS.toRSl rl rs g).imp fun xs ρ1 H1 m1 n1 g1 vs rvs => ?_
  have g1' : GoodS T W ρ1 H1 m1 (match setAll [i, j] xs as with | some s1 => .nx s1 m1 | none => .no) D := g1
  cases h : setAll [i, j] xs as with
  | none => rw [h] at g1'; exact g1'.elim
  | some s1 =>
    rw [h] at g1'
    obtain ⟨v, w, c, d, rfl, rfl, rv, rw', rfl⟩ := reps_two rvs h
    exact ⟨v, w, rfl, GoodS.nx_ n1.rl (((rs.mono rl.muts n1.ext).set rv i).set rw' j) g1'⟩

/-! ### loops -/
theorem drop_tail {α : Type} {l xs : List α} {x : α} {i : Nat} (h : x :: xs = l.drop i) : xs = l.drop (i + 1) ∧ i + 1 ≤ l.length := by
  have hl : i < l.length := by
    have := congrArg List.length h
    rw [List.length_drop, List.length_cons] at this
    omega
  rw [List.drop_eq_getElem_cons hl] at h
  cases h
  exact ⟨rfl, hl⟩
theorem still_one {m : AH} {r e : Nat} {xs : List AV} (h : getL m r = some (e, xs)) : still [(r, e)] m = true := by
  unfold still
  rw [List.all_cons]
  simp only [h]
  rw [Nat.beq_refl]
  rfl
theorem s_For {t it b : Mi.D} {sl : List Nat} {tg : Expr} {body : List Stmt} (ck : Ck T F k n sx W X) (hp : PassesOwn (model X.prog X.w) X.A X.env X.xe) (hn : notSet e = true) (hi : PI X tg e (spI T W F it)) (hg : PG X tg (spG T t sl)) (hb : PSs X body (spB T W F b)) :
    PS X (.For tg e body [] pos) (spS T W F (dS (sFor t it b))) := by
  refine weakS (ps_for hp ck.calm hi hg hb (fold_id hn _)) fun D σ H ⟨ρ, m, as, rl, rs, g⟩ => ⟨ρ, m, as, rl, rs, ?_⟩
  have g' : GoodS T W ρ H m (match it.i F as m with
    | .ok w m1 => if (!still w.live m1) = true then .no else forGo F t.g b.b w.grow F.wf 0 w.live w.its as m1
    | .ex c vs m1 => .ex c vs as m1
    | .no => .no) D := g
  cases hit : it.i F as m with
  | no => rw [hit] at g'; exact g'.elim
  | ex c vs m1 =>
    rw [hit] at g'
    exact fun ρ' H' d nx ex => g' ρ' H' d σ nx (rs.mono rl.muts nx.ext) ex
  | ok w m1 =>
    rw [hit] at g'
    intro ρ1 H1 n1 J wk
    have g1 : GoodS T W ρ1 H1 m1 (if (!still w.live m1) = true then .no else forGo F t.g b.b w.grow F.wf 0 w.live w.its as m1) D := GoodS.step (r := if (!still w.live m1) = true then .no else forGo F t.g b.b w.grow F.wf 0 w.live w.its as m1) g' n1
    by_cases c : (!still w.live m1) = true
    · rw [if_pos c] at g1; exact g1.elim
    · rw [if_neg c] at g1
      have st : still w.live m1 = true := by simpa using c
      refine ⟨fun i f σ H => ∃ ρ m as lv its, Nx T ρ1 H1 m1 ρ H m ∧ RS1 T ρ H as σ ∧ still lv m = true ∧ ((i ≤ w.its.length ∧ lv = w.live ∧ its = w.its.drop i) ∨ (∃ r ep ys, w.grow = some r ∧ getL m r = some (ep, ys) ∧ lv = [(r, ep)] ∧ its = ys.drop i)) ∧ GoodS T W ρ H m (forGo F t.g b.b w.grow f i lv its as m) D,
        ⟨F.wf, ρ1, m1, as, w.live, w.its, Nx.refl n1.rl, rs.mono rl.muts n1.ext, st, .inl ⟨Nat.zero_le _, rfl, rfl⟩, g1⟩, ?_⟩
      rintro i f σ2 H2 ⟨ρ2, m2, as2, lv, its, nx2, rs2, st2, hits, g2⟩
      have lt : Later T ρ1 H1 m1 T.fb (fun _ => False) ρ2 H2 m2 := ⟨fun b h => .inl h, fun b h => h, fun b h => h.elim, nx2.ext.toF, nx2.rl, nx2.mono⟩
      cases f with
      | zero => exact g2.elim
      | succ f =>
        cases its with
        | nil =>
          left
          refine ⟨?_, GoodS.nx_ nx2.rl rs2 g2⟩
          rcases hits with ⟨h1, rfl, h3⟩ | ⟨r, ep, ys, h1, h2, rfl, h3⟩
          · have hl : w.its.length ≤ i := List.drop_eq_nil_iff.mp h3.symm
            exact (wk.it T.fb _ ρ2 H2 m2 lt st2 i).2 (by omega)
          · exact (wk.gr r h1 T.fb _ ρ2 H2 m2 lt ep ys h2 i).2 (List.drop_eq_nil_iff.mp h3.symm)
        | cons x xs =>
          right
          have yd : Yd T J i ρ2 H2 m2 x := by
            rcases hits with ⟨h1, rfl, h3⟩ | ⟨r, ep, ys, h1, h2, rfl, h3⟩
            · exact (wk.it T.fb _ ρ2 H2 m2 lt st2 i).1 x (by
                have := congrArg (·[0]?) h3
                simpa using this.symm)
            · exact (wk.gr r h1 T.fb _ ρ2 H2 m2 lt ep ys h2 i).1 x (by
                have := congrArg (·[0]?) h3
                simpa using this.symm)
          obtain ⟨go, yl⟩ := yd
          refine ⟨go, fun σ H => ∃ ρ m as lv its, Nx T ρ1 H1 m1 ρ H m ∧ RS1 T ρ H as σ ∧ still lv m = true ∧ ((i + 1 ≤ w.its.length ∧ lv = w.live ∧ its = w.its.drop (i + 1)) ∨ (∃ r ep ys, w.grow = some r ∧ getL m r = some (ep, ys) ∧ lv = [(r, ep)] ∧ its = ys.drop (i + 1))) ∧ GoodS T W ρ H m (forGo F t.g b.b w.grow f (i + 1) lv its as m) D,
            fun σ H h => ⟨f, Nat.lt_succ_self _, h⟩, fun v H3 hy => ?_⟩
          obtain ⟨n3, rv⟩ := yl v H3 hy
          have g3 : GoodS T W ρ2 H2 m2 (match t.g x as2 with
            | none => .no
            | some s1 =>
              let go := fun s2 m2 => if still lv m2 then forGo F t.g b.b w.grow f (i + 1) lv xs s2 m2 else (match w.grow with
                | some r => (match getL m2 r with | some (ep, ys) => forGo F t.g b.b w.grow f (i + 1) [(r, ep)] (ys.drop (i + 1)) s2 m2 | none => .no)
                | none => .no)
              match b.b F s1 m2 with
              | .nx s2 m2 => go s2 m2
              | .ct s2 m2 => go s2 m2
              | .bk s2 m2 => .nx s2 m2
              | r => r) D := g2
          cases hs : t.g x as2 with
          | none => rw [hs] at g3; exact g3.elim
          | some s1 =>
            rw [hs] at g3
            refine ⟨T.fb, ρ2, m2, x, as2, s1, n3.rl, rs2.mono nx2.rl.muts n3.ext, rv, hs, fun σ3 rs3 _ => ⟨ρ2, m2, s1, n3.rl, rs3, ?_⟩⟩
            have again : ∀ {s2 : ASt} {m4 : AH} {ρ4 : List Addr} {H4 : Hp} {σ4 : L2.St}, Nx T ρ2 H3 m2 ρ4 H4 m4 → RS1 T ρ4 H4 s2 σ4 → GoodS T W ρ4 H4 m4 (if still lv m4 then forGo F t.g b.b w.grow f (i + 1) lv xs s2 m4 else (match w.grow with
                | some r => (match getL m4 r with | some (ep, ys) => forGo F t.g b.b w.grow f (i + 1) [(r, ep)] (ys.drop (i + 1)) s2 m4 | none => .no)
                | none => .no)) D →
                ∃ ρ m as lv its, Nx T ρ1 H1 m1 ρ H4 m ∧ RS1 T ρ H4 as σ4 ∧ still lv m = true ∧ ((i + 1 ≤ w.its.length ∧ lv = w.live ∧ its = w.its.drop (i + 1)) ∨ (∃ r ep ys, w.grow = some r ∧ getL m r = some (ep, ys) ∧ lv = [(r, ep)] ∧ its = ys.drop (i + 1))) ∧ GoodS T W ρ H4 m (forGo F t.g b.b w.grow f (i + 1) lv its as m) D := by
              intro s2 m4 ρ4 H4 σ4 n4 rs4 g4
              have n14 := (nx2.trans n3).trans n4
              by_cases c : still lv m4 = true
              · rw [if_pos c] at g4
                refine ⟨ρ4, m4, s2, lv, xs, n14, rs4, c, ?_, g4⟩
                rcases hits with ⟨h1, rfl, h3⟩ | ⟨r, ep, ys, h1, h2, rfl, h3⟩
                · obtain ⟨k1, k2⟩ := drop_tail h3
                  exact .inl ⟨k2, rfl, k1⟩
                · obtain ⟨k1, k2⟩ := drop_tail h3
                  obtain ⟨zs, hz⟩ := still_get c List.mem_cons_self
                  obtain ⟨e2, xs2, q1, q2, q3⟩ := (n3.trans n4).mono r ep ys (getL_some h2)
                  have q4 := getL_some hz
                  rw [q1] at q4
                  cases q4
                  rw [q3 rfl] at hz
                  exact .inr ⟨r, ep, ys, h1, hz, rfl, k1⟩
              · rw [if_neg c] at g4
                cases hgr : w.grow with
                | none => rw [hgr] at g4; exact g4.elim
                | some r =>
                  simp only [hgr] at g4
                  cases hz : getL m4 r with
                  | none => simp only [hz] at g4; exact g4.elim
                  | some q =>
                    obtain ⟨ep, ys⟩ := q
                    simp only [hz] at g4
                    exact ⟨ρ4, m4, s2, [(r, ep)], _, n14, rs4, still_one hz, .inr ⟨r, ep, ys, rfl, hz, rfl, rfl⟩, g4⟩
            have g4 := GoodS.step g3 n3
            cases hbb : b.b F s1 m2 with
            | nx s2 m4 => simp only [hbb] at g4; exact fun ρ4 H4 σ4 n4 rs4 => again n4 rs4 (GoodS.step g4 n4)
            | ct s2 m4 => simp only [hbb] at g4; exact fun ρ4 H4 σ4 n4 rs4 => again n4 rs4 (GoodS.step g4 n4)
            | bk s2 m4 => simp only [hbb] at g4; exact g4
            | rt v m4 => simp only [hbb] at g4; exact g4
            | ex c vs s2 m4 => simp only [hbb] at g4; exact g4
            | no => simp only [hbb] at g4; exact g4
theorem s_Wh {c b : Mi.D} {body : List Stmt} (hp : PassesOwn (model X.prog X.w) X.A X.env X.xe) (hc : PT X e (spT T W F c)) (hb : PSs X body (spB T W F b)) : PS X (.While e body [] pos) (spS T W F (dS (sWh c b))) := by
  refine weakS (ps_while hp hc hb) fun D σ H ⟨ρ, m, as, rl, rs, g⟩ => ?_
  refine ⟨fun f σ H => ∃ ρ m as, Rl T ρ H m ∧ RS1 T ρ H as σ ∧ GoodS T W ρ H m (whGo F (c.e true) b.b f as m) D, ⟨F.wf, ρ, m, as, rl, rs, g⟩, ?_⟩
  rintro f σ1 H1 ⟨ρ1, m1, as1, rl1, rs1, g1⟩
  cases f with
  | zero => exact g1.elim
  | succ f =>
    have g2 : GoodS T W ρ1 H1 m1 (toRS (c.e true F as1 m1) as1 fun v m1 => match truV m1 v with
      | some true => (match b.b F as1 m1 with
        | .nx s2 m2 => whGo F (c.e true) b.b f s2 m2
        | .ct s2 m2 => whGo F (c.e true) b.b f s2 m2
        | .bk s2 m2 => .nx s2 m2
        | r => r)
      | some false => .nx as1 m1
      | none => .no) D := g1
    refine ⟨ρ1, m1, as1, rl1, rs1, (GoodS.toRS rl1 rs1 g2).imp fun v ρ2 H2 m2 n2 g3 => ?_⟩
    have rs2 := rs1.mono rl1.muts n2.ext
    cases ht : truV m2 v with
    | none => simp only [ht] at g3; exact g3.elim
    | some t =>
      refine ⟨t, rfl, ?_⟩
      cases t with
      | false =>
        simp only [ht] at g3
        show ite (false = true) _ _
        rw [if_neg Bool.false_ne_true]
        exact GoodS.nx_ n2.rl rs2 g3
      | true =>
        simp only [ht] at g3
        show ite (true = true) _ _
        rw [if_pos rfl]
        refine ⟨fun σ H => ∃ ρ m as, Rl T ρ H m ∧ RS1 T ρ H as σ ∧ GoodS T W ρ H m (whGo F (c.e true) b.b f as m) D, fun σ H h => ⟨f, Nat.lt_succ_self _, h⟩, ρ2, m2, as1, n2.rl, rs2, ?_⟩
        cases hbb : b.b F as1 m2 with
        | nx s2 m4 => simp only [hbb] at g3; exact fun ρ4 H4 σ4 n4 rs4 => ⟨ρ4, m4, s2, n4.rl, rs4, GoodS.step g3 n4⟩
        | ct s2 m4 => simp only [hbb] at g3; exact fun ρ4 H4 σ4 n4 rs4 => ⟨ρ4, m4, s2, n4.rl, rs4, GoodS.step g3 n4⟩
        | bk s2 m4 => simp only [hbb] at g3; exact g3
        | rt v m4 => simp only [hbb] at g3; exact g3
        | ex c vs s2 m4 => simp only [hbb] at g3; exact g3
        | no => simp only [hbb] at g3; exact g3
theorem reps_three {ρ : List Addr} {H : Hp} {xs : List AV} {vs : List V} {s s1 : ASt} {i j l : Nat} (r : Reps T ρ H xs vs) (h : setAll [i, j, l] xs s = some s1) : ∃ v w u a b c, xs = [a, b, c] ∧ vs = [v, w, u] ∧ Rep T ρ H a v ∧ Rep T ρ H b w ∧ Rep T ρ H c u ∧ s1 = setS (setS (setS s i a) j b) l c := by
  match xs, h with
  | [], h => cases h
  | [a], h => cases h
  | [a, b], h => cases h
  | [a, b, c], h =>
    cases h
    cases r with
    | cons r1 r2 =>
      obtain ⟨v, w, rfl, k1, k2⟩ := reps2 r2
      exact ⟨_, v, w, a, b, c, rfl, rfl, r1, k1, k2, rfl⟩
  | _ :: _ :: _ :: _ :: _, h => cases h
theorem sw_three {x y z : Str} {px py pz pt p2 : Pos} {kt k2 : Nat} {a b c : Expr} {env : Env} (hk : env.blockKind = .function) (hx : env.kindOf x = some .local) (hy : env.kindOf y = some .local) (hz : env.kindOf z = some .local) (l : (py.line == px.line) = true) (l2 : (pz.line == px.line) = true)
    (hne : (x == y) = false) (hne2 : (x == z) = false) (hne3 : (y == z) = false) (hs : [a, b, c].all notStar = true)
    (hf : [a, b, c].all (foldedForSure 8) = false) (hc : [a, b, c].all (constantsAlone 8) = false) : swappedStores [.Tuple [.Name x px, .Name y py, .Name z pz] kt pt] (.Tuple [a, b, c] k2 p2) env = pure (some [x, y, z]) := by
  have n1 : ¬ y = x := fun e => by subst e; simp at hne
  have n2 : ¬ z = x := fun e => by subst e; simp at hne2
  have n3 : ¬ z = y := fun e => by subst e; simp at hne3
  have l' : py.line = px.line := by simpa using l
  have l2' : pz.line = px.line := by simpa using l2
  have hyx : (y == x) = false := by simpa using n1
  have hzx : (z == x) = false := by simpa using n2
  have hzy : (z == y) = false := by simpa using n3
  have e2 : ([x, y, z] : List Str).eraseDups = [x, y, z] := by
    rw [List.eraseDups_cons, List.filter_cons, hyx, List.filter_cons, hzx]
    show x :: ([y, z] : List Str).eraseDups = _
    rw [List.eraseDups_cons, List.filter_cons, hzy]
    rfl
  unfold swappedStores
  simp only [hf, hc, hk]
  rw [if_neg (by simp), if_neg (fun hh => by
    rw [List.any_eq_true] at hh
    obtain ⟨z, hz, hm⟩ := hh
    have k1 := List.all_eq_true.mp hs z hz
    cases z <;> first | (cases hm; done) | cases k1)]
  have h2 : ∀ l : List Str, l = [x, y, z] → (if (l.length != 3 || l.eraseDups.length != l.length) = true then (pure none : Sem (Option (List Str))) else pure (some l)) = pure (some [x, y, z]) := fun l e => by
    subst e
    rw [e2]
    rfl
  refine h2 _ ?_
  simp only [List.filterMap_cons, hx, hy, hz, List.head?_cons, Option.map_some, Option.getD_some, Expr.pos, l', l2', beq_self_eq_true, Bool.and_self, if_true, List.filterMap_nil]
theorem s_P3 {i j q : Nat} {x y z : Str} {a b c : Expr} {px py pz pt p2 : Pos} {kt k2 : Nat} {es : Mi.D} (ck : Ck T F k n sx W X) (hi : X.N[i]? = some x) (hj : X.N[j]? = some y) (hq : X.N[q]? = some z) (hij : i ≠ j) (hiq : i ≠ q) (hjq : j ≠ q) (hx : X.env.scope.names.lookup x = some .local) (hy : X.env.scope.names.lookup y = some .local) (hz : X.env.scope.names.lookup z = some .local)
    (hw : swappedStores [.Tuple [.Name x px, .Name y py, .Name z pz] kt pt] (.Tuple [a, b, c] k2 p2) X.env = pure (some [x, y, z])) (ha : PA X [a, b, c] (spA T W F es)) : PS X (.Assign [.Tuple [.Name x px, .Name y py, .Name z pz] kt pt] (.Tuple [a, b, c] k2 p2) pos) (spS T W F (dS (sP [i, j, q] es))) := by
  refine weakS (ps_par3 ck.calm ck.nd hi hj hq hij hiq hjq hx hy hz ha hw (by rfl)) fun D σ H ⟨ρ, m, as, rl, rs, g⟩ => ⟨ρ, m, as, rl, rs, ?_⟩
  refine (GoodS.toRSl rl rs g).imp fun xs ρ1 H1 m1 n1 g1 vs rvs => ?_
  have g1' : GoodS T W ρ1 H1 m1 (match setAll [i, j, q] xs as with | some s1 => .nx s1 m1 | none => .no) D := g1
  cases h : setAll [i, j, q] xs as with
  | none => rw [h] at g1'; exact g1'.elim
  | some s1 =>
    rw [h] at g1'
    obtain ⟨v, w, u, c, d, e, rfl, rfl, rv, rw', ru, rfl⟩ := reps_three rvs h
    exact ⟨v, w, u, rfl, GoodS.nx_ n1.rl ((((rs.mono rl.muts n1.ext).set rv i).set rw' j).set ru q) g1'⟩
end
end Mi
set_option Elab.async false
set_option linter.all false
set_option maxRecDepth 100000
set_option maxHeartbeats 4000000
/-! Mini: lambdas that a def calls, telling what they raise; raise; repr -/
namespace Mi
open PySem PySem.Spec PyProof.Rows L2
section
variable {T : Tb} {F : FT} {k : Kx} {n : Nat} {sx : Sx} {W : WX} {X : Cx} {pos : Pos} {p : Pos} {e : Expr} {fr : Bool}
/-! ### repr of plain values -/
def rRepr (K : PySem.W.Frag) : List V → Hp → VK → Prop := fun xs H Q => ∃ v x, xs = [v] ∧ Shown K H v x ∧ Q (.str x) H
theorem okN_size {m : Nat} (h : okN m = true) : m ≤ sizeLine := by
  have := Nat.le_of_ble_eq_true h
  rw [sizeLine_eq]
  exact this
theorem reprIs_of {v : V} {u : Value} {x : Str} (r : RelV v u) (h : shown0 v = some x) : ReprIs X.prog X.w u x := by
  cases v with
  | non =>
    cases (show u = Value.none from r)
    cases h
    exact ReprIs.none
  | bl b =>
    cases (show u = Value.bool b from r)
    cases h
    cases b
    · exact ReprIs.bool false
    · exact ReprIs.bool true
  | int i =>
    obtain ⟨t, e⟩ := (show ∃ t, u = Value.int i t from r)
    subst e
    have h' : (if Nat.blt i.natAbs.log2 1920 = true then some (Str.ofString (toString i)) else none) = some x := h
    by_cases c : Nat.blt i.natAbs.log2 1920 = true
    · rw [if_pos c] at h'
      cases h'
      exact ReprIs.int t (Nat.blt_eq.mp c)
    · rw [if_neg c] at h'; cases h'
  | str y =>
    obtain ⟨t, e⟩ := (show ∃ t, u = Value.str y t from r)
    subst e
    have h' : (if okN (reprText y).length = true then some (reprText y) else none) = some x := h
    by_cases c : okN (reprText y).length = true
    · rw [if_pos c] at h'
      cases h'
      exact ReprIs.str y t (okN_size c)
    · rw [if_neg c] at h'; cases h'
  | byt b => cases h
  | flt b => cases h
  | ref a => cases h
  | ty n => cases h
theorem reprAll_of : ∀ {vs : List V} {us : List Value} {ts : List Str}, Vals vs us → optM shown0 vs = some ts → ReprAll X.prog X.w us ts
  | [], _, _, .nil, h => by
    cases h
    exact .nil
  | v :: vs, _, ts, .cons r rs, h => by
    cases h1 : shown0 v with
    | none => simp [optM, h1] at h
    | some y =>
      cases h2 : optM shown0 vs with
      | none => simp [optM, h1, h2] at h
      | some ys =>
        simp only [optM, h1, h2, Option.some.injEq] at h
        subst h
        exact .cons (reprIs_of r h1) (reprAll_of rs h2)
theorem call_repr (hg : X.A.guards = some []) (hu : X.A.units + 1 < cLine) : CallR X (.builtin "repr") (rRepr X.K) := by
  intro pins s σ H xs us Q I r h
  obtain ⟨v, x, rfl, hx, q⟩ := h
  obtain ⟨u, rfl, ru⟩ := r.one
  rcases hx with hx | ⟨a, vs, ts, rfl, ht, h2, h3, rfl⟩
  · cases v with
    | non =>
      cases (show u = Value.none from ru)
      cases hx
      exact PySem.P.repr_of_none ⟨.str _, H, I.tok _, ⟨_, rfl⟩, q⟩
    | bl b =>
      cases (show u = Value.bool b from ru)
      cases hx
      refine PySem.P.repr_of_bool ⟨.str _, H, I.tok _, ⟨_, rfl⟩, ?_⟩
      cases b <;> exact q
    | int i =>
      obtain ⟨t, e⟩ := (show ∃ t, u = Value.int i t from ru)
      subst e
      have hx' : (if Nat.blt i.natAbs.log2 1920 = true then some (Str.ofString (toString i)) else none) = some x := hx
      by_cases c : Nat.blt i.natAbs.log2 1920 = true
      · rw [if_pos c] at hx'
        cases hx'
        exact PySem.P.repr_of_int (Nat.blt_eq.mp c) ⟨.str _, H, I.tok _, ⟨_, rfl⟩, q⟩
      · rw [if_neg c] at hx'; cases hx'
    | str y =>
      obtain ⟨t, e⟩ := (show ∃ t, u = Value.str y t from ru)
      subst e
      have hx' : (if okN (reprText y).length = true then some (reprText y) else none) = some x := hx
      by_cases c : okN (reprText y).length = true
      · rw [if_pos c] at hx'
        cases hx'
        exact PySem.P.repr_of_str ⟨.str _, H, I.tok _, ⟨_, rfl⟩, q⟩ (okN_size c)
      · rw [if_neg c] at hx'; cases hx'
    | byt b => cases hx
    | flt b => cases hx
    | ref a => cases hx
    | ty n => cases hx
  · obtain rfl : u = Value.ref a := ru
    obtain ⟨its, rv, ⟨o, ho, hcl, n, hd⟩, _⟩ := I.tuple ht
    refine call_repr_slot hu ⟨o, ho, hcl⟩ F.slot_tuple_repr (call_tuple_repr ⟨o, ho, hcl⟩ (g := []) hg (fun _ hc => nomatch hc) ho hd (reprAll_of rv h2) (fun u tk => ⟨_, _, rfl, ⟨.str _, H, I.tok _, ⟨_, rfl⟩, q⟩⟩) (okN_size h3))
theorem shown0_rep {ρ : List Addr} {H : Hp} {a : AV} {v : V} {x : Str} (r : Rep T ρ H a v) (h : repr0 a = some x) : shown0 v = some x := by
  cases r with
  | non => exact h
  | bl b => exact h
  | int i => exact h
  | str z => exact h
  | _ => cases h
theorem shown0_reps {ρ : List Addr} {H : Hp} : ∀ {as : List AV} {vs : List V} {ts : List Str}, Reps T ρ H as vs → optM repr0 as = some ts → optM shown0 vs = some ts
  | [], _, _, .nil, h => h
  | a :: as, _, ts, .cons (v := v) (vs := vs) r rs, h => by
    cases h1 : repr0 a with
    | none => simp [optM, h1] at h
    | some y =>
      cases h2 : optM repr0 as with
      | none => simp [optM, h1, h2] at h
      | some ys =>
        simp only [optM, h1, h2, Option.some.injEq] at h
        subst h
        simp only [optM, shown0_rep r h1, shown0_reps rs h2]
theorem shown_rep {ρ : List Addr} {H : Hp} {a : AV} {v : V} {x : Str} (r : Rep T ρ H a v) (h : reprV a = some x) : Shown T.K H v x := by
  cases r with
  | non => exact .inl h
  | bl b => exact .inl h
  | int i => exact .inl h
  | str z => exact .inl h
  | tup e rs =>
    rename_i xs a vs o
    have h' : (match optM repr0 xs with | some ts => if okN (tupleText ts).length = true then some (tupleText ts) else none | none => none) = some x := h
    cases h1 : optM repr0 xs with
    | none => rw [h1] at h'; cases h'
    | some ts =>
      rw [h1] at h'
      have h2 : (if okN (tupleText ts).length = true then some (tupleText ts) else none) = some x := h'
      by_cases c : okN (tupleText ts).length = true
      · rw [if_pos c] at h2
        cases h2
        exact .inr ⟨_, _, ts, rfl, .inl (.inr ⟨_, e.1⟩), shown0_reps rs h1, c, rfl⟩
      · rw [if_neg c] at h2; cases h2
  | _ => cases h
theorem x_repr {a : D} {x : Str} {p : Pos} (ck : Ck T F k n sx W X) (ht : sx.top = true) (h1 : bname k sx x "repr" = true) (hs : notStar e = true) (ha : ∀ fr, PE X e (spE T W F fr a)) : PE X (.Call (.Name x p) [e] [] pos) (spE T W F fr (dE (eRepr a))) := by
  unfold bname at h1
  simp only [Bool.and_eq_true] at h1
  obtain ⟨⟨⟨hx, hg⟩, hb⟩, hn⟩ := h1
  have ex := eq_of_beq hx
  subst ex
  have hpa : PA X [e] (L2.tCons (spE T W F true a) tNil) := pa_cons (ha true) pa_nil (star_no hs _ _)
  refine weakE (pe_callB (call_repr (ck.gd ht) (by have := ck.room.un; omega)) (gl_of ck hg) (ck.bn _ hb) (by decide +kernel) hpa (by decide) (by decide) (star_no hs _ _)) fun σ H Q ⟨ρ, m, as, rl, rs, g⟩ => ⟨ρ, m, as, rl, rs, ?_⟩
  refine (Good.bind g).imp fun v ρ1 H1 m1 n1 g1 x rv => ?_
  obtain ⟨z, h2, g2⟩ := Good.of n1.rl g1
  obtain ⟨w, h3, rfl⟩ := Option.map_eq_some_iff.mp h2
  exact ⟨x, w, rfl, by rw [ck.hK]; exact shown_rep rv h3, g2 _ (.str w)⟩
/-! ### raise -/
theorem s_Rz {c : Nat} {x : Str} {args : List Expr} {q : Pos} (ck : Ck T F k n sx W X) (hr : sx.rs = true) (hg : glB sx.sc x = true) (he : k.ec.lookup x = some (c, false)) (hm : msgB args = true) : PS X (.Raise (some (.Call (.Name x p) args [] q)) none pos) (spS T W F (dS (sRz c))) := by
  obtain ⟨hf, mk⟩ := (ck.ec hr x c false he).no rfl
  unfold msgB at hm
  split at hm
  · refine weakS (ps_raise ck.calm ck.takes (mk _ _ _ _ _ (gl_of ck hg))) fun D σ H ⟨ρ, m, as, rl, rs, g⟩ => ?_
    refine g ρ H none σ (Nx.refl rl) rs ?_
    unfold ExAt
    rw [hf]
    exact ⟨rfl, rfl⟩
  · cases hm
theorem s_Raise {c : Nat} {x : Str} {d : Mi.D} {q : Pos} (ck : Ck T F k n sx W X) (hr : sx.rs = true) (hg : glB sx.sc x = true) (he : k.ec.lookup x = some (c, true)) (hs : notStar e = true) (ha : ∀ fr, PE X e (spE T W F fr d)) : PS X (.Raise (some (.Call (.Name x p) [e] [] q)) none pos) (spS T W F (dS (sRaise c d))) := by
  obtain ⟨f, hf, mk⟩ := (ck.ec hr x c true he).one rfl
  refine weakS (ps_raise ck.calm ck.takes (mk _ _ _ _ (gl_of ck hg) hs (ha true))) fun D σ H ⟨ρ, m, as, rl, rs, g⟩ => ⟨ρ, m, as, rl, rs, ?_⟩
  refine (GoodS.toRS rl rs g).imp fun v ρ1 H1 m1 n1 g1 y rv dd hd => ?_
  have nx := Nx.add (o := .xd [(f, y)]) n1.rl hd
  refine g1 ρ1 _ (some dd) σ nx ((rs.mono rl.muts n1.ext).mono n1.rl.muts nx.ext) ?_
  unfold ExAt
  rw [hf]
  exact ⟨v, y, dd, rfl, rfl, upd_same, rv.mono n1.rl.muts nx.ext, fun z => n1.rl.muts.some z hd, fun z => mut_ne (n1.rl.fb dd z).2 hd⟩
/-! ### a lambda that is called -/
theorem ck_lam (ck : Ck T F k n sx W X) (ht : sx.top = true) {scope : Scope} {f c' : Addr} {A : Around} {outer : List Env} {s : Shared} {H : Hp} {E : XK} {j : Nat} (hj : ∀ i a, T.fa i = some a → FnL X.prog X.w X.K X.mg X.base (L2.CX X.prog X.w) j a (spF T F.dn i))
    (hr : Room (j + 1) (A.deeper (LamX.lamEnv X scope s.heap.objs.size f c'))) : Ck T F.dn k j { sc := scope, fn := fun _ => false } (fun c d _ H' => E c d H') (LamX.lamCx X A outer s H E scope f c') where
  hK := ck.hK
  hN := ck.hN
  nd := ck.nd
  sc := rfl
  fn := fun _ h => nomatch h
  calm := rfl
  room := hr.mono (Nat.le_succ _)
  gn := ck.gn
  cs := ck.cs
  ss := ck.ss
  bn := ck.bn
  kp := ck.kp
  fns := fun i a ha => hj i a ha _ (hr.mono (Nat.le_succ _))
  fin := fun i a ha => hj i a ha _ hr.in1
  cx := ck.cx
  takes := L2.takes_of rfl rfl rfl rfl
  gd := fun h => nomatch h
  lw := fun h => nomatch h
  mt := fun h => nomatch h
  ec := fun h => nomatch h
theorem Nx.lam {ρ : List Addr} {H H1 : Hp} {m : AH} (rl : Rl T ρ H m) (e : LamX.ExtN H H1) (t : LamX.Tabs T.tabs H1) : Nx T ρ H m ρ H1 m := by
  have ex : Ext ρ H ρ H1 := ⟨List.prefix_refl _, fun b o h _ n => e b o h n, fun b h => .inl h⟩
  refine ⟨ex, ⟨rl.len, rl.nd, fun r a o h1 h2 => (rl.ob r a o h1 h2).mono rl.muts ex ?_, ex.fb rl.fb, t⟩, Mono.refl _⟩
  have pl := rl.muts a (mem_get h1)
  cases ho : H a with
  | none => rw [ho] at pl; exact pl.elim
  | some u =>
    rw [ho] at pl
    exact e a u ho pl.noTb
theorem met_at {hs : List (Nat × Str × Bool)} {c : Nat} {vs : List AV} {d : Option Addr} {ρ : List Addr} {H : Hp} {w : Str} (ex : ExAt T c vs d ρ H) (h : metW hs c vs = some w) : MetAt T hs (.ref (T.ca c)) d H w := by
  unfold metW at h
  cases hf : hs.find? fun h => Nat.beq h.1 c with
  | none => rw [hf] at h; cases h
  | some q =>
    obtain ⟨c2, w0, b⟩ := q
    rw [hf] at h
    have hq := List.find?_some (p := fun h : Nat × Str × Bool => Nat.beq h.1 c) hf
    dsimp only at hq
    have hc : c2 = c := Nat.eq_of_beq_eq_true hq
    subst hc
    cases b with
    | false =>
      cases h
      exact ⟨_, _, false, rfl, hf, fun _ => rfl, fun z => nomatch z⟩
    | true =>
      refine ⟨_, _, true, rfl, hf, (fun z => nomatch z), fun _ => ?_⟩
      unfold ExAt at ex
      cases e : T.fld c2 with
      | none =>
        rw [e] at ex
        rw [ex.2] at h
        cases h
      | some f =>
        rw [e] at ex
        obtain ⟨x, v, da, rfl, rfl, h3, h4, _⟩ := ex
        have h' : (match reprV x with | some y => if okN (w0.length + y.length) = true then some (w0 ++ y) else none | none => none) = some w := h
        cases hr : reprV x with
        | none => rw [hr] at h'; cases h'
        | some y =>
          rw [hr] at h'
          have h2 : (if okN (w0.length + y.length) = true then some (w0 ++ y) else none) = some w := h'
          by_cases k : okN (w0.length + y.length) = true
          · rw [if_pos k] at h2
            cases h2
            exact ⟨f, da, v, y, rfl, rfl, h3, shown_rep h4 hr, k, rfl⟩
          · rw [if_neg k] at h2; cases h2
theorem x_met {hs : List (Nat × Str × Bool)} {d : Mi.D} {ps : Arguments} {body : Expr} {scope : Scope} {lp : Pos} {x : Str} (ck : Ck T F k n sx W X) (ht : sx.top = true) (hx : nmB x = true) (hg : glB sx.sc x = true) (hm : k.met.lookup x = some hs) (hn : noArgs ps = true) (hl : LamX.lamSB sx.sc scope = true)
    (hb : ∀ F n W X, Ck T F k n { sc := scope, fn := fun _ => false } W X → PE X body (spE T W F true d)) : PE X (.Call (.Name x p) [.Lambda ps body scope lp] [] pos) (spE T W F fr (dE (eMet hs d))) := by
  obtain ⟨j, hj, fns⟩ := ck.lw ht
  refine weakE (ck.mt ht x hs hm (j + 1) ps body scope p lp pos (fun E => spE T (fun c d _ H' => E c d H') F.dn true d) (ck.room.mono hj) (by rw [ck.sc]; exact LamX.lamS_by hl) hn (gl_of ck hg) (nm_of hx).1 fun A outer s H E f c' hr => hb _ _ _ _ (ck_lam ck ht fns hr)) fun σ H Q ⟨ρ, m, as, rl, rs, g⟩ => ⟨rl.tb, fun H1 eN t1 => ?_⟩
  have n0 := Nx.lam rl eN t1
  show ∃ ρ m as, Rl T ρ H1 m ∧ RS1 T ρ H1 as σ ∧ Good T _ σ ρ H1 m (d.e true F.dn as m) _
  refine ⟨ρ, m, as, n0.rl, rs.mono rl.muts n0.ext, ?_⟩
  have g' : Good T W σ ρ H m (match d.e true F.dn as m with | .ok _ m1 => .ok (.str (Str.ofString "none")) m1 | .ex c vs m1 => .of ((metW hs c vs).map AV.str) m1 | .no => .no) _ := g
  cases hd : d.e true F.dn as m with
  | no => rw [hd] at g'; exact g'.elim
  | ok v m1 =>
    rw [hd] at g'
    exact fun ρ' H' nx v rv => g' ρ' H' (n0.trans nx) _ (.str _)
  | ex c vs m1 =>
    rw [hd] at g'
    intro ρ' H' dd nx ex
    have g2 : Good T W σ ρ H m (.of ((metW hs c vs).map AV.str) m1) _ := g'
    cases hw : metW hs c vs with
    | none => rw [hw] at g2; exact g2.elim
    | some w =>
      rw [hw] at g2
      exact ⟨w, met_at ex hw, g2 ρ' H' (n0.trans nx) _ (.str w)⟩
end
end Mi
set_option Elab.async false
set_option linter.all false
set_option maxRecDepth 100000
set_option maxHeartbeats 4000000
/-! Mini: own classes' objects: fields, methods, length, isinstance -/
namespace Mi
open PySem PySem.Spec PyProof.Rows L2
section
variable {T : Tb} {F : FT} {k : Kx} {n : Nat} {sx : Sx} {W : WX} {X : Cx} {pos : Pos} {p : Pos} {e : Expr} {fr : Bool}
theorem base2_ok {r : Expr} {name : Str} {env : Env} (h : baseB r = true) : attributeBase r name env (eval r env) = eval r env := by
  cases r <;> first | rfl | cases h
/-- an object as it lies -/
theorem obj_slt {ρ : List Addr} {H : Hp} {c : Nat} {xs : List AV} {v : V} (r : Rep T ρ H (.obj c xs) v) : ∃ a dx vs, v = .ref a ∧ SlX.Slt H a (T.ca c) dx (vs.map some) ∧ Reps T ρ H xs vs := by
  cases r with
  | obj h n r => exact ⟨_, _, _, rfl, .inr h, r⟩
theorem x_get {c i : Nat} {a : D} {f : Str} (ck : Ck T F k n sx W X) (h1 : k.fl.lookup f = some (c, i)) (hb : baseB e = true) (ha : ∀ fr, PE X e (spE T W F fr a)) : PE X (.Attribute e f pos) (spE T W F fr (dE (eGet c i a))) := by
  obtain ⟨q, sc, sl⟩ := ck.cx.fl f c i h1
  refine weakE (SlX.pe_sl (ha true) (base2_ok hb)) fun σ H Q ⟨ρ, m, as, rl, rs, g⟩ => ⟨ρ, m, as, rl, rs, ?_⟩
  refine (Good.bind g).imp fun v ρ1 H1 m1 n1 g1 u ru => ?_
  cases v <;> first | exact g1.elim | skip
  rename_i d xs
  have g2 : Good T W σ ρ1 H1 m1 (if Nat.beq c d then .of xs[i]? m1 else .no) _ := g1
  by_cases e2 : Nat.beq c d = true
  · rw [if_pos e2] at g2
    obtain rfl := Nat.eq_of_beq_eq_true e2
    obtain ⟨y, hy, g3⟩ := Good.of n1.rl g2
    obtain ⟨a, dx, vs, rfl, hs, rv⟩ := obj_slt ru
    obtain ⟨w, hw, rw'⟩ := rv.get hy
    exact ⟨a, _, dx, q, _, i, w, rfl, hs, sc, sl, by rw [List.getElem?_map, hw]; rfl, g3 w rw'⟩
  · rw [if_neg e2] at g2
    exact g2.elim
/-- isinstance(x, C) -/
def rIso (K : PySem.W.Frag) (C : Addr) : List V → Hp → VK → Prop := fun xs H Q => rIsi K xs H Q ∨ SlX.rIsiSl K (.ref C) xs H Q
theorem call_iso (C : Addr) : CallR X (.builtin "isinstance") (rIso X.K C) := by
  intro pins s σ H xs us Q I r h
  rcases h with h | h
  · exact call_isi pins s σ H xs us Q I r h
  · exact SlX.call_isiSl (.ref C) pins s σ H xs us Q I r h
theorem x_isO {c : Nat} {a : D} {x y : Str} {p2 : Pos} (ck : Ck T F k n sx W X) (hx : bname k sx x "isinstance" = true) (hs : notStar e = true) (hy : nmB y = true) (hg2 : glB sx.sc y = true) (hc : k.cl.lookup y = some c) (ha : ∀ fr, PE X e (spE T W F fr a)) :
    PE X (.Call (.Name x p) [e, .Name y p2] [] pos) (spE T W F fr (dE (eIsO c a))) := by
  obtain ⟨rfl, hg, hm, hn, hd⟩ := bn_of ck hx
  obtain ⟨k1, k2, k3, k4, k5⟩ := ck.cx.cl y c hc
  have hnm : PE X (.Name y p2) (tC (.ref (T.ca c))) := pe_glob (gl_of ck hg2) k1 rfl (nm_of hy).1
  refine weakE (pe_callB (call_iso (T.ca c)) hg hm boot_isinstance (pa_cons (ha true) (pa_cons hnm pa_nil) (star_no hs _ _)) hn hd (star_no hs _ _) (by rfl)) fun σ H Q ⟨ρ, m, as, rl, rs, g⟩ => ⟨ρ, m, as, rl, rs, ?_⟩
  refine (Good.bind g).imp fun v ρ1 H1 m1 n1 g1 u ru => ?_
  obtain ⟨z, hz, g2⟩ := Good.of n1.rl g1
  obtain ⟨b, hb, rfl⟩ := Option.map_eq_some_iff.mp hz
  have plain : (∀ k, v ≠ .fn k) → (∀ c xs, v ≠ .obj c xs) → b = false → rIso X.K (T.ca c) [u, .ref (T.ca c)] H1 fun v H' => Q v H' := fun f1 f2 hbf => by
    obtain ⟨t, ty, ht⟩ := ty_rep n1.rl ru ⟨f1, f2⟩
    subst hbf
    refine .inl ⟨u, .ref (T.ca c), .type t, .ref (T.ca c), false, rfl, .own _, by rw [ck.hK]; exact ty, k2 t ?_, g2 _ (.bl false)⟩
    rw [ht]
    cases v <;> (simp [tyA]; done)
  cases v with
  | obj d xs =>
    have hb' : (if Nat.beq c d then some true else none) = some b := hb
    by_cases e2 : Nat.beq c d = true
    · rw [if_pos e2] at hb'
      cases hb'
      obtain rfl := Nat.eq_of_beq_eq_true e2
      obtain ⟨a, dx, vs, rfl, hsl, _⟩ := obj_slt ru
      exact .inr ⟨a, _, dx, _, .ref (T.ca c), true, rfl, rfl, (fun w h => h), hsl, k3, k4, k5, g2 _ (.bl true)⟩
    · rw [if_neg e2] at hb'; cases hb'
  | fn j => cases hb
  | _ => cases hb; exact plain (fun _ z => nomatch z) (fun _ _ z => nomatch z) rfl
/-- a def is called, from a built-in that runs here -/
theorem run_in1 {f : Addr} {sp : Sp} {E : L2.St → XK} {pins : List (Addr × Obj)} {σ : L2.St} {H : Hp} {s : Shared} {Q : VK} {us : List Value} {vs : List V} (fa : FnAt X.prog X.w X.K X.mg X.base (L2.CX X.prog X.w) X.A.in1 f sp)
    (hx : PassesAt (L2.CX X.prog X.w) X σ (E σ)) (I : Inv X pins σ H s) (r : Vals vs us) (h : sp vs H Q (E σ)) : wpAny (model X.prog X.w) X.A.in1 (PySem.call (.ref f) us) (EP X pins σ Q) X.xe s := by
  refine wpAny_call (codeAny_mono (fa.run X.stack s H us vs Q (E σ) I.env0.in1 r h) ?_)
  rintro (er | (u | _ | _ | _)) s' hq
  · exact hx pins H s er s' I hq
  all_goals first | exact I.after hq | exact False.elim hq
theorem form_ok {l : List Expr} {env : Env} {cp : Pos} (hl : Nat.blt l.length 20 = true) (hs : notStar e = true) (ha : l.all notStar = true) : methodCallForm ((e :: l).length + ([] : List Keyword).length) (backTo cp (starEach (e :: l) env)) (backToKw cp (keywordEach [] env)) = true := by
  have h1 : (backTo cp (starEach (e :: l) env)).all (fun x => !x.1) = true := by
    rw [star_no hs]
    show ((!false) && (backTo cp (starEach l env)).all (fun x => !x.1)) = true
    have q := bk_ok (env := env) (pos := cp) ha
    rw [Bool.not_false, Bool.true_and, List.all_eq_true]
    intro y hy
    rw [List.any_eq_false] at q
    have := q y hy
    simpa using this
  have h2 := Nat.blt_eq.mp hl
  unfold methodCallForm
  rw [h1]
  show (true && true && decide ((e :: l).length + 0 + 0 < 30)) = true
  rw [List.length_cons]
  simp
  omega
theorem x_meth {c j : Nat} {o es : D} {r : Expr} {l : List Expr} {m : Str} {ap cp : Pos} (ck : Ck T F k n sx W X) (h1 : k.ms.lookup m = some (c, j)) (hl : (ap.endLine == cp.line) = true) (hb : baseB r = true) (hlen : Nat.blt l.length 20 = true) (hs : notStar e = true) (hls : l.all notStar = true)
    (ho : ∀ fr, PE X r (spE T W F fr o)) (ha : PA X (e :: l) (spA T W F es)) : PE X (.Call (.Attribute r m ap) (e :: l) [] cp) (spE T W F fr (dE (eMeth c j o es))) := by
  obtain ⟨g, eg, sc, mt⟩ := ck.cx.ms m c j h1
  have fok := ck.fns j g eg
  have ht : eval (.Call (.Attribute r m ap) (e :: l) [] cp) X.env = (do
      let ov ← eval r X.env
      standAt ap.atName
      let (f, first) ← holding [ov] (getMethod ov m (plainOf r X.env))
      callWith cp f first (backTo cp (starEach (e :: l) X.env)) (backToKw cp (keywordEach [] X.env))) := by
    show (do
      let ov ← attributeBase r m X.env (eval r X.env)
      standAt ap.atName
      methodCall r m ap cp X.env ov ((e :: l).length + ([] : List Keyword).length) (backTo cp (starEach (e :: l) X.env)) (backToKw cp (keywordEach [] X.env))) = _
    rw [base2_ok hb]
    simp only [mcall_line (form_ok hlen hs hls) hl]
  refine ⟨fun pins s σ H Q I ⟨ρ, m0, as, rl, rs, gd⟩ => ?_⟩
  have g1 := Good.bind gd
  refine PySem.W.methodCall_KW (pl := plainOf r X.env) (thn ((ho true).run pins s σ H (fun v H1 => ∃ x ρ1 m1, Rl T ρ1 H1 m1 ∧ RS1 T ρ1 H1 as σ ∧ Rep T ρ1 H1 x v ∧ Good T W σ ρ1 H1 m1 (match x with | .obj d xs => if Nat.beq c d then (es.a F as m1).bind fun vs m2 => callV fr F j (.obj d xs :: vs) m2 else .no | _ => .no) fun a ρ' H' _ => ∀ v, Rep T ρ' H' a v → Q v H') I
    ⟨ρ, m0, as, rl, rs, g1.imp fun x ρ1 H1 m1 n1 g2 v rv => ⟨x, ρ1, m1, n1.rl, rs.mono rl.muts n1.ext, rv, g2⟩⟩) ?_) ht
  rintro u s1 ⟨v, H1, I1, ru, x, ρ1, m1, rl1, rs1, rep, g2⟩
  cases x <;> first | exact g2.elim | skip
  rename_i d xs
  have g3 : Good T W σ ρ1 H1 m1 (if Nat.beq c d then (es.a F as m1).bind fun vs m2 => callV fr F j (.obj d xs :: vs) m2 else .no) _ := g2
  by_cases e2 : Nat.beq c d = true
  · rw [if_pos e2] at g3
    obtain rfl := Nat.eq_of_beq_eq_true e2
    obtain ⟨a, dx, vs, rfl, hsl, rvs⟩ := obj_slt rep
    obtain rfl : u = Value.ref a := ru
    refine SlX.getmethsl_ok I1 hsl sc mt ?_
    refine PySem.W.callWith_K (first := [.ref a]) (h₀ := X.base) I1.ok.mod.kin mt.kp (thn (ha.run cp pins s1 σ H1 (fun ws H2 => spF T F j (.ref a :: ws) H2 Q (WE W σ)) I1 ⟨ρ1, m1, as, rl1, rs1, (Good.bind g3).imp fun ys ρ2 H2 m2 n2 g4 ws rws => call_sp n2.rl (.cons (rep.mono rl1.muts n2.ext) rws) g4⟩) ?_) (star_no hs _ _) (bk_ok hls)
    rintro us s2 ⟨ws, H2, I2, r2, q2⟩
    exact ⟨I2.kIn, run_at (us := .ref a :: us) (vs := .ref a :: ws) (E := WE W) fok (passAt ck.takes σ) I2 (.cons rfl r2) q2⟩
  · rw [if_neg e2] at g3
    exact g3.elim
theorem x_lenO {c j : Nat} {a : D} {x : Str} (ck : Ck T F k n sx W X) (hx : bname k sx x "len" = true) (h1 : k.lm = some (c, j)) (hs : notStar e = true) (ha : ∀ fr, PE X e (spE T W F fr a)) : PE X (.Call (.Name x p) [e] [] pos) (spE T W F fr (dE (eLenO c j a))) := by
  obtain ⟨rfl, hg, hm, hn, hd⟩ := bn_of ck hx
  refine ⟨fun pins s σ H Q I ⟨ρ, m, as, rl, rs, gd⟩ => ?_⟩
  have g1 := Good.bind gd
  refine wpAny_Call_Name_kw (ld_blt I hg hm boot_len ?_ hn hd)
  refine PyProof.Rows.callWith_builtin1 (thn ((pa_cons (ha true) pa_nil (star_no hs _ _)).run pos pins s σ H (fun vs H1 => ∃ v x ρ1 m1, vs = [v] ∧ Rl T ρ1 H1 m1 ∧ Rep T ρ1 H1 x v ∧ Good T W σ ρ1 H1 m1 (match x with
    | .obj d xs => if Nat.beq c d then (callV true F j [.obj d xs] m1).bind fun w m2 => .of (lenI w) m2 else .no
    | v => .op (bi1 true .len v m1)) fun a ρ' H' _ => ∀ v, Rep T ρ' H' a v → Q v H') I ?_) ?_) (star_no hs _ _) (by rfl)
  · exact ⟨ρ, m, as, rl, rs, g1.imp fun x ρ1 H1 m1 n1 g2 v rv => ⟨v, x, ρ1, m1, rfl, n1.rl, rv, g2⟩⟩
  rintro us s1 ⟨vs, H1, I1, r1, v, x, ρ1, m1, rfl, rl1, rep, g2⟩
  have other : ∀ g3 : Good T W σ ρ1 H1 m1 (.op (bi1 true .len x m1)) (fun a ρ' H' _ => ∀ v, Rep T ρ' H' a v → Q v H'), wpAny (model X.prog X.w) X.A (PySem.call (.builtin "len") us) (EP X pins σ Q) X.xe s1 := fun g3 => by
    obtain ⟨z, m2, ez, g4⟩ := Good.op g3
    exact call_bi ck .len rfl pins s1 σ H1 [v] us Q I1 r1 ⟨true, ρ1, m1, [x], z, m2, rl1, .cons rep .nil, ez, fun ρ' H' w nx rw' => g4 ρ' H' nx w rw'⟩
  cases x with
  | obj d xs =>
    have g3 : Good T W σ ρ1 H1 m1 (if Nat.beq c d then (callV true F j [.obj d xs] m1).bind fun w m2 => .of (lenI w) m2 else .no) _ := g2
    by_cases e2 : Nat.beq c d = true
    · rw [if_pos e2] at g3
      obtain rfl := Nat.eq_of_beq_eq_true e2
      obtain ⟨gA, eg, hlen, hfn⟩ := ck.cx.lm c j h1
      have fok := ck.fin j gA eg
      obtain ⟨a, dx, vs, rfl, hsl, rvs⟩ := obj_slt rep
      obtain ⟨u, rfl, ru⟩ := r1.one
      obtain rfl : u = Value.ref a := ru
      obtain ⟨sl, od, _, J, _⟩ := SlX.slt_inst I1 hsl
      obtain ⟨mm, fr'⟩ := I1.fr
      have q : spF T F j [.ref a] H1 (fun w H2 => ∃ i, w = .int i ∧ (0 ≤ i ∧ i < 2 ^ 63) ∧ Q (.int i) H2) (WE W σ) := call_sp rl1 (.cons rep .nil) ((Good.bind g3).imp fun w ρ2 H2 m2 n2 g4 y ry => by
        obtain ⟨z, hz, g5⟩ := Good.of n2.rl g4
        unfold lenI at hz
        cases w <;> first | (cases hz; done) | skip
        rename_i i
        have hz' : (if (decide (0 ≤ i) && decide (i < 2 ^ 63)) = true then some (AV.int i) else none) = some z := hz
        by_cases c2 : (decide (0 ≤ i) && decide (i < 2 ^ 63)) = true
        · rw [if_pos c2] at hz'
          cases hz'
          rw [Bool.and_eq_true] at c2
          cases ry
          exact ⟨i, rfl, ⟨of_decide_eq_true c2.1, of_decide_eq_true c2.2⟩, g5 _ (.int i)⟩
        · rw [if_neg c2] at hz'; cases hz')
      refine PySem.W.len_K fr' I1.ok.mod.kin J hlen hfn (wpAny_mono (run_in1 (us := [.ref a]) (vs := [.ref a]) (E := WE W) fok (passAt ck.takes σ) I1 (.cons rfl .nil) q) (fun w s' z => ?_) fun _ _ y => y)
      obtain ⟨y, H2, I2, ry, i, rfl, hi, hq⟩ := z
      obtain ⟨t, rfl⟩ := (show ∃ t, w = Value.int i t from ry)
      exact ⟨hi, .int i, H2, I2.tok _, ⟨_, rfl⟩, hq⟩
    · rw [if_neg e2] at g3
      exact g3.elim
  | _ => exact other g2
/-! ### len(set(t)), t a tuple of ints -/
def ddI : List Int → List Int
  | [] => []
  | x :: xs => if xs.any fun y => x == y then ddI xs else x :: ddI xs
theorem ddI_len : ∀ l : List Int, (ddI l).length = cntI l
  | [] => rfl
  | x :: xs => by
    have ih := ddI_len xs
    unfold ddI cntI
    by_cases h : (xs.any fun y => x == y) = true
    · rw [if_pos h, if_pos h, ih]
    · rw [if_neg h, if_neg h, List.length_cons, ih]
theorem any_mem {x : Int} {xs : List Int} : (xs.any fun y => x == y) = true ↔ x ∈ xs := by
  rw [List.any_eq_true]
  exact ⟨fun ⟨y, h, e⟩ => by rw [eq_of_beq e]; exact h, fun h => ⟨x, h, beq_self_eq_true x⟩⟩
theorem ddI_mem (z : Int) : ∀ l : List Int, z ∈ ddI l ↔ z ∈ l
  | [] => Iff.rfl
  | x :: xs => by
    have ih := ddI_mem z xs
    unfold ddI
    by_cases h : (xs.any fun y => x == y) = true
    · rw [if_pos h, ih, List.mem_cons]
      exact ⟨.inr, fun q => q.elim (fun e => by rw [e]; exact any_mem.mp h) id⟩
    · rw [if_neg h, List.mem_cons, List.mem_cons, ih]
theorem ddI_nd : ∀ l : List Int, (ddI l).Nodup
  | [] => List.nodup_nil
  | x :: xs => by
    have ih := ddI_nd xs
    unfold ddI
    by_cases h : (xs.any fun y => x == y) = true
    · rw [if_pos h]; exact ih
    · rw [if_neg h]
      exact List.nodup_cons.mpr ⟨fun q => h (any_mem.mpr ((ddI_mem x xs).mp q)), ih⟩
theorem cnt_le : ∀ l : List Int, cntI l ≤ l.length
  | [] => Nat.le_refl _
  | x :: xs => by
    have ih := cnt_le xs
    unfold cntI
    split <;> rw [List.length_cons] <;> omega
theorem setR_cnt {w : World} {h : Heap} {a : Addr} {ns : List Int} {c : Nat} (R : SetR w h a (fun j => decide (j ∈ ns)) c) : c = cntI ns := by
  obtain ⟨o, es, ep, t, h1, h2, h3, h4, h5, h6, h7, h8, h9, _⟩ := R
  have p : (es.toList.map keyOf).Perm (ddI ns) := (List.perm_ext_iff_of_nodup h5 (ddI_nd ns)).mpr fun z => by
    rw [← h6 z, ddI_mem, decide_eq_true_eq]
  have q := p.length_eq
  rw [List.length_map, Array.length_toList, ddI_len] at q
  rw [← h9, q]
theorem boot_set : bootBuiltins ("set" : Str) = some (.type "set") := by first | rfl | kernel_rfl
def rSetI (K : PySem.W.Frag) : List V → Hp → VK → Prop := fun xs H Q => ∃ t ns, xs = [.ref t] ∧ SqT K H t (ns.map V.int) ∧ ns.length < 60 ∧ ∀ p, H p = none → Q (.ref p) (upd H p (.set (fun j => decide (j ∈ ns)) (cntI ns)))
theorem call_setI (hc : X.calm = true) : CallR X (.type "set") (rSetI X.K) := by
  intro pins s σ H xs us Q I r h
  obtain ⟨t, ns, rfl, ht, hl, q⟩ := h
  obtain ⟨u, rfl, ru⟩ := r.one
  obtain rfl : u = Value.ref t := ru
  obtain ⟨its, rv, tp, _⟩ := I.tuple ht
  refine call_set_tupI ns (I.ok.hd hc) tp (by simpa using intsAre_of rv) (by show ns.length + 1 < 4096; omega) fun h' tk c R hcn k => ?_
  have e := setR_cnt R
  subst e
  exact ⟨.ref _, _, I.laid (o := .set (fun j => decide (j ∈ ns)) (cntI ns)) (t' := tk) k (Nat.le_refl _) (R.setOf), rfl, q _ (I.hok.fresh (Nat.le_refl _))⟩
def rLenSet : List V → Hp → VK → Prop := fun xs H Q => ∃ p S c, xs = [.ref p] ∧ H p = some (.set S c) ∧ c < 100 ∧ Q (.int (c : Nat)) H
theorem call_lenSet : CallR X (.builtin "len") rLenSet := by
  intro pins s σ H xs us Q I r h
  obtain ⟨p, S, c, rfl, hp, hc, q⟩ := h
  obtain ⟨u, rfl, ru⟩ := r.one
  obtain rfl : u = Value.ref p := ru
  obtain ⟨o, es, ep, t, h1, h2, h3, _, _, _, h7, h8⟩ := (show s.heap.SetOf (PySem.intKind X.prog X.w) p S c from I.hok p _ hp)
  refine call_len_set h1 h2 h3 h7 (by rw [h8]; omega) ⟨.int _, H, I.tok _, ⟨_, rfl⟩, ?_⟩
  rw [h8]
  exact q
theorem x_lset {a : D} {x y : Str} {p2 q2 : Pos} (ck : Ck T F k n sx W X) (hx : bname k sx x "len" = true) (hy : bname k sx y "set" = true) (hs : notStar e = true) (ha : ∀ fr, PE X e (spE T W F fr a)) :
    PE X (.Call (.Name x p) [.Call (.Name y p2) [e] [] q2] [] pos) (spE T W F fr (dE (eLset a))) := by
  obtain ⟨rfl, hg, hm, hn, hd⟩ := bn_of ck hx
  obtain ⟨rfl, hg2, hm2, hn2, hd2⟩ := bn_of ck hy
  have hin : PE X (.Call (.Name "set" p2) [e] [] q2) _ := pe_callTy (call_setI ck.calm) hg2 hm2 boot_set (pa_cons (ha true) pa_nil (star_no hs _ _)) hn2 hd2 (star_no hs _ _) (by rfl)
  refine weakE (pe_callB call_lenSet hg hm boot_len (pa_cons hin pa_nil) hn hd (by rfl) (by rfl)) fun σ H Q ⟨ρ, m, as, rl, rs, g⟩ => ⟨ρ, m, as, rl, rs, ?_⟩
  refine (Good.bind g).imp fun v ρ1 H1 m1 n1 g1 u ru => ?_
  obtain ⟨z, hz, _⟩ := Good.of n1.rl g1
  have hz0 := hz
  unfold lsetV at hz
  cases v <;> first | (cases hz; done) | skip
  rename_i xs
  cases ho : optM intOf xs with
  | none => simp [ho] at hz
  | some ns =>
    simp only [ho] at hz
    by_cases c : Nat.blt ns.length 60 = true
    · rw [if_pos c] at hz
      cases hz
      have hlt := Nat.blt_eq.mp c
      cases ru with
      | tup h r =>
        have hv := ints_rep r ho
        refine ⟨_, ns, rfl, .inl (.inr ⟨_, by rw [← hv]; exact h.1⟩), hlt, fun p hp => ⟨p, _, _, rfl, upd_same, ?_, ?_⟩⟩
        · have := cnt_le ns
          omega
        · have nx := Nx.add (o := .set (fun j => decide (j ∈ ns)) (cntI ns)) n1.rl hp
          obtain ⟨z2, hz2, g3⟩ := Good.of nx.rl (g1.step nx)
          rw [hz0] at hz2
          cases hz2
          exact g3 _ (.int _)
    · rw [if_neg c] at hz; cases hz
end
end Mi
set_option Elab.async false
set_option linter.all false
set_option maxRecDepth 100000
set_option maxHeartbeats 4000000
/-! Mini: every piece of syntax that checks is sound -/
namespace Mi
open PySem PySem.Spec PyProof.Rows L2
structure Snd (k : Kx) (x : A) : Prop where
  e : ∀ T F n sx W X, Ck T F k n sx W X → ∀ ex, (chk k x).e sx ex = true → ∀ fr, PE X ex (spE T W F fr (den x))
  t : ∀ T F n sx W X, Ck T F k n sx W X → ∀ ex, (chk k x).tt sx ex = true → PT X ex (spT T W F (den x))
  w : ∀ T F n sx W X, Ck T F k n sx W X → ∀ op l p, (chk k x).tt sx (.BoolOp op l p) = true → PW X (.BoolOp op l p) (spT T W F (den x))
  l : ∀ T F n sx W X, Ck T F k n sx W X → ∀ el gs scope pos, (chk k x).e sx (.ListComp el gs scope pos) = true → ∀ fr i y py spos, X.N[i]? = some y → X.env.scope.names.lookup y = some .local →
    swapsWith (.ListComp el gs scope pos) (some (.Name y py)) spos.line X.env = pure true → PS X (.Assign [.Name y py] (.ListComp el gs scope pos) spos) (tAsg (spE T W F fr (den x)) (gName i))
  o : ∀ T F n sx W X, Ck T F k n sx W X → ∀ u, (chk k x).e sx u = true → PO X (some u) (spO T W F (den x))
  a : ∀ T F n sx W X, Ck T F k n sx W X → ∀ es, (chk k x).a sx es = true → PA X es (spA T W F (den x))
  o0 : ∀ T F n sx W X, Ck T F k n sx W X → (chk k x).a sx [] = true → PO X none (spO T W F (den x))
  ts : ∀ T F n sx W X, Ck T F k n sx W X → ∀ es, (chk k x).t sx es = true → PTs X es (spTs T W F (den x))
  tn : ∀ sx, (chk k x).t sx [] = true → ∀ F as m, (den x).t F as m = .ok true m
  i : ∀ T F n sx W X, Ck T F k n sx W X → ∀ tg ex, (chk k x).i sx tg ex = true → PI X tg ex (spI T W F (den x))
  g : ∀ T F n sx W X, Ck T F k n sx W X → ∀ tg, (chk k x).g sx tg = true → PG X tg (spG T (den x) (chk k x).sl)
  gs : ∀ T F n sx W X, Ck T F k n sx W X → ∀ tgs, (chk k x).gs sx tgs = true → PGs X tgs (spGs T (den x) (chk k x).sl)
  gl : ∀ sx tgs, (chk k x).gs sx tgs = true → ∀ xs as as', (den x).gs xs as = some as' → xs.length = tgs.length
  s : ∀ T F n sx W X, Ck T F k n sx W X → PassesOwn (model X.prog X.w) X.A X.env X.xe → ∀ st, (chk k x).s sx st = true → PS X st (spS T W F (den x))
  b : ∀ T F n sx W X, Ck T F k n sx W X → PassesOwn (model X.prog X.w) X.A X.env X.xe → ∀ sts, (chk k x).b sx sts = true → PSs X sts (spB T W F (den x))
section
variable {k : Kx} {x : A}
/-- an expression -/
theorem ofE (he : ∀ T F n sx W X, Ck T F k n sx W X → ∀ ex, (chk k x).e sx ex = true → ∀ fr, PE X ex (spE T W F fr (den x))) (ht : ∀ T F n sx W X, Ck T F k n sx W X → ∀ ex, (chk k x).tt sx ex = true → PT X ex (spT T W F (den x)))
    (hw : ∀ T F n sx W X, Ck T F k n sx W X → ∀ op l p, (chk k x).tt sx (.BoolOp op l p) = true → PW X (.BoolOp op l p) (spT T W F (den x)))
    (hl : ∀ T F n sx W X, Ck T F k n sx W X → ∀ el gs scope pos, (chk k x).e sx (.ListComp el gs scope pos) = true → ∀ fr i y py spos, X.N[i]? = some y → X.env.scope.names.lookup y = some .local →
      swapsWith (.ListComp el gs scope pos) (some (.Name y py)) spos.line X.env = pure true → PS X (.Assign [.Name y py] (.ListComp el gs scope pos) spos) (tAsg (spE T W F fr (den x)) (gName i)))
    (hd : ∃ e, den x = dE e) (fa : ∀ sx es, (chk k x).a sx es = false) (ft : ∀ sx es, (chk k x).t sx es = false) (fi : ∀ sx tg ex, (chk k x).i sx tg ex = false) (fg : ∀ sx tg, (chk k x).g sx tg = false) (fgs : ∀ sx tg, (chk k x).gs sx tg = false)
    (fs : ∀ sx st, (chk k x).s sx st = false) (fb : ∀ sx st, (chk k x).b sx st = false) : Snd k x where
  e := he
  t := ht
  w := hw
  l := hl
  o := fun T F n sx W X ck u h => by
    obtain ⟨e, hd⟩ := hd
    have z := fun fr => he T F n sx W X ck u h fr
    rw [hd] at z ⊢
    exact o_some z
  a := fun T F n sx W X ck es h => by rw [fa] at h; cases h
  o0 := fun T F n sx W X ck h => by rw [fa] at h; cases h
  ts := fun T F n sx W X ck es h => by rw [ft] at h; cases h
  tn := fun sx h => by rw [ft] at h; cases h
  i := fun T F n sx W X ck tg ex h => by rw [fi] at h; cases h
  g := fun T F n sx W X ck tg h => by rw [fg] at h; cases h
  gs := fun T F n sx W X ck tg h => by rw [fgs] at h; cases h
  gl := fun sx tg h => by rw [fgs] at h; cases h
  s := fun T F n sx W X ck hp st h => by rw [fs] at h; cases h
  b := fun T F n sx W X ck hp st h => by rw [fb] at h; cases h
/-- a plain one -/
theorem ofP {f : Sx → Expr → Bool} (hc : chk k x = mkE f) (hd : ∃ e, den x = dE e) (nl : ∀ sx el gs scope pos, f sx (.ListComp el gs scope pos) = false)
    (he : ∀ T F n sx W X, Ck T F k n sx W X → ∀ ex, f sx ex = true → ∀ fr, PE X ex (spE T W F fr (den x))) : Snd k x := by
  refine ofE (fun T F n sx W X ck ex h => he T F n sx W X ck ex (by rw [hc] at h; exact h)) (fun T F n sx W X ck ex h => ?_) (fun T F n sx W X ck op l p h => ?_) (fun T F n sx W X ck el gs scope pos h => ?_) hd
    (fun _ _ => by rw [hc]; rfl) (fun _ _ => by rw [hc]; rfl) (fun _ _ _ => by rw [hc]; rfl) (fun _ _ => by rw [hc]; rfl) (fun _ _ => by rw [hc]; rfl) (fun _ _ => by rw [hc]; rfl) (fun _ _ => by rw [hc]; rfl)
  · rw [hc] at h
    obtain ⟨h1, h2⟩ := Bool.and_eq_true_iff.mp (show (f sx ex && plainT ex) = true from h)
    exact t_plain ck (he T F n sx W X ck ex h1) h2
  · rw [hc] at h
    obtain ⟨h1, h2⟩ := Bool.and_eq_true_iff.mp (show (f sx (.BoolOp op l p) && plainT (.BoolOp op l p)) = true from h)
    cases h2
  · rw [hc] at h
    have h' : f sx (.ListComp el gs scope pos) = true := h
    rw [nl] at h'
    cases h'
theorem snd_var (i : Nat) : Snd k (.var i) := ofP (x := .var i) rfl ⟨_, rfl⟩ (fun _ _ _ _ _ => rfl) fun T F n sx W X ck ex h fr => by
  cases ex <;> first | (cases h; done) | skip
  simp only [Bool.and_eq_true] at h
  exact x_var ck h.1 h.2.1 h.2.2
theorem snd_int (i : Int) : Snd k (.int i) := ofP (x := .int i) rfl ⟨_, rfl⟩ (fun _ _ _ _ _ => rfl) fun T F n sx W X ck ex h fr => by
  cases ex <;> first | (cases h; done) | skip
  rename_i c _ _
  cases c <;> first | (cases h; done) | skip
  have e := eq_of_beq h
  subst e
  exact lit (fun _ _ => .int _) pe_int
theorem snd_bl (i : Bool) : Snd k (.bl i) := ofP (x := .bl i) rfl ⟨_, rfl⟩ (fun _ _ _ _ _ => rfl) fun T F n sx W X ck ex h fr => by
  cases ex <;> first | (cases h; done) | skip
  rename_i c _ _
  cases c <;> first | (cases h; done) | skip
  have e := eq_of_beq h
  subst e
  exact lit (fun _ _ => .bl _) pe_bl
theorem snd_non : Snd k .non := ofP (x := .non) rfl ⟨_, rfl⟩ (fun _ _ _ _ _ => rfl) fun T F n sx W X ck ex h fr => by
  cases ex <;> first | (cases h; done) | skip
  rename_i c _ _
  cases c <;> first | (cases h; done) | skip
  exact lit (fun _ _ => .non) pe_non
theorem snd_str (z : Str) : Snd k (.str z) := ofP (x := .str z) rfl ⟨_, rfl⟩ (fun _ _ _ _ _ => rfl) fun T F n sx W X ck ex h fr => by
  cases ex <;> first | (cases h; done) | skip
  rename_i c _ _
  cases c <;> first | (cases h; done) | skip
  have e := eq_of_beq h
  subst e
  exact lit (fun _ _ => .str _) pe_str
theorem snd_gi (y : Str) (i : Int) : Snd k (.gi y i) := ofP (x := .gi y i) rfl ⟨_, rfl⟩ (fun _ _ _ _ _ => rfl) fun T F n sx W X ck ex h fr => by
  cases ex <;> first | (cases h; done) | skip
  simp only [Bool.and_eq_true, decide_eq_true_eq] at h
  exact x_gi ck h.1 h.2.1.2 h.2.2
theorem snd_gs (y z : Str) : Snd k (.gs y z) := ofP (x := .gs y z) rfl ⟨_, rfl⟩ (fun _ _ _ _ _ => rfl) fun T F n sx W X ck ex h fr => by
  cases ex <;> first | (cases h; done) | skip
  simp only [Bool.and_eq_true, decide_eq_true_eq] at h
  exact x_gs ck h.1 h.2.1.2 h.2.2
theorem snd_dnil : Snd k .dnil := ofP (x := .dnil) rfl ⟨_, rfl⟩ (fun _ _ _ _ _ => rfl) fun T F n sx W X ck ex h fr => by
  cases ex <;> first | (cases h; done) | skip
  rename_i ks vs _
  match ks, vs, h with
  | [], [], _ => exact x_dnil
theorem snd_eNo : Snd k .eNo := ofE (x := .eNo) (fun T F n sx W X ck ex h fr => ⟨fun pins s σ H Q I ⟨ρ, m, as, rl, rs, g⟩ => (show False from g).elim⟩) (fun T F n sx W X ck ex h => ⟨fun pins s σ H Q I ⟨ρ, m, as, rl, rs, g⟩ => (show False from g).elim⟩)
  (fun T F n sx W X ck op l p h => nomatch (show false = true from h)) (fun T F n sx W X ck el gs scope pos h => nomatch (show false = true from h)) ⟨_, rfl⟩ (fun _ _ => rfl) (fun _ _ => rfl) (fun _ _ _ => rfl) (fun _ _ => rfl) (fun _ _ => rfl) (fun _ _ => rfl) (fun _ _ => rfl)
theorem snd_fnm (j : Nat) : Snd k (.fnm j) := ofP (x := .fnm j) rfl ⟨_, rfl⟩ (fun _ _ _ _ _ => rfl) fun T F n sx W X ck ex h fr => by
  cases ex <;> first | (cases h; done) | skip
  simp only [Bool.and_eq_true, decide_eq_true_eq] at h
  exact x_fnm ck h.1 h.2.1 h.2.2
theorem snd_bin (o : Op) {a b : A} (ia : Snd k a) (ib : Snd k b) : Snd k (.bin o a b) := ofP (x := .bin o a b) rfl ⟨_, rfl⟩ (fun _ _ _ _ _ => rfl) fun T F n sx W X ck ex h fr => by
  cases ex <;> first | (cases h; done) | skip
  simp only [Bool.and_eq_true] at h
  rw [opEq_ok h.1.1]
  exact x_bin ck (ia.e T F n sx W X ck _ h.1.2) (ib.e T F n sx W X ck _ h.2)
theorem snd_neg {a : A} (ia : Snd k a) : Snd k (.neg a) := ofP (x := .neg a) rfl ⟨_, rfl⟩ (fun _ _ _ _ _ => rfl) fun T F n sx W X ck ex h fr => by
  cases ex <;> first | (cases h; done) | skip
  rename_i u _ _
  cases u <;> first | (cases h; done) | skip
  exact x_neg (ia.e T F n sx W X ck _ h)
theorem ofC {f : Sx → Expr → Bool} (hc : chk k x = mkC f) (hd : ∃ e, den x = dE e) (nl : ∀ sx el gs scope pos, f sx (.ListComp el gs scope pos) = false) (nb : ∀ sx op l p, f sx (.BoolOp op l p) = false)
    (he : ∀ T F n sx W X, Ck T F k n sx W X → ∀ ex, f sx ex = true → ∀ fr, PE X ex (spE T W F fr (den x))) (ht : ∀ T F n sx W X, Ck T F k n sx W X → ∀ ex, f sx ex = true → PT X ex (spT T W F (den x))) : Snd k x := by
  refine ofE (fun T F n sx W X ck ex h => he T F n sx W X ck ex (by rw [hc] at h; exact h)) (fun T F n sx W X ck ex h => ht T F n sx W X ck ex (by rw [hc] at h; exact h)) (fun T F n sx W X ck op l p h => ?_) (fun T F n sx W X ck el gs scope pos h => ?_) hd
    (fun _ _ => by rw [hc]; rfl) (fun _ _ => by rw [hc]; rfl) (fun _ _ _ => by rw [hc]; rfl) (fun _ _ => by rw [hc]; rfl) (fun _ _ => by rw [hc]; rfl) (fun _ _ => by rw [hc]; rfl) (fun _ _ => by rw [hc]; rfl)
  · rw [hc] at h
    have h' : f sx (.BoolOp op l p) = true := h
    rw [nb] at h'
    cases h'
  · rw [hc] at h
    have h' : f sx (.ListComp el gs scope pos) = true := h
    rw [nl] at h'
    cases h'
theorem snd_cmp (o : Cm) {a b : A} (ia : Snd k a) (ib : Snd k b) : Snd k (.cmp o a b) := by
  refine ofC (x := .cmp o a b) rfl ⟨_, rfl⟩ (fun _ _ _ _ _ => rfl) (fun _ _ _ _ => rfl) (fun T F n sx W X ck ex h fr => ?_) (fun T F n sx W X ck ex h => ?_)
  all_goals
    cases ex <;> first | (cases h; done) | skip
    rename_i l os rs _
    match os, rs, h with
    | [p], [r], h =>
      simp only [Bool.and_eq_true] at h
      rw [cmEq_ok h.1.1.1]
      first
        | exact x_cmp ck (ia.e T F n sx W X ck _ h.1.2) (ib.e T F n sx W X ck _ h.2) h.1.1.2
        | exact t_cmp ck (ia.e T F n sx W X ck _ h.1.2) (ib.e T F n sx W X ck _ h.2) h.1.1.2
theorem snd_chn (o o' : Cm) {a b c : A} (ia : Snd k a) (ib : Snd k b) (ic : Snd k c) : Snd k (.chn o o' a b c) := by
  refine ofC (x := .chn o o' a b c) rfl ⟨_, rfl⟩ (fun _ _ _ _ _ => rfl) (fun _ _ _ _ => rfl) (fun T F n sx W X ck ex h fr => ?_) (fun T F n sx W X ck ex h => ?_)
  all_goals
    cases ex <;> first | (cases h; done) | skip
    rename_i l os rs _
    match os, rs, h with
    | [p, p'], [r, r'], h =>
      simp only [Bool.and_eq_true] at h
      rw [cmEq_ok h.1.1.1.1.1, cmEq_ok h.1.1.1.1.2]
      first
        | exact x_chn ck (ia.e T F n sx W X ck _ h.1.1.2) (ib.e T F n sx W X ck _ h.1.2) (ic.e T F n sx W X ck _ h.2) h.1.1.1.2
        | exact t_chn ck (ia.e T F n sx W X ck _ h.1.1.2) (ib.e T F n sx W X ck _ h.1.2) (ic.e T F n sx W X ck _ h.2) h.1.1.1.2
theorem snd_and {a b : A} (ia : Snd k a) (ib : Snd k b) : Snd k (.and a b) := by
  have w : ∀ T F n sx W X, Ck T F k n sx W X → ∀ op l p, (chk k (.and a b)).tt sx (.BoolOp op l p) = true → PW X (.BoolOp op l p) (spT T W F (den (.and a b))) := fun T F n sx W X ck op l p h => by
    cases op <;> first | (cases h; done) | skip
    match l, h with
    | l :: r :: rest, h =>
      obtain ⟨h1, h2⟩ := Bool.and_eq_true_iff.mp (show ((chk k a).tt sx l && (chk k b).tt sx (.BoolOp .And (r :: rest) p)) = true from h)
      exact w_and (ia.t T F n sx W X ck _ h1) (ib.w T F n sx W X ck _ _ _ h2)
  refine ofE (x := .and a b) (fun T F n sx W X ck ex h fr => ?_) (fun T F n sx W X ck ex h => ?_) w (fun T F n sx W X ck el gs scope pos h => by cases h) ⟨_, rfl⟩ (fun _ _ => rfl) (fun _ _ => rfl) (fun _ _ _ => rfl) (fun _ _ => rfl) (fun _ _ => rfl) (fun _ _ => rfl) (fun _ _ => rfl)
  · cases ex <;> first | (cases h; done) | skip
    rename_i op l p
    cases op <;> first | (cases h; done) | skip
    match l, h with
    | l :: r :: rest, h =>
      obtain ⟨h1, h2⟩ := Bool.and_eq_true_iff.mp (show ((chk k a).e sx l && (chk k b).e sx (.BoolOp .And (r :: rest) p)) = true from h)
      exact x_and (ia.e T F n sx W X ck _ h1) (ib.e T F n sx W X ck _ h2)
  · cases ex <;> first | (cases h; done) | skip
    exact (w T F n sx W X ck _ _ _ h).pt
theorem snd_or {a b : A} (ia : Snd k a) (ib : Snd k b) : Snd k (.or a b) := by
  have w : ∀ T F n sx W X, Ck T F k n sx W X → ∀ op l p, (chk k (.or a b)).tt sx (.BoolOp op l p) = true → PW X (.BoolOp op l p) (spT T W F (den (.or a b))) := fun T F n sx W X ck op l p h => by
    cases op <;> first | (cases h; done) | skip
    match l, h with
    | l :: r :: rest, h =>
      obtain ⟨h1, h2⟩ := Bool.and_eq_true_iff.mp (show ((chk k a).tt sx l && (chk k b).tt sx (.BoolOp .Or (r :: rest) p)) = true from h)
      exact w_or (ia.t T F n sx W X ck _ h1) (ib.w T F n sx W X ck _ _ _ h2)
  refine ofE (x := .or a b) (fun T F n sx W X ck ex h fr => ?_) (fun T F n sx W X ck ex h => ?_) w (fun T F n sx W X ck el gs scope pos h => by cases h) ⟨_, rfl⟩ (fun _ _ => rfl) (fun _ _ => rfl) (fun _ _ _ => rfl) (fun _ _ => rfl) (fun _ _ => rfl) (fun _ _ => rfl) (fun _ _ => rfl)
  · cases ex <;> first | (cases h; done) | skip
    rename_i op l p
    cases op <;> first | (cases h; done) | skip
    match l, h with
    | l :: r :: rest, h =>
      obtain ⟨h1, h2⟩ := Bool.and_eq_true_iff.mp (show ((chk k a).e sx l && (chk k b).e sx (.BoolOp .Or (r :: rest) p)) = true from h)
      exact x_or (ia.e T F n sx W X ck _ h1) (ib.e T F n sx W X ck _ h2)
  · cases ex <;> first | (cases h; done) | skip
    exact (w T F n sx W X ck _ _ _ h).pt
theorem snd_not {a : A} (ia : Snd k a) : Snd k (.not a) := by
  refine ofE (x := .not a) (fun T F n sx W X ck ex h fr => ?_) (fun T F n sx W X ck ex h => ?_) (fun T F n sx W X ck op l p h => by cases h) (fun T F n sx W X ck el gs scope pos h => by cases h) ⟨_, rfl⟩ (fun _ _ => rfl) (fun _ _ => rfl) (fun _ _ _ => rfl) (fun _ _ => rfl) (fun _ _ => rfl) (fun _ _ => rfl) (fun _ _ => rfl)
  · cases ex <;> first | (cases h; done) | skip
    rename_i u _ _
    cases u <;> first | (cases h; done) | skip
    exact x_not (ia.e T F n sx W X ck _ h)
  · cases ex <;> first | (cases h; done) | skip
    rename_i u _ _
    cases u <;> first | (cases h; done) | skip
    exact t_not (ia.t T F n sx W X ck _ h)
theorem snd_ite {c a b : A} (ic : Snd k c) (ia : Snd k a) (ib : Snd k b) : Snd k (.ite c a b) := by
  refine ofE (x := .ite c a b) (fun T F n sx W X ck ex h fr => ?_) (fun T F n sx W X ck ex h => by cases h) (fun T F n sx W X ck op l p h => by cases h) (fun T F n sx W X ck el gs scope pos h => by cases h) ⟨_, rfl⟩ (fun _ _ => rfl) (fun _ _ => rfl) (fun _ _ _ => rfl) (fun _ _ => rfl) (fun _ _ => rfl) (fun _ _ => rfl) (fun _ _ => rfl)
  cases ex <;> first | (cases h; done) | skip
  rename_i t l r _
  have h' : ((chk k c).tt sx t && (chk k a).e sx l && (chk k b).e sx r) = true := h
  simp only [Bool.and_eq_true] at h'
  exact x_ite (ic.t T F n sx W X ck _ h'.1.1) (ia.e T F n sx W X ck _ h'.1.2) (ib.e T F n sx W X ck _ h'.2)
theorem snd_tup {es : A} (ie : Snd k es) : Snd k (.tup es) := ofP (x := .tup es) rfl ⟨_, rfl⟩ (fun _ _ _ _ _ => rfl) fun T F n sx W X ck ex h fr => by
  cases ex <;> first | (cases h; done) | skip
  exact x_tup (ie.a T F n sx W X ck _ h)
theorem snd_lst {es : A} (ie : Snd k es) : Snd k (.lst es) := ofP (x := .lst es) rfl ⟨_, rfl⟩ (fun _ _ _ _ _ => rfl) fun T F n sx W X ck ex h fr => by
  cases ex <;> first | (cases h; done) | skip
  exact x_lst (ie.a T F n sx W X ck _ h)
theorem snd_one {a : A} (ia : Snd k a) : Snd k (.one a) := by
  have w : ∀ T F n sx W X, Ck T F k n sx W X → ∀ op l p, (chk k (.one a)).tt sx (.BoolOp op l p) = true → PW X (.BoolOp op l p) (spT T W F (den (.one a))) := fun T F n sx W X ck op l p h => by
    match l, h with
    | [l], h => exact w_one (ia.t T F n sx W X ck _ h)
  refine ofE (x := .one a) (fun T F n sx W X ck ex h fr => ?_) (fun T F n sx W X ck ex h => ?_) w (fun T F n sx W X ck el gs scope pos h => by cases h) ⟨_, rfl⟩ (fun _ _ => rfl) (fun _ _ => rfl) (fun _ _ _ => rfl) (fun _ _ => rfl) (fun _ _ => rfl) (fun _ _ => rfl) (fun _ _ => rfl)
  · cases ex <;> first | (cases h; done) | skip
    rename_i op l p
    match l, h with
    | [l], h =>
      have z := ia.e T F n sx W X ck _ h fr
      exact ⟨fun pins s σ H Q I q => by
        have e : eval (.BoolOp op [l] p) X.env = eval l X.env := by
          cases op <;> rfl
        rw [e]
        exact z.run pins s σ H Q I q⟩
  · cases ex <;> first | (cases h; done) | skip
    exact (w T F n sx W X ck _ _ _ h).pt
theorem snd_fz {a : A} (ia : Snd k a) : Snd k (.fz a) := by
  have e : ∀ T F n sx W X, Ck T F k n sx W X → ∀ ex, (chk k a).e sx ex = true → ∀ fr, PE X ex (spE T W F fr (dE fun _ => (den a).e true)) := fun T F n sx W X ck ex h fr => weakE (ia.e T F n sx W X ck ex h true) fun σ H Q z => z
  exact ofE (x := .fz a) e (fun T F n sx W X ck ex h => ia.t T F n sx W X ck ex h) (fun T F n sx W X ck op l p h => ia.w T F n sx W X ck op l p h) (fun T F n sx W X ck el gs scope pos h fr i y py spos h1 h2 h3 => by
    have z := ia.l T F n sx W X ck el gs scope pos h true i y py spos h1 h2 h3
    exact ⟨fun pins s σ H D I q => z.run pins s σ H D I q⟩) ⟨_, rfl⟩ (fun _ _ => rfl) (fun _ _ => rfl) (fun _ _ _ => rfl) (fun _ _ => rfl) (fun _ _ => rfl) (fun _ _ => rfl) (fun _ _ => rfl)
theorem snd_idx {a b : A} (ia : Snd k a) (ib : Snd k b) : Snd k (.idx a b) := ofP (x := .idx a b) rfl ⟨_, rfl⟩ (fun _ _ _ _ _ => rfl) fun T F n sx W X ck ex h fr => by
  cases ex <;> first | (cases h; done) | skip
  simp only [Bool.and_eq_true] at h
  exact x_idx ck h.1.1 (ia.e T F n sx W X ck _ h.1.2) (ib.e T F n sx W X ck _ h.2)
theorem snd_call (j : Nat) {es : A} (ie : Snd k es) : Snd k (.call j es) := ofP (x := .call j es) rfl ⟨_, rfl⟩ (fun _ _ _ _ _ => rfl) fun T F n sx W X ck ex h fr => by
  cases ex <;> first | (cases h; done) | skip
  rename_i f args kw _
  cases f <;> first | (cases h; done) | skip
  match args, kw, h with
  | e :: args, [], h =>
    simp only [Bool.and_eq_true, decide_eq_true_eq] at h
    exact x_call ck h.1.1.1.1.1 h.1.1.1.1.2 h.1.1.1.2 h.1.1.2 h.1.2 (ie.a T F n sx W X ck _ h.2)
theorem snd_calv (i : Nat) {es : A} (ie : Snd k es) : Snd k (.calv i es) := ofP (x := .calv i es) rfl ⟨_, rfl⟩ (fun _ _ _ _ _ => rfl) fun T F n sx W X ck ex h fr => by
  cases ex <;> first | (cases h; done) | skip
  rename_i f args kw _
  cases f <;> first | (cases h; done) | skip
  match args, kw, h with
  | e :: args, [], h =>
    simp only [Bool.and_eq_true] at h
    exact x_calv ck h.1.1.1.1.1 h.1.1.1.1.2 h.1.1.1.2 h.1.1.2 h.1.2 (ie.a T F n sx W X ck _ h.2)
theorem snd_bi (b : BI) {es : A} (ie : Snd k es) : Snd k (.bi b es) := ofP (x := .bi b es) rfl ⟨_, rfl⟩ (fun _ _ _ _ _ => rfl) fun T F n sx W X ck ex h fr => by
  cases ex <;> first | (cases h; done) | skip
  rename_i f args kw _
  cases f <;> first | (cases h; done) | skip
  match args, kw, h with
  | e :: args, [], h =>
    simp only [Bool.and_eq_true, Option.isNone_iff_eq_none] at h
    exact x_bi ck h.1.1.1.2 h.1.1.1.1 h.1.1.2 h.1.2 (ie.a T F n sx W X ck _ h.2)
theorem snd_isi (b : BI) {a : A} (ia : Snd k a) : Snd k (.isi b a) := ofP (x := .isi b a) rfl ⟨_, rfl⟩ (fun _ _ _ _ _ => rfl) fun T F n sx W X ck ex h fr => by
  cases ex <;> first | (cases h; done) | skip
  rename_i f args kw _
  cases f <;> first | (cases h; done) | skip
  match args, kw, h with
  | [e, y], [], h =>
    cases y <;> first | (cases h; done) | skip
    simp only [Bool.and_eq_true] at h
    cases hb : isTy b with
    | none => rw [hb] at h; cases h.2
    | some ty =>
      rw [hb] at h
      exact x_isi ck hb h.1.1.1 h.2 h.1.1.2 (ia.e T F n sx W X ck _ h.1.2)
  | [_, y], _ :: _, h => cases y <;> cases h
  | _ :: y :: _ :: _, _, h => cases y <;> cases h
theorem snd_bir1 (b : BI) {a : A} (ia : Snd k a) : Snd k (.bir1 b a) := ofP (x := .bir1 b a) rfl ⟨_, rfl⟩ (fun _ _ _ _ _ => rfl) fun T F n sx W X ck ex h fr => by
  cases ex <;> first | (cases h; done) | skip
  rename_i f args kw _
  cases f <;> first | (cases h; done) | skip
  match args, kw, h with
  | [y], [], h =>
    cases y <;> first | (cases h; done) | skip
    rename_i f2 args2 kw2 _
    cases f2 <;> first | (cases h; done) | skip
    match args2, kw2, h with
    | [l], [], h =>
      simp only [Bool.and_eq_true] at h
      exact x_bir1 ck h.1.1.1 h.1.1.2 h.1.2 (ia.e T F n sx W X ck _ h.2)
  | [y], _ :: _, h =>
    cases y <;> first | (cases h; done) | skip
    rename_i f2 args2 kw2 _
    cases f2 <;> first | (cases h; done) | skip
    cases args2 <;> first | (cases h; done) | skip
    rename_i args3
    cases args3 <;> cases kw2 <;> cases h
  | y :: _ :: _, _, h =>
    cases y <;> first | (cases h; done) | skip
    rename_i f2 args2 kw2 _
    cases f2 <;> first | (cases h; done) | skip
    cases args2 <;> first | (cases h; done) | skip
    rename_i args3
    cases args3 <;> cases kw2 <;> cases h
theorem snd_bir2 (b : BI) {a c : A} (ia : Snd k a) (ic : Snd k c) : Snd k (.bir2 b a c) := ofP (x := .bir2 b a c) rfl ⟨_, rfl⟩ (fun _ _ _ _ _ => rfl) fun T F n sx W X ck ex h fr => by
  cases ex <;> first | (cases h; done) | skip
  rename_i f args kw _
  cases f <;> first | (cases h; done) | skip
  match args, kw, h with
  | [y], [], h =>
    cases y <;> first | (cases h; done) | skip
    rename_i f2 args2 kw2 _
    cases f2 <;> first | (cases h; done) | skip
    match args2, kw2, h with
    | [l, r], [], h =>
      simp only [Bool.and_eq_true] at h
      exact x_bir2 ck h.1.1.1.1.1 h.1.1.1.1.2 h.1.1.1.2 h.1.1.2 (ia.e T F n sx W X ck _ h.1.2) (ic.e T F n sx W X ck _ h.2)
  | [y], _ :: _, h =>
    cases y <;> first | (cases h; done) | skip
    rename_i f2 args2 kw2 _
    cases f2 <;> first | (cases h; done) | skip
    cases args2 <;> first | (cases h; done) | skip
    rename_i args3
    cases args3 <;> first | (cases h; done) | skip
    rename_i args4
    cases args4 <;> cases kw2 <;> cases h
  | y :: _ :: _, _, h =>
    cases y <;> first | (cases h; done) | skip
    rename_i f2 args2 kw2 _
    cases f2 <;> first | (cases h; done) | skip
    cases args2 <;> first | (cases h; done) | skip
    rename_i args3
    cases args3 <;> first | (cases h; done) | skip
    rename_i args4
    cases args4 <;> cases kw2 <;> cases h
end
end Mi
set_option Elab.async false
set_option linter.all false
set_option maxRecDepth 100000
set_option maxHeartbeats 4000000
/-! Mini: every piece of syntax that checks is sound: the rest -/
namespace Mi
open PySem PySem.Spec PyProof.Rows L2
section
variable {k : Kx} {x : A}
theorem met_inv {name : Str} {o : Ch} {args : Sx → List Expr → Bool} {sx : Sx} {ex : Expr} {f : Sx → Expr → Bool} (hc : cMet name o args = mkE f) (h : f sx ex = true) :
    ∃ r p es q, ex = .Call (.Attribute r name p) es [] q ∧ recvB r = true ∧ (p.endLine == q.line) = true ∧ o.e sx r = true ∧ args sx es = true := by
  have hf : f = (fun sx ex => match ex with
    | .Call (.Attribute r m p) es [] q => m == name && recvB r && (p.endLine == q.line) && o.e sx r && args sx es
    | _ => false) := (congrArg Ch.e hc).symm
  subst hf
  cases ex <;> first | (cases h; done) | skip
  rename_i fn es kw q
  cases fn <;> first | (cases h; done) | skip
  rename_i r m p
  match kw, h with
  | [], h =>
    simp only [Bool.and_eq_true] at h
    have e := eq_of_beq h.1.1.1.1
    subst e
    exact ⟨r, p, es, q, rfl, h.1.1.1.2, h.1.1.2, h.1.2, h.2⟩
theorem one_inv {a : Ch} {sx : Sx} {es : List Expr} (h : one1 a sx es = true) : ∃ e, es = [e] ∧ notStar e = true ∧ a.e sx e = true := by
  match es, h with
  | [e], h =>
    obtain ⟨h1, h2⟩ := Bool.and_eq_true_iff.mp (show (notStar e && a.e sx e) = true from h)
    exact ⟨e, rfl, h1, h2⟩
theorem snd_app {o a : A} (io : Snd k o) (ia : Snd k a) : Snd k (.app o a) := ofP (x := .app o a) rfl ⟨_, rfl⟩ (fun _ _ _ _ _ => rfl) fun T F n sx W X ck ex h fr => by
  obtain ⟨r, p, es, q, rfl, h1, h2, h3, h4⟩ := met_inv (name := "append") (o := chk k o) (args := one1 (chk k a)) rfl h
  obtain ⟨e, rfl, h5, h6⟩ := one_inv h4
  exact x_app h1 h2 h5 (io.e T F n sx W X ck _ h3) (ia.e T F n sx W X ck _ h6)
theorem snd_extend {o a : A} (io : Snd k o) (ia : Snd k a) : Snd k (.extend o a) := ofP (x := .extend o a) rfl ⟨_, rfl⟩ (fun _ _ _ _ _ => rfl) fun T F n sx W X ck ex h fr => by
  obtain ⟨r, p, es, q, rfl, h1, h2, h3, h4⟩ := met_inv (name := "extend") (o := chk k o) (args := one1 (chk k a)) rfl h
  obtain ⟨e, rfl, h5, h6⟩ := one_inv h4
  exact x_ext h1 h2 h5 (io.e T F n sx W X ck _ h3) (ia.e T F n sx W X ck _ h6)
theorem snd_popA {o a : A} (io : Snd k o) (ia : Snd k a) : Snd k (.popA o a) := ofP (x := .popA o a) rfl ⟨_, rfl⟩ (fun _ _ _ _ _ => rfl) fun T F n sx W X ck ex h fr => by
  obtain ⟨r, p, es, q, rfl, h1, h2, h3, h4⟩ := met_inv (name := "pop") (o := chk k o) (args := one1 (chk k a)) rfl h
  obtain ⟨e, rfl, h5, h6⟩ := one_inv h4
  exact x_popA h1 h2 h5 (io.e T F n sx W X ck _ h3) (ia.e T F n sx W X ck _ h6)
theorem snd_index {o a : A} (io : Snd k o) (ia : Snd k a) : Snd k (.index o a) := ofP (x := .index o a) rfl ⟨_, rfl⟩ (fun _ _ _ _ _ => rfl) fun T F n sx W X ck ex h fr => by
  obtain ⟨r, p, es, q, rfl, h1, h2, h3, h4⟩ := met_inv (name := "index") (o := chk k o) (args := one1 (chk k a)) rfl h
  obtain ⟨e, rfl, h5, h6⟩ := one_inv h4
  exact x_index ck h1 h2 h5 (io.e T F n sx W X ck _ h3) (ia.e T F n sx W X ck _ h6)
theorem snd_popL {o : A} (io : Snd k o) : Snd k (.popL o) := ofP (x := .popL o) rfl ⟨_, rfl⟩ (fun _ _ _ _ _ => rfl) fun T F n sx W X ck ex h fr => by
  obtain ⟨r, p, es, q, rfl, h1, h2, h3, h4⟩ := met_inv (name := "pop") (o := chk k o) (args := fun _ es => match es with | [] => true | _ => false) rfl h
  match es, h4 with
  | [], _ => exact x_popL h1 h2 (io.e T F n sx W X ck _ h3)
theorem snd_slc {a lo hi : A} (ia : Snd k a) (il : Snd k lo) (ih : Snd k hi) : Snd k (.slc a lo hi) := ofP (x := .slc a lo hi) rfl ⟨_, rfl⟩ (fun _ _ _ _ _ => rfl) fun T F n sx W X ck ex h fr => by
  cases ex <;> first | (cases h; done) | skip
  rename_i l sl pos
  cases sl <;> first | (cases h; done) | skip
  rename_i u v st p
  cases st <;> first | (cases h; done) | skip
  cases u with
  | none =>
    cases v with
    | none =>
      simp only [Bool.and_eq_true] at h
      exact x_slc ck (ia.e T F n sx W X ck _ h.1.1) (il.o0 T F n sx W X ck h.1.2) (ih.o0 T F n sx W X ck h.2)
    | some v =>
      simp only [Bool.and_eq_true] at h
      exact x_slc ck (ia.e T F n sx W X ck _ h.1.1) (il.o0 T F n sx W X ck h.1.2) (ih.o T F n sx W X ck v h.2)
  | some u =>
    cases v with
    | none =>
      simp only [Bool.and_eq_true] at h
      exact x_slc ck (ia.e T F n sx W X ck _ h.1.1) (il.o T F n sx W X ck u h.1.2) (ih.o0 T F n sx W X ck h.2)
    | some v =>
      simp only [Bool.and_eq_true] at h
      exact x_slc ck (ia.e T F n sx W X ck _ h.1.1) (il.o T F n sx W X ck u h.1.2) (ih.o T F n sx W X ck v h.2)
theorem lc_inv {vs : List Nat} {tg it ifs elt : A} {sx : Sx} {el : Expr} {gs : List Comprehension} {scope : Scope} {p : Pos} (h : (chk k (.lc vs tg it ifs elt)).e sx (.ListComp el gs scope p) = true) :
    ∃ g i fs, gs = [⟨g, i, fs, 0⟩] ∧ blkC k.N sx.sc scope (ownOf k.N vs) = true ∧ notSet i = true ∧ (chk k it).i sx g i = true ∧ (chk k tg).g (blkSx sx scope) g = true ∧ subN (chk k tg).sl vs = true ∧ (chk k ifs).t (blkSx sx scope) fs = true ∧ (chk k elt).e (blkSx sx scope) el = true := by
  match gs, h with
  | [⟨g, i, fs, 0⟩], h =>
    have h' : (blkC k.N sx.sc scope (ownOf k.N vs) && notSet i && (chk k it).i sx g i && (chk k tg).g (blkSx sx scope) g && subN (chk k tg).sl vs && (chk k ifs).t (blkSx sx scope) fs && (chk k elt).e (blkSx sx scope) el) = true := h
    simp only [Bool.and_eq_true] at h'
    exact ⟨g, i, fs, rfl, h'.1.1.1.1.1.1, h'.1.1.1.1.1.2, h'.1.1.1.1.2, h'.1.1.1.2, h'.1.1.2, h'.1.2, h'.2⟩
theorem snd_lc (vs : List Nat) {tg it ifs elt : A} (ig : Snd k tg) (ii : Snd k it) (iF : Snd k ifs) (ie : Snd k elt) : Snd k (.lc vs tg it ifs elt) := by
  refine ofE (x := .lc vs tg it ifs elt) (fun T F n sx W X ck ex h fr => ?_) (fun T F n sx W X ck ex h => ?_) (fun T F n sx W X ck op l p h => by cases h) (fun T F n sx W X ck el gs scope pos h fr i y py spos h1 h2 h3 => ?_) ⟨_, rfl⟩ (fun _ _ => rfl) (fun _ _ => rfl) (fun _ _ _ => rfl) (fun _ _ => rfl) (fun _ _ => rfl) (fun _ _ => rfl) (fun _ _ => rfl)
  · cases ex <;> first | (cases h; done) | skip
    obtain ⟨g, i, fs, rfl, k1, k2, k3, k4, k5, k6, k7⟩ := lc_inv h
    exact x_lc ck k1 k2 k5 (ii.i T F n sx W X ck _ _ k3) (fun s H C cl fp => ig.g T F n _ _ _ (ck.blk _ s H C cl fp) _ k4) (fun fb s H C cl fp => iF.ts (T.wb fb) F n _ _ _ ((ck.wb fb).blk _ s H C cl fp) _ k6) (fun fb s H C cl fp => ie.e (T.wb fb) F n _ _ _ ((ck.wb fb).blk _ s H C cl fp) _ k7 true)
  · obtain ⟨h1, h2⟩ := Bool.and_eq_true_iff.mp (show ((chk k (.lc vs tg it ifs elt)).e sx ex && plainT ex) = true from h)
    refine t_plain ck (fun fr => ?_) h2
    cases ex <;> first | (cases h1; done) | skip
    obtain ⟨g, i, fs, rfl, k1, k2, k3, k4, k5, k6, k7⟩ := lc_inv h1
    exact x_lc ck k1 k2 k5 (ii.i T F n sx W X ck _ _ k3) (fun s H C cl fp => ig.g T F n _ _ _ (ck.blk _ s H C cl fp) _ k4) (fun fb s H C cl fp => iF.ts (T.wb fb) F n _ _ _ ((ck.wb fb).blk _ s H C cl fp) _ k6) (fun fb s H C cl fp => ie.e (T.wb fb) F n _ _ _ ((ck.wb fb).blk _ s H C cl fp) _ k7 true)
  · obtain ⟨g, i', fs, rfl, k1, k2, k3, k4, k5, k6, k7⟩ := lc_inv h
    exact s_lc ck h1 h2 h3 k1 k2 k5 (ii.i T F n sx W X ck _ _ k3) (fun s H C cl fp => ig.g T F n _ _ _ (ck.blk _ s H C cl fp) _ k4) (fun fb s H C cl fp => iF.ts (T.wb fb) F n _ _ _ ((ck.wb fb).blk _ s H C cl fp) _ k6) (fun fb s H C cl fp => ie.e (T.wb fb) F n _ _ _ ((ck.wb fb).blk _ s H C cl fp) _ k7 true)
theorem lc2_inv {vs vs1 : List Nat} {tg it ifs tg1 it1 ifs1 elt : A} {sx : Sx} {el : Expr} {gs : List Comprehension} {scope : Scope} {p : Pos} (h : (chk k (.lc2 vs vs1 tg it ifs tg1 it1 ifs1 elt)).e sx (.ListComp el gs scope p) = true) :
    ∃ g i fs g1 i1 fs1, gs = [⟨g, i, fs, 0⟩, ⟨g1, i1, fs1, 0⟩] ∧ blkC k.N sx.sc scope (ownOf k.N vs) = true ∧ subN vs1 vs = true ∧ notSet i = true ∧ notSet i1 = true ∧ (chk k it).i sx g i = true ∧ (chk k tg).g (blkSx sx scope) g = true ∧ subN (chk k tg).sl vs = true ∧ (chk k ifs).t (blkSx sx scope) fs = true ∧
      (chk k it1).i (blkSx sx scope) g1 i1 = true ∧ (chk k tg1).g (blkSx sx scope) g1 = true ∧ subN (chk k tg1).sl vs1 = true ∧ (chk k ifs1).t (blkSx sx scope) fs1 = true ∧ (chk k elt).e (blkSx sx scope) el = true := by
  match gs, h with
  | [⟨g, i, fs, 0⟩, ⟨g1, i1, fs1, 0⟩], h =>
    have h' : (blkC k.N sx.sc scope (ownOf k.N vs) && subN vs1 vs && notSet i && notSet i1 && (chk k it).i sx g i && (chk k tg).g (blkSx sx scope) g && subN (chk k tg).sl vs && (chk k ifs).t (blkSx sx scope) fs
        && (chk k it1).i (blkSx sx scope) g1 i1 && (chk k tg1).g (blkSx sx scope) g1 && subN (chk k tg1).sl vs1 && (chk k ifs1).t (blkSx sx scope) fs1 && (chk k elt).e (blkSx sx scope) el) = true := h
    simp only [Bool.and_eq_true] at h'
    obtain ⟨⟨⟨⟨⟨⟨⟨⟨⟨⟨⟨⟨a1, a2⟩, a3⟩, a4⟩, a5⟩, a6⟩, a7⟩, a8⟩, a9⟩, a10⟩, a11⟩, a12⟩, a13⟩ := h'
    exact ⟨g, i, fs, g1, i1, fs1, rfl, a1, a2, a3, a4, a5, a6, a7, a8, a9, a10, a11, a12, a13⟩
theorem snd_lc2 (vs vs1 : List Nat) {tg it ifs tg1 it1 ifs1 elt : A} (ig : Snd k tg) (ii : Snd k it) (iF : Snd k ifs) (ig1 : Snd k tg1) (ii1 : Snd k it1) (iF1 : Snd k ifs1) (ie : Snd k elt) : Snd k (.lc2 vs vs1 tg it ifs tg1 it1 ifs1 elt) := by
  have main : ∀ T F n sx W X, Ck T F k n sx W X → ∀ ex, (chk k (.lc2 vs vs1 tg it ifs tg1 it1 ifs1 elt)).e sx ex = true → ∀ fr, PE X ex (spE T W F fr (den (.lc2 vs vs1 tg it ifs tg1 it1 ifs1 elt))) := fun T F n sx W X ck ex h fr => by
    cases ex <;> first | (cases h; done) | skip
    obtain ⟨g, i, fs, g1, i1, fs1, rfl, a1, a2, a3, a4, a5, a6, a7, a8, a9, a10, a11, a12, a13⟩ := lc2_inv h
    exact x_lc2 ck a1 a2 a3 a4 a7 a11 (ii.i T F n sx W X ck _ _ a5) (fun s H C cl fp => ig.g T F n _ _ _ (ck.blk _ s H C cl fp) _ a6) (fun fb s H C cl fp => iF.ts (T.wb fb) F n _ _ _ ((ck.wb fb).blk _ s H C cl fp) _ a8)
      (fun fb s H C cl fp => ii1.i (T.wb fb) F n _ _ _ ((ck.wb fb).blk _ s H C cl fp) _ _ a9) (fun s H C cl fp => ig1.g T F n _ _ _ (ck.blk _ s H C cl fp) _ a10) (fun fb s H C cl fp => iF1.ts (T.wb fb) F n _ _ _ ((ck.wb fb).blk _ s H C cl fp) _ a12) (fun fb s H C cl fp => ie.e (T.wb fb) F n _ _ _ ((ck.wb fb).blk _ s H C cl fp) _ a13 true)
  refine ofE (x := .lc2 vs vs1 tg it ifs tg1 it1 ifs1 elt) main (fun T F n sx W X ck ex h => ?_) (fun T F n sx W X ck op l p h => by cases h) (fun T F n sx W X ck el gs scope pos h fr i y py spos h1 h2 h3 => ?_) ⟨_, rfl⟩ (fun _ _ => rfl) (fun _ _ => rfl) (fun _ _ _ => rfl) (fun _ _ => rfl) (fun _ _ => rfl) (fun _ _ => rfl) (fun _ _ => rfl)
  · obtain ⟨h1, h2⟩ := Bool.and_eq_true_iff.mp (show ((chk k (.lc2 vs vs1 tg it ifs tg1 it1 ifs1 elt)).e sx ex && plainT ex) = true from h)
    exact t_plain ck (main T F n sx W X ck ex h1) h2
  · obtain ⟨g, i, fs, g1, i1, fs1, rfl, a1, a2, a3, a4, a5, a6, a7, a8, a9, a10, a11, a12, a13⟩ := lc2_inv h
    exact s_lc2 ck h1 h2 h3 a1 a2 a3 a4 a7 a11 (ii.i T F n sx W X ck _ _ a5) (fun s H C cl fp => ig.g T F n _ _ _ (ck.blk _ s H C cl fp) _ a6) (fun fb s H C cl fp => iF.ts (T.wb fb) F n _ _ _ ((ck.wb fb).blk _ s H C cl fp) _ a8)
      (fun fb s H C cl fp => ii1.i (T.wb fb) F n _ _ _ ((ck.wb fb).blk _ s H C cl fp) _ _ a9) (fun s H C cl fp => ig1.g T F n _ _ _ (ck.blk _ s H C cl fp) _ a10) (fun fb s H C cl fp => iF1.ts (T.wb fb) F n _ _ _ ((ck.wb fb).blk _ s H C cl fp) _ a12) (fun fb s H C cl fp => ie.e (T.wb fb) F n _ _ _ ((ck.wb fb).blk _ s H C cl fp) _ a13 true)
/-- what is no expression -/
theorem ofX (fe : ∀ sx ex, (chk k x).e sx ex = false) (ftt : ∀ sx ex, (chk k x).tt sx ex = false)
    (a : ∀ T F n sx W X, Ck T F k n sx W X → ∀ es, (chk k x).a sx es = true → PA X es (spA T W F (den x)))
    (o0 : ∀ T F n sx W X, Ck T F k n sx W X → (chk k x).a sx [] = true → PO X none (spO T W F (den x)))
    (ts : ∀ T F n sx W X, Ck T F k n sx W X → ∀ es, (chk k x).t sx es = true → PTs X es (spTs T W F (den x)))
    (tn : ∀ sx, (chk k x).t sx [] = true → ∀ F as m, (den x).t F as m = .ok true m)
    (i : ∀ T F n sx W X, Ck T F k n sx W X → ∀ tg ex, (chk k x).i sx tg ex = true → PI X tg ex (spI T W F (den x)))
    (g : ∀ T F n sx W X, Ck T F k n sx W X → ∀ tg, (chk k x).g sx tg = true → PG X tg (spG T (den x) (chk k x).sl))
    (gs : ∀ T F n sx W X, Ck T F k n sx W X → ∀ tgs, (chk k x).gs sx tgs = true → PGs X tgs (spGs T (den x) (chk k x).sl))
    (gl : ∀ sx tgs, (chk k x).gs sx tgs = true → ∀ xs as as', (den x).gs xs as = some as' → xs.length = tgs.length)
    (s : ∀ T F n sx W X, Ck T F k n sx W X → PassesOwn (model X.prog X.w) X.A X.env X.xe → ∀ st, (chk k x).s sx st = true → PS X st (spS T W F (den x)))
    (b : ∀ T F n sx W X, Ck T F k n sx W X → PassesOwn (model X.prog X.w) X.A X.env X.xe → ∀ sts, (chk k x).b sx sts = true → PSs X sts (spB T W F (den x))) : Snd k x where
  e := fun T F n sx W X ck ex h => by rw [fe] at h; cases h
  t := fun T F n sx W X ck ex h => by rw [ftt] at h; cases h
  w := fun T F n sx W X ck op l p h => by rw [ftt] at h; cases h
  l := fun T F n sx W X ck el gs scope pos h => by rw [fe] at h; cases h
  o := fun T F n sx W X ck u h => by rw [fe] at h; cases h
  a := a
  o0 := o0
  ts := ts
  tn := tn
  i := i
  g := g
  gs := gs
  gl := gl
  s := s
  b := b
theorem snd_nil : Snd k .nil := by
  refine ofX (x := .nil) (fun _ _ => rfl) (fun _ _ => rfl) (fun T F n sx W X ck es h => ?_) (fun T F n sx W X ck h => weakO (o_none (T := T) (F := F) (W := W)) fun σ H Q h => h) (fun T F n sx W X ck es h => ?_) (fun _ _ _ _ _ => rfl) (fun _ _ _ _ _ _ _ _ _ h => nomatch h) (fun _ _ _ _ _ _ _ _ h => nomatch h)
    (fun T F n sx W X ck tgs h => ?_) (fun sx tgs h xs as as' e => ?_) (fun _ _ _ _ _ _ _ _ _ h => nomatch h) (fun T F n sx W X ck hp sts h => ?_)
  · match es, h with
    | [], _ => exact weakA (a_nil (T := T) (F := F) (W := W)) fun σ H Q h => h
  · match es, h with
    | [], _ => exact weakTs (ts_nil (T := T) (F := F) (W := W)) fun σ H Q h => h
  · match tgs, h with
    | [], _ => exact weakGs (gs_nil (T := T)) fun v σ H Q h => h
  · match tgs, h with
    | [], _ =>
      match xs, e with
      | [], _ => rfl
  · match sts, h with
    | [], _ => exact weakB (b_nil (T := T) (F := F) (W := W)) fun D σ H h => h
theorem snd_cons {a b : A} (ia : Snd k a) (ib : Snd k b) : Snd k (.cons a b) := by
  refine ofX (x := .cons a b) (fun _ _ => rfl) (fun _ _ => rfl) (fun T F n sx W X ck es h => ?_) (fun T F n sx W X ck h => by cases h) (fun T F n sx W X ck es h => ?_) (fun _ h => nomatch h) (fun _ _ _ _ _ _ _ _ _ h => nomatch h) (fun _ _ _ _ _ _ _ _ h => nomatch h)
    (fun T F n sx W X ck tgs h => ?_) (fun sx tgs h xs as as' e => ?_) (fun _ _ _ _ _ _ _ _ _ h => nomatch h) (fun T F n sx W X ck hp sts h => ?_)
  · match es, h with
    | e :: r, h =>
      have h' : (notStar e && (chk k a).e sx e && (chk k b).a sx r) = true := h
      simp only [Bool.and_eq_true] at h'
      exact weakA (a_cons h'.1.1 (ia.e T F n sx W X ck _ h'.1.2) (ib.a T F n sx W X ck _ h'.2)) fun σ H Q h => h
  · match es, h with
    | [e], h =>
      obtain ⟨h1, h2⟩ := Bool.and_eq_true_iff.mp (show ((chk k a).tt sx e && (chk k b).t sx []) = true from h)
      exact weakTs (ts_one (ib.tn sx h2) (ia.t T F n sx W X ck _ h1)) fun σ H Q h => h
  · match tgs, h with
    | e :: r, h =>
      have h' : (notStar e && (chk k a).g sx e && (chk k b).gs sx r) = true := h
      simp only [Bool.and_eq_true] at h'
      exact weakGs (gs_cons h'.1.1 (ia.g T F n sx W X ck _ h'.1.2) (ib.gs T F n sx W X ck _ h'.2)) fun v σ H Q h => h
  · match tgs, h with
    | t :: r, h =>
      have h' : (notStar t && (chk k a).g sx t && (chk k b).gs sx r) = true := h
      simp only [Bool.and_eq_true] at h'
      match xs, e with
      | x :: xs, e =>
        have e' : (match (den a).g x as with | some s1 => (den b).gs xs s1 | none => none) = some as' := e
        cases h1 : (den a).g x as with
        | none => rw [h1] at e'; cases e'
        | some s1 =>
          rw [h1] at e'
          rw [List.length_cons, List.length_cons, ib.gl sx r h'.2 xs s1 as' e']
  · match sts, h with
    | e :: r, h =>
      obtain ⟨h1, h2⟩ := Bool.and_eq_true_iff.mp (show ((chk k a).s sx e && (chk k b).b sx r) = true from h)
      exact weakB (b_cons (ia.s T F n sx W X ck hp _ h1) (ib.b T F n sx W X ck hp _ h2)) fun D σ H h => h
theorem snd_stc {a b : A} (ia : Snd k a) (ib : Snd k b) : Snd k (.stc a b) := by
  refine ofX (x := .stc a b) (fun _ _ => rfl) (fun _ _ => rfl) (fun T F n sx W X ck es h => ?_) (fun T F n sx W X ck h => by cases h) (fun _ _ _ _ _ _ _ _ h => nomatch h) (fun _ h => nomatch h) (fun _ _ _ _ _ _ _ _ _ h => nomatch h) (fun _ _ _ _ _ _ _ _ h => nomatch h)
    (fun _ _ _ _ _ _ _ _ h => nomatch h) (fun _ _ h => nomatch h) (fun _ _ _ _ _ _ _ _ _ h => nomatch h) (fun _ _ _ _ _ _ _ _ _ h => nomatch h)
  match es, h with
  | e :: r, h =>
    cases e <;> first | (cases h; done) | skip
    rename_i l _
    obtain ⟨h1, h2⟩ := Bool.and_eq_true_iff.mp (show ((chk k a).e sx l && (chk k b).a sx r) = true from h)
    exact a_star ck.hK (ia.e T F n sx W X ck _ h1) (ib.a T F n sx W X ck _ h2)
theorem snd_iter (j : It) {es : A} (ie : Snd k es) : Snd k (.iter j es) := by
  refine ofX (x := .iter j es) (fun _ _ => rfl) (fun _ _ => rfl) (fun _ _ _ _ _ _ _ _ h => nomatch h) (fun _ _ _ _ _ _ _ h => nomatch h) (fun _ _ _ _ _ _ _ _ h => nomatch h) (fun _ h => nomatch h) (fun T F n sx W X ck tg ex h => ?_) (fun _ _ _ _ _ _ _ _ h => nomatch h)
    (fun _ _ _ _ _ _ _ _ h => nomatch h) (fun _ _ h => nomatch h) (fun _ _ _ _ _ _ _ _ _ h => nomatch h) (fun _ _ _ _ _ _ _ _ _ h => nomatch h)
  have sub : PI X tg ex (spI T W F { i := iIter j (den es) }) := by
    cases j with
    | e => cases h
    | rng1 =>
      cases ex <;> first | (cases h; done) | skip
      rename_i f args kw _
      cases f <;> first | (cases h; done) | skip
      match args, kw, h with
      | [a], [], h =>
        have h := (show (bname k sx _ "range" && notStar a && (chk k es).a sx [a]) = true from h)
        simp only [Bool.and_eq_true] at h
        exact i_r1 ck h.1.1 h.1.2 (ie.a T F n sx W X ck _ h.2)
    | rng2 =>
      cases ex <;> first | (cases h; done) | skip
      rename_i f args kw _
      cases f <;> first | (cases h; done) | skip
      match args, kw, h with
      | [a, b], [], h =>
        have h := (show (bname k sx _ "range" && notStar a && notStar b && (chk k es).a sx [a, b]) = true from h)
        simp only [Bool.and_eq_true] at h
        exact i_r2 ck h.1.1.1 h.1.1.2 h.1.2 (ie.a T F n sx W X ck _ h.2)
    | rng3 =>
      cases ex <;> first | (cases h; done) | skip
      rename_i f args kw _
      cases f <;> first | (cases h; done) | skip
      match args, kw, h with
      | [a, b, c], [], h =>
        have h := (show (bname k sx _ "range" && notStar a && notStar b && notStar c && (chk k es).a sx [a, b, c]) = true from h)
        simp only [Bool.and_eq_true] at h
        exact i_r3 ck h.1.1.1.1 h.1.1.1.2 h.1.1.2 h.1.2 (ie.a T F n sx W X ck _ h.2)
    | zip =>
      cases tg <;> first | (cases h; done) | skip
      cases ex <;> first | (cases h; done) | skip
      rename_i f args kw _
      cases f <;> first | (cases h; done) | skip
      match args, kw, h with
      | [a, b], [], h =>
        have h := (show (bname k sx _ "zip" && notStar a && notStar b && (chk k es).a sx [a, b]) = true from h)
        simp only [Bool.and_eq_true] at h
        exact i_z ck h.1.1.1 h.1.1.2 h.1.2 (ie.a T F n sx W X ck _ h.2)
    | enum =>
      cases tg <;> first | (cases h; done) | skip
      cases ex <;> first | (cases h; done) | skip
      rename_i f args kw _
      cases f <;> first | (cases h; done) | skip
      match args, kw, h with
      | [a], [], h =>
        have h := (show (bname k sx _ "enumerate" && notStar a && (chk k es).a sx [a]) = true from h)
        simp only [Bool.and_eq_true] at h
        exact i_n ck h.1.1 h.1.2 (ie.a T F n sx W X ck _ h.2)
  exact weakI sub fun σ H Q h => h
theorem snd_itE {a : A} (ia : Snd k a) : Snd k (.itE a) :=
  ofX (x := .itE a) (fun _ _ => rfl) (fun _ _ => rfl) (fun _ _ _ _ _ _ _ _ h => nomatch h) (fun _ _ _ _ _ _ _ h => nomatch h) (fun _ _ _ _ _ _ _ _ h => nomatch h) (fun _ h => nomatch h) (fun T F n sx W X ck tg ex h => weakI (i_e ck.hK (ia.e T F n sx W X ck _ h)) fun σ H Q h => h) (fun _ _ _ _ _ _ _ _ h => nomatch h)
    (fun _ _ _ _ _ _ _ _ h => nomatch h) (fun _ _ h => nomatch h) (fun _ _ _ _ _ _ _ _ _ h => nomatch h) (fun _ _ _ _ _ _ _ _ _ h => nomatch h)
theorem snd_gn (i : Nat) : Snd k (.gn i) :=
  ofX (x := .gn i) (fun _ _ => rfl) (fun _ _ => rfl) (fun _ _ _ _ _ _ _ _ h => nomatch h) (fun _ _ _ _ _ _ _ h => nomatch h) (fun _ _ _ _ _ _ _ _ h => nomatch h) (fun _ h => nomatch h) (fun _ _ _ _ _ _ _ _ _ h => nomatch h) (fun T F n sx W X ck tg h => by
    cases tg <;> first | (cases h; done) | skip
    rename_i y _ 
    have h' : (atB k.N i y && stB sx y) = true := h
    simp only [Bool.and_eq_true] at h'
    exact weakG (g_n ck h'.1 h'.2) fun v σ H Q h => h)
    (fun _ _ _ _ _ _ _ _ h => nomatch h) (fun _ _ h => nomatch h) (fun _ _ _ _ _ _ _ _ _ h => nomatch h) (fun _ _ _ _ _ _ _ _ _ h => nomatch h)
theorem snd_gt {es : A} (ie : Snd k es) : Snd k (.gt es) :=
  ofX (x := .gt es) (fun _ _ => rfl) (fun _ _ => rfl) (fun _ _ _ _ _ _ _ _ h => nomatch h) (fun _ _ _ _ _ _ _ h => nomatch h) (fun _ _ _ _ _ _ _ _ h => nomatch h) (fun _ h => nomatch h) (fun _ _ _ _ _ _ _ _ _ h => nomatch h) (fun T F n sx W X ck tg h => by
    cases tg <;> first | (cases h; done) | skip
    rename_i l _ _
    have h' : ((chk k es).gs sx l && l.all notStar) = true := h
    rw [Bool.and_eq_true] at h'
    exact weakG (g_t ck h'.2 (ie.gl sx _ h'.1) (ie.gs T F n sx W X ck _ h'.1)) fun v σ H Q h => h)
    (fun _ _ _ _ _ _ _ _ h => nomatch h) (fun _ _ h => nomatch h) (fun _ _ _ _ _ _ _ _ _ h => nomatch h) (fun _ _ _ _ _ _ _ _ _ h => nomatch h)
end
end Mi
set_option Elab.async false
set_option linter.all false
set_option maxRecDepth 100000
set_option maxHeartbeats 4000000
/-! Mini: every piece of syntax that checks is sound: statements, and all -/
namespace Mi
open PySem PySem.Spec PyProof.Rows L2
section
variable {k : Kx} {x : A}
/-- a statement -/
theorem ofS (fe : ∀ sx ex, (chk k x).e sx ex = false) (ftt : ∀ sx ex, (chk k x).tt sx ex = false) (fa : ∀ sx es, (chk k x).a sx es = false) (ft : ∀ sx es, (chk k x).t sx es = false) (fi : ∀ sx tg ex, (chk k x).i sx tg ex = false)
    (fg : ∀ sx tg, (chk k x).g sx tg = false) (fgs : ∀ sx tg, (chk k x).gs sx tg = false) (fb : ∀ sx st, (chk k x).b sx st = false)
    (s : ∀ T F n sx W X, Ck T F k n sx W X → PassesOwn (model X.prog X.w) X.A X.env X.xe → ∀ st, (chk k x).s sx st = true → PS X st (spS T W F (den x))) : Snd k x :=
  ofX fe ftt (fun T F n sx W X ck es h => by rw [fa] at h; cases h) (fun T F n sx W X ck h => by rw [fa] at h; cases h) (fun T F n sx W X ck es h => by rw [ft] at h; cases h) (fun sx h => by rw [ft] at h; cases h) (fun T F n sx W X ck tg ex h => by rw [fi] at h; cases h)
    (fun T F n sx W X ck tg h => by rw [fg] at h; cases h) (fun T F n sx W X ck tg h => by rw [fgs] at h; cases h) (fun sx tg h => by rw [fgs] at h; cases h) s (fun T F n sx W X ck hp st h => by rw [fb] at h; cases h)
theorem snd_sE {e : A} (ie : Snd k e) : Snd k (.sE e) := ofS (x := .sE e) (fun _ _ => rfl) (fun _ _ => rfl) (fun _ _ => rfl) (fun _ _ => rfl) (fun _ _ _ => rfl) (fun _ _ => rfl) (fun _ _ => rfl) (fun _ _ => rfl) fun T F n sx W X ck hp st h => by
  cases st <;> first | (cases h; done) | skip
  rename_i ex _
  have h' : (notComp ex && (chk k e).e sx ex) = true := h
  simp only [Bool.and_eq_true] at h'
  exact s_E h'.1 (ie.e T F n sx W X ck _ h'.2)
theorem snd_sA (i : Nat) {e : A} (ie : Snd k e) : Snd k (.sA i e) := ofS (x := .sA i e) (fun _ _ => rfl) (fun _ _ => rfl) (fun _ _ => rfl) (fun _ _ => rfl) (fun _ _ _ => rfl) (fun _ _ => rfl) (fun _ _ => rfl) (fun _ _ => rfl) fun T F n sx W X ck hp st h => by
  cases st <;> first | (cases h; done) | skip
  rename_i tg ex _
  match tg, h with
  | [t], h =>
    cases t <;> first | (cases h; done) | skip
    have h' : (atB k.N i _ && stB sx _ && notComp ex && (chk k e).e sx ex) = true := h
    simp only [Bool.and_eq_true] at h'
    exact s_A ck h'.1.1.1 h'.1.1.2 h'.1.2 (ie.e T F n sx W X ck _ h'.2)
  | t :: _ :: _, h => cases t <;> cases h
theorem kind_of {T : Tb} {F : FT} {n : Nat} {sx : Sx} {W : WX} {X : Cx} (ck : Ck T F k n sx W X) (h : funB sx = true) : X.env.scope.kind = .function := by
  unfold funB at h
  rw [ck.sc]
  split at h
  · assumption
  · cases h
theorem loc_of {T : Tb} {F : FT} {n : Nat} {sx : Sx} {W : WX} {X : Cx} {y : Str} (ck : Ck T F k n sx W X) (h : locB sx y = true) : X.env.scope.names.lookup y = some .local := by
  unfold locB at h
  rw [ck.sc]
  split at h
  · assumption
  · cases h
theorem snd_sAl (i : Nat) {e : A} (ie : Snd k e) : Snd k (.sAl i e) := ofS (x := .sAl i e) (fun _ _ => rfl) (fun _ _ => rfl) (fun _ _ => rfl) (fun _ _ => rfl) (fun _ _ _ => rfl) (fun _ _ => rfl) (fun _ _ => rfl) (fun _ _ => rfl) fun T F n sx W X ck hp st h => by
  cases st <;> first | (cases h; done) | skip
  rename_i tg ex spos
  match tg, h with
  | [t], h =>
    cases t <;> first | (cases h; done) | skip
    rename_i y py
    cases ex <;> first | (cases h; done) | skip
    rename_i el gs scope q _
    have h' : (atB k.N i y && (swB sx y py.line scope q || celB sx y) && (chk k e).e sx (.ListComp el gs scope q)) = true := h
    simp only [Bool.and_eq_true, Bool.or_eq_true] at h'
    obtain ⟨⟨h1, h2⟩, h3⟩ := h'
    rcases h2 with h2 | h2
    · have h2' : (funB sx && locB sx y && (py.line == q.line) && !(scope.names.any fun p => p.1 == y && (p.2 == .local || p.2 == .cell))) = true := h2
      simp only [Bool.and_eq_true, Bool.not_eq_true'] at h2'
      have hl := loc_of ck h2'.1.1.2
      refine weakS (ie.l T F n sx W X ck _ _ _ _ h3 false i y py spos (at_of ck h1) hl (sw_true (kind_of ck h2'.1.1.1) hl h2'.1.2 h2'.2)) fun D σ H h => asg_read h
    · unfold celB at h2
      have hc : X.env.scope.names.lookup y = some .cell ∧ X.fn y = true := by
        rw [ck.sc]
        split at h2
        · exact ⟨by assumption, ck.fn y h2⟩
        · cases h2
      have sw : swapsWith (.ListComp el gs scope q) (some (.Name y py)) spos.line X.env = pure false := by
        unfold swapsWith
        have kx : X.env.kindOf y = some .cell := hc.1
        have nk : (NameKind.cell == NameKind.local) = false := by decide
        have ns : (some NameKind.cell == some NameKind.local) = false := by decide
        simp only [kx, ns, Bool.and_false, Bool.false_and]
      exact weakS (ps_set ck.nd (at_of ck h1) (.inr hc.1) (ie.e T F n sx W X ck _ h3 false) sw (.inl hc.2)) fun D σ H h => asg_read h
  | t :: _ :: _, h => cases t <;> cases h
theorem snd_sG {t e : A} (it : Snd k t) (ie : Snd k e) : Snd k (.sG t e) := ofS (x := .sG t e) (fun _ _ => rfl) (fun _ _ => rfl) (fun _ _ => rfl) (fun _ _ => rfl) (fun _ _ _ => rfl) (fun _ _ => rfl) (fun _ _ => rfl) (fun _ _ => rfl) fun T F n sx W X ck hp st h => by
  cases st <;> first | (cases h; done) | skip
  rename_i tg ex spos
  match tg, h with
  | [t'], h =>
    cases t' <;> first | (cases h; done) | skip
    rename_i ts j p
    have h' : ((notTup ex || tupFold ex || ts.any (celE sx)) && notComp ex && (chk k t).g sx (.Tuple ts j p) && (chk k e).e sx ex) = true := h
    simp only [Bool.and_eq_true, Bool.or_eq_true] at h'
    obtain ⟨⟨⟨h1, h2⟩, h3⟩, h4⟩ := h'
    refine s_G (sl := (chk k t).sl) ?_ h2 (ie.e T F n sx W X ck _ h4) (it.g T F n sx W X ck _ h3)
    rcases h1 with (h1 | h1) | h1
    · exact sw_store0 h1
    · cases ex <;> first | (cases h1; done) | skip
      exact tup_fold h1
    · by_cases c : notTup ex = true
      · exact sw_store0 c
      · cases ex <;> first | exact absurd rfl c | rfl | skip
        refine tup_cell ?_
        obtain ⟨y, hy, hc⟩ := List.any_eq_true.mp h1
        refine List.any_eq_true.mpr ⟨y, hy, ?_⟩
        cases y <;> first | (cases hc; done) | skip
        rename_i z pz
        have hz : (match sx.sc.names.lookup z with | some .cell => true | _ => false) = true := hc
        have hk : X.env.kindOf z = some .cell := by
          show X.env.scope.names.lookup z = _
          rw [ck.sc]
          split at hz
          · assumption
          · cases hz
        show (X.env.kindOf z == some .cell) = true
        rw [hk]
        rfl
  | t :: _ :: _, h => cases t <;> cases h
theorem snd_sI {o i e : A} (io : Snd k o) (ii : Snd k i) (ie : Snd k e) : Snd k (.sI o i e) := ofS (x := .sI o i e) (fun _ _ => rfl) (fun _ _ => rfl) (fun _ _ => rfl) (fun _ _ => rfl) (fun _ _ _ => rfl) (fun _ _ => rfl) (fun _ _ => rfl) (fun _ _ => rfl) fun T F n sx W X ck hp st h => by
  cases st <;> first | (cases h; done) | skip
  rename_i tg ex spos
  match tg, h with
  | [t'], h =>
    cases t' <;> first | (cases h; done) | skip
    rename_i l j p
    have h' : (notSlice j && notComp ex && (chk k o).e sx l && (chk k i).e sx j && (chk k e).e sx ex) = true := h
    simp only [Bool.and_eq_true] at h'
    obtain ⟨⟨⟨⟨h1, h2⟩, h3⟩, h4⟩, h5⟩ := h'
    exact s_I h1 h2 (ie.e T F n sx W X ck _ h5) (io.e T F n sx W X ck _ h3) (ii.e T F n sx W X ck _ h4)
  | t :: _ :: _, h => cases t <;> cases h
theorem snd_sU (i : Nat) (o : Op) {e : A} (ie : Snd k e) : Snd k (.sU i o e) := ofS (x := .sU i o e) (fun _ _ => rfl) (fun _ _ => rfl) (fun _ _ => rfl) (fun _ _ => rfl) (fun _ _ _ => rfl) (fun _ _ => rfl) (fun _ _ => rfl) (fun _ _ => rfl) fun T F n sx W X ck hp st h => by
  cases st <;> first | (cases h; done) | skip
  rename_i tg op ex spos
  cases tg <;> first | (cases h; done) | skip
  rename_i y p
  have h' : (atB k.N i y && stB sx y && opEq op o && (augF o).isSome && (chk k e).e sx ex) = true := h
  simp only [Bool.and_eq_true] at h'
  obtain ⟨⟨⟨⟨h1, h2⟩, h3⟩, h4⟩, h5⟩ := h'
  obtain ⟨f, hf⟩ := Option.isSome_iff_exists.mp h4
  rw [opEq_ok h3]
  exact s_U hf ck h1 h2 (ie.e T F n sx W X ck _ h5)
theorem snd_sIf {c a b : A} (ic : Snd k c) (ia : Snd k a) (ib : Snd k b) : Snd k (.sIf c a b) := ofS (x := .sIf c a b) (fun _ _ => rfl) (fun _ _ => rfl) (fun _ _ => rfl) (fun _ _ => rfl) (fun _ _ _ => rfl) (fun _ _ => rfl) (fun _ _ => rfl) (fun _ _ => rfl) fun T F n sx W X ck hp st h => by
  cases st <;> first | (cases h; done) | skip
  rename_i t l r _
  have h' : ((chk k c).tt sx t && (chk k a).b sx l && (chk k b).b sx r) = true := h
  simp only [Bool.and_eq_true] at h'
  exact s_If (ic.t T F n sx W X ck _ h'.1.1) (ia.b T F n sx W X ck hp _ h'.1.2) (ib.b T F n sx W X ck hp _ h'.2)
theorem snd_sFor {t i b : A} (it : Snd k t) (ii : Snd k i) (ib : Snd k b) : Snd k (.sFor t i b) := ofS (x := .sFor t i b) (fun _ _ => rfl) (fun _ _ => rfl) (fun _ _ => rfl) (fun _ _ => rfl) (fun _ _ _ => rfl) (fun _ _ => rfl) (fun _ _ => rfl) (fun _ _ => rfl) fun T F n sx W X ck hp st h => by
  cases st <;> first | (cases h; done) | skip
  rename_i g e l o _
  match o, h with
  | [], h =>
    have h' : (notSet e && (chk k i).i sx g e && (chk k t).g sx g && (chk k b).b sx l) = true := h
    simp only [Bool.and_eq_true] at h'
    exact s_For ck hp h'.1.1.1 (ii.i T F n sx W X ck _ _ h'.1.1.2) (it.g T F n sx W X ck _ h'.1.2) (ib.b T F n sx W X ck hp _ h'.2)
theorem snd_sWh {c b : A} (ic : Snd k c) (ib : Snd k b) : Snd k (.sWh c b) := ofS (x := .sWh c b) (fun _ _ => rfl) (fun _ _ => rfl) (fun _ _ => rfl) (fun _ _ => rfl) (fun _ _ _ => rfl) (fun _ _ => rfl) (fun _ _ => rfl) (fun _ _ => rfl) fun T F n sx W X ck hp st h => by
  cases st <;> first | (cases h; done) | skip
  rename_i e l o _
  match o, h with
  | [], h =>
    obtain ⟨h1, h2⟩ := Bool.and_eq_true_iff.mp (show ((chk k c).tt sx e && (chk k b).b sx l) = true from h)
    exact s_Wh hp (ic.t T F n sx W X ck _ h1) (ib.b T F n sx W X ck hp _ h2)
theorem snd_sR {e : A} (ie : Snd k e) : Snd k (.sR e) := ofS (x := .sR e) (fun _ _ => rfl) (fun _ _ => rfl) (fun _ _ => rfl) (fun _ _ => rfl) (fun _ _ _ => rfl) (fun _ _ => rfl) (fun _ _ => rfl) (fun _ _ => rfl) fun T F n sx W X ck hp st h => by
  cases st <;> first | (cases h; done) | skip
  rename_i o _
  cases o <;> first | (cases h; done) | skip
  exact s_R (ie.e T F n sx W X ck _ h)
theorem snd_sRn : Snd k .sRn := ofS (x := .sRn) (fun _ _ => rfl) (fun _ _ => rfl) (fun _ _ => rfl) (fun _ _ => rfl) (fun _ _ _ => rfl) (fun _ _ => rfl) (fun _ _ => rfl) (fun _ _ => rfl) fun T F n sx W X ck hp st h => by
  cases st <;> first | (cases h; done) | skip
  rename_i o _
  cases o <;> first | (cases h; done) | skip
  exact s_Rn
theorem snd_sPass : Snd k .sPass := ofS (x := .sPass) (fun _ _ => rfl) (fun _ _ => rfl) (fun _ _ => rfl) (fun _ _ => rfl) (fun _ _ _ => rfl) (fun _ _ => rfl) (fun _ _ => rfl) (fun _ _ => rfl) fun T F n sx W X ck hp st h => by
  cases st <;> first | (cases h; done) | exact s_pass
theorem snd_sBrk : Snd k .sBrk := ofS (x := .sBrk) (fun _ _ => rfl) (fun _ _ => rfl) (fun _ _ => rfl) (fun _ _ => rfl) (fun _ _ _ => rfl) (fun _ _ => rfl) (fun _ _ => rfl) (fun _ _ => rfl) fun T F n sx W X ck hp st h => by
  cases st <;> first | (cases h; done) | exact s_brk
theorem snd_sCnt : Snd k .sCnt := ofS (x := .sCnt) (fun _ _ => rfl) (fun _ _ => rfl) (fun _ _ => rfl) (fun _ _ => rfl) (fun _ _ _ => rfl) (fun _ _ => rfl) (fun _ _ => rfl) (fun _ _ => rfl) fun T F n sx W X ck hp st h => by
  cases st <;> first | (cases h; done) | exact s_cnt
theorem snd_sRaise (c : Nat) {e : A} (ie : Snd k e) : Snd k (.sRaise c e) := ofS (x := .sRaise c e) (fun _ _ => rfl) (fun _ _ => rfl) (fun _ _ => rfl) (fun _ _ => rfl) (fun _ _ _ => rfl) (fun _ _ => rfl) (fun _ _ => rfl) (fun _ _ => rfl) fun T F n sx W X ck hp st h => by
  have h' : rs1B k c (chk k e).e sx st = true := h
  unfold rs1B at h'
  split at h'
  · simp only [Bool.and_eq_true, decide_eq_true_eq] at h'
    obtain ⟨⟨⟨⟨⟨h1, h2⟩, h3⟩, h4⟩, h5⟩, h6⟩ := h'
    exact s_Raise ck h1 h3 h4 h5 (ie.e T F n sx W X ck _ h6)
  · cases h'
theorem snd_sRz (c : Nat) : Snd k (.sRz c) := ofS (x := .sRz c) (fun _ _ => rfl) (fun _ _ => rfl) (fun _ _ => rfl) (fun _ _ => rfl) (fun _ _ _ => rfl) (fun _ _ => rfl) (fun _ _ => rfl) (fun _ _ => rfl) fun T F n sx W X ck hp st h => by
  have h' : rs0B k c sx st = true := h
  unfold rs0B at h'
  split at h'
  · simp only [Bool.and_eq_true, decide_eq_true_eq] at h'
    obtain ⟨⟨⟨⟨h1, h2⟩, h3⟩, h4⟩, h5⟩ := h'
    exact s_Rz ck h1 h3 h4 h5
  · cases h'
theorem snd_met (hs : List (Nat × Str × Bool)) {a : A} (ia : Snd k a) : Snd k (.met hs a) := ofP (x := .met hs a) rfl ⟨_, rfl⟩ (fun _ _ _ _ _ => rfl) fun T F n sx W X ck ex h fr => by
  split at h
  · simp only [Bool.and_eq_true, decide_eq_true_eq] at h
    obtain ⟨⟨⟨⟨⟨⟨h1, h2⟩, h3⟩, h4⟩, h5⟩, h6⟩, h7⟩ := h
    exact x_met ck h1 h2 h3 h4 h5 h6 fun F n W X ck' => ia.e T F n _ W X ck' _ h7 true
  · cases h
theorem snd_repr {a : A} (ia : Snd k a) : Snd k (.repr a) := ofP (x := .repr a) rfl ⟨_, rfl⟩ (fun _ _ _ _ _ => rfl) fun T F n sx W X ck ex h fr => by
  split at h
  · simp only [Bool.and_eq_true] at h
    obtain ⟨⟨⟨h0, h1⟩, h2⟩, h3⟩ := h
    exact x_repr ck h0 h1 h2 (ia.e T F n sx W X ck _ h3)
  · cases h
theorem snd_get (c i : Nat) {a : A} (ia : Snd k a) : Snd k (.get c i a) := ofP (x := .get c i a) rfl ⟨_, rfl⟩ (fun _ _ _ _ _ => rfl) fun T F n sx W X ck ex h fr => by
  split at h
  · simp only [Bool.and_eq_true, decide_eq_true_eq] at h
    obtain ⟨⟨h1, h2⟩, h3⟩ := h
    exact x_get ck h1 h2 (ia.e T F n sx W X ck _ h3)
  · cases h
theorem snd_meth (c j : Nat) {o es : A} (io : Snd k o) (ie : Snd k es) : Snd k (.meth c j o es) := ofP (x := .meth c j o es) rfl ⟨_, rfl⟩ (fun _ _ _ _ _ => rfl) fun T F n sx W X ck ex h fr => by
  split at h
  · simp only [Bool.and_eq_true, decide_eq_true_eq] at h
    obtain ⟨⟨⟨⟨⟨⟨⟨h1, h2⟩, h3⟩, h4⟩, h5⟩, h6⟩, h7⟩, h8⟩ := h
    exact x_meth ck h1 h2 h3 h4 h5 h6 (io.e T F n sx W X ck _ h7) (ie.a T F n sx W X ck _ h8)
  · cases h
theorem snd_lenO (c j : Nat) {a : A} (ia : Snd k a) : Snd k (.lenO c j a) := ofP (x := .lenO c j a) rfl ⟨_, rfl⟩ (fun _ _ _ _ _ => rfl) fun T F n sx W X ck ex h fr => by
  split at h
  · simp only [Bool.and_eq_true, decide_eq_true_eq] at h
    obtain ⟨⟨⟨h1, h2⟩, h3⟩, h4⟩ := h
    exact x_lenO ck h1 h2 h3 (ia.e T F n sx W X ck _ h4)
  · cases h
theorem snd_isO (c : Nat) {a : A} (ia : Snd k a) : Snd k (.isO c a) := ofP (x := .isO c a) rfl ⟨_, rfl⟩ (fun _ _ _ _ _ => rfl) fun T F n sx W X ck ex h fr => by
  split at h
  · simp only [Bool.and_eq_true, decide_eq_true_eq] at h
    obtain ⟨⟨⟨⟨⟨h1, h2⟩, h3⟩, h4⟩, h5⟩, h6⟩ := h
    exact x_isO ck h1 h2 h3 h4 h5 (ia.e T F n sx W X ck _ h6)
  · cases h
theorem snd_lset {a : A} (ia : Snd k a) : Snd k (.lset a) := ofP (x := .lset a) rfl ⟨_, rfl⟩ (fun _ _ _ _ _ => rfl) fun T F n sx W X ck ex h fr => by
  split at h
  · simp only [Bool.and_eq_true] at h
    obtain ⟨⟨⟨h1, h2⟩, h3⟩, h4⟩ := h
    exact x_lset ck h1 h2 h3 (ia.e T F n sx W X ck _ h4)
  · cases h
theorem snd_sNo : Snd k .sNo := ofS (x := .sNo) (fun _ _ => rfl) (fun _ _ => rfl) (fun _ _ => rfl) (fun _ _ => rfl) (fun _ _ _ => rfl) (fun _ _ => rfl) (fun _ _ => rfl) (fun _ _ => rfl) fun T F n sx W X ck hp st h => s_no
theorem blk_fun {env : Env} (h : env.scope.kind = .function) : env.blockKind = .function := by unfold Env.blockKind; rw [h]; rfl
theorem fold_of {vs : List Expr} (h : foldB vs = true) : vs.all notStar = true ∧ vs.all (foldedForSure 8) = false ∧ vs.all (constantsAlone 8) = false := by
  unfold foldB at h
  rw [Bool.and_eq_true, Bool.and_eq_true, Bool.not_eq_true', Bool.not_eq_true'] at h
  exact ⟨h.1.1, h.1.2, h.2⟩
theorem ne_slot {N : List Str} {i j : Nat} {x y : Str} (h1 : N[i]? = some x) (h2 : N[j]? = some y) (h : (x == y) = false) : i ≠ j := fun e => by
  subst e
  rw [h1] at h2
  cases h2
  simp at h
theorem snd_sP (is : List Nat) {es : A} (ie : Snd k es) : Snd k (.sP is es) := ofS (x := .sP is es) (fun _ _ => rfl) (fun _ _ => rfl) (fun _ _ => rfl) (fun _ _ => rfl) (fun _ _ _ => rfl) (fun _ _ => rfl) (fun _ _ => rfl) (fun _ _ => rfl) fun T F n sx W X ck hp st h => by
  have two : ∀ {i j : Nat} {x y : Str} {px py pt p2 : Pos} {kt k2 : Nat} {a b : Expr} {pos : Pos}, (funB sx && atB k.N i x && atB k.N j y && locB sx x && locB sx y && (py.line == px.line) && !(x == y) && foldB [a, b] && (chk k es).a sx [a, b]) = true →
      PS X (.Assign [.Tuple [.Name x px, .Name y py] kt pt] (.Tuple [a, b] k2 p2) pos) (spS T W F (dS (sP [i, j] (den es)))) := by
    intro i j x y px py pt p2 kt k2 a b pos h
    simp only [Bool.and_eq_true, Bool.not_eq_true'] at h
    obtain ⟨⟨⟨⟨⟨⟨⟨⟨h1, h2⟩, h3⟩, h4⟩, h5⟩, h6⟩, h7⟩, h8⟩, h9⟩ := h
    obtain ⟨f1, f2, f3⟩ := fold_of h8
    have hx := loc_of ck h4
    have hy := loc_of ck h5
    exact s_P2 ck (at_of ck h2) (at_of ck h3) (ne_slot (at_of ck h2) (at_of ck h3) h7) hx hy (sw_two (blk_fun (kind_of ck h1)) hx hy h6 h7 f1 f2 f3) (ie.a T F n sx W X ck _ h9)
  have three : ∀ {i j q : Nat} {x y z : Str} {px py pz pt p2 : Pos} {kt k2 : Nat} {a b c : Expr} {pos : Pos}, (funB sx && atB k.N i x && atB k.N j y && atB k.N q z && locB sx x && locB sx y && locB sx z && (py.line == px.line) && (pz.line == px.line) && !(x == y) && !(x == z) && !(y == z) && foldB [a, b, c] && (chk k es).a sx [a, b, c]) = true →
      PS X (.Assign [.Tuple [.Name x px, .Name y py, .Name z pz] kt pt] (.Tuple [a, b, c] k2 p2) pos) (spS T W F (dS (sP [i, j, q] (den es)))) := by
    intro i j q x y z px py pz pt p2 kt k2 a b c pos h
    simp only [Bool.and_eq_true, Bool.not_eq_true'] at h
    obtain ⟨⟨⟨⟨⟨⟨⟨⟨⟨⟨⟨⟨⟨h1, h2⟩, h3⟩, h4⟩, h5⟩, h6⟩, h7⟩, h8⟩, h9⟩, h10⟩, h11⟩, h12⟩, h13⟩, h14⟩ := h
    obtain ⟨f1, f2, f3⟩ := fold_of h13
    have hx := loc_of ck h5
    have hy := loc_of ck h6
    have hz := loc_of ck h7
    exact s_P3 ck (at_of ck h2) (at_of ck h3) (at_of ck h4) (ne_slot (at_of ck h2) (at_of ck h3) h10) (ne_slot (at_of ck h2) (at_of ck h4) h11) (ne_slot (at_of ck h3) (at_of ck h4) h12) hx hy hz (sw_three (blk_fun (kind_of ck h1)) hx hy hz h8 h9 h10 h11 h12 f1 f2 f3) (ie.a T F n sx W X ck _ h14)
  have hh : chkP k (chk k es).a is sx st = true := h
  clear h
  unfold chkP at hh
  split at hh
  · exact two hh
  · exact three hh
  · cases hh
/-- everything that checks is sound -/
theorem snd_all (k : Kx) (x : A) : Snd k x := by
  induction x with
  | nil => exact snd_nil
  | cons a b ia ib => exact snd_cons ia ib
  | var i => exact snd_var i
  | int i => exact snd_int i
  | bl b => exact snd_bl b
  | non => exact snd_non
  | str z => exact snd_str z
  | gi y i => exact snd_gi y i
  | gs y z => exact snd_gs y z
  | fnm j => exact snd_fnm j
  | bin o a b ia ib => exact snd_bin o ia ib
  | neg a ia => exact snd_neg ia
  | cmp o a b ia ib => exact snd_cmp o ia ib
  | chn o o' a b c ia ib ic => exact snd_chn o o' ia ib ic
  | and a b ia ib => exact snd_and ia ib
  | or a b ia ib => exact snd_or ia ib
  | one a ia => exact snd_one ia
  | not a ia => exact snd_not ia
  | ite c a b ic ia ib => exact snd_ite ic ia ib
  | tup es ie => exact snd_tup ie
  | lst es ie => exact snd_lst ie
  | stc a b ia ib => exact snd_stc ia ib
  | idx a b ia ib => exact snd_idx ia ib
  | slc a lo hi ia il ih => exact snd_slc ia il ih
  | call j es ie => exact snd_call j ie
  | fz a ia => exact snd_fz ia
  | calv i es ie => exact snd_calv i ie
  | bi b es ie => exact snd_bi b ie
  | isi b a ia => exact snd_isi b ia
  | bir1 b a ia => exact snd_bir1 b ia
  | bir2 b a c ia ic => exact snd_bir2 b ia ic
  | lc vs tg it ifs elt ig ii iF ie => exact snd_lc vs ig ii iF ie
  | lc2 vs vs1 tg it ifs tg1 it1 ifs1 elt ig ii iF ig1 ii1 iF1 ie => exact snd_lc2 vs vs1 ig ii iF ig1 ii1 iF1 ie
  | met hs a ia => exact snd_met hs ia
  | repr a ia => exact snd_repr ia
  | get c i a ia => exact snd_get c i ia
  | meth c j o es io ie => exact snd_meth c j io ie
  | lenO c j a ia => exact snd_lenO c j ia
  | isO c a ia => exact snd_isO c ia
  | lset a ia => exact snd_lset ia
  | dnil => exact snd_dnil
  | eNo => exact snd_eNo
  | iter j es ie => exact snd_iter j ie
  | itE a ia => exact snd_itE ia
  | app o a io ia => exact snd_app io ia
  | popL o io => exact snd_popL io
  | popA o a io ia => exact snd_popA io ia
  | index o a io ia => exact snd_index io ia
  | extend o a io ia => exact snd_extend io ia
  | gn i => exact snd_gn i
  | gt es ie => exact snd_gt ie
  | sE e ie => exact snd_sE ie
  | sA i e ie => exact snd_sA i ie
  | sAl i e ie => exact snd_sAl i ie
  | sG t e it ie => exact snd_sG it ie
  | sP is es ie => exact snd_sP is ie
  | sI o i e io ii ie => exact snd_sI io ii ie
  | sU i o e ie => exact snd_sU i o ie
  | sIf c a b ic ia ib => exact snd_sIf ic ia ib
  | sFor t i b it ii ib => exact snd_sFor it ii ib
  | sWh c b ic ib => exact snd_sWh ic ib
  | sR e ie => exact snd_sR ie
  | sRn => exact snd_sRn
  | sPass => exact snd_sPass
  | sBrk => exact snd_sBrk
  | sCnt => exact snd_sCnt
  | sRaise c e ie => exact snd_sRaise c ie
  | sRz c => exact snd_sRz c
  | sNo => exact snd_sNo
end
end Mi
set_option Elab.async false
set_option linter.all false
set_option maxRecDepth 100000
set_option maxHeartbeats 4000000
/-! Mini: a try with several clauses, named or not; the def that tells what a lambda raises -/
namespace Mi
open PySem PySem.Spec PyProof.Rows L2
/-- a clause: its class; its name's slot, if it has one; what its suite asks -/
structure Cl where
  c : Value
  nm : Option Nat
  ts : Addr → Value → Option Addr → TS
/-- the ends of a suite whose name goes away behind it -/
def gone (i : Nat) (D : Ends) : Ends := { nx := fun σ' H' => D.nx (σ'.set i none) H', rt := D.rt, bk := fun σ' H' => D.bk (σ'.set i none) H', ct := fun σ' H' => D.ct (σ'.set i none) H' }
def clWish (K : PySem.W.Frag) (W0 : WX) (D : Ends) : List Cl → WX
  | [] => W0
  | q :: r => fun cls d σ H => ∃ b, PySem.W.exmOne K cls q.c = some b ∧ (b = true → ∀ a, H a = none → match q.nm with | none => q.ts a cls d D σ H | some i => (σ.set i (some (.ref a)))[i]? = some (some (.ref a)) → q.ts a cls d (gone i D) (σ.set i (some (.ref a))) H) ∧ (b = false → clWish K W0 D r cls d σ H)
def SuiteOk (X : Cx) (body : List Stmt) (ts : Addr → Value → Option Addr → TS) : Prop := ∀ (a : Addr) (oe : Obj) (cls : Value) (d : Option Addr) (pn : List (Addr × Obj)), Zc cls d oe → (∃ vs, oe.data = .fields vs) → PSs (X.suite a ((a, oe) :: pn)) body (ts a cls d)
inductive ClsOk (X : Cx) : List ExceptHandler → List Cl → Prop
  | nil : ClsOk X [] []
  | plain {x : Str} {q : Cl} {b₀ : Stmt} {bs : List Stmt} {np pp : Pos} {hds : List ExceptHandler} {l : List Cl} (hc : Names X x q.c) (hn : q.nm = none) (hs : SuiteOk X (b₀ :: bs) q.ts) (r : ClsOk X hds l) :
      ClsOk X (.ExceptHandler (some (.Name x np)) none (b₀ :: bs) pp :: hds) (q :: l)
  | named {x y : Str} {i : Nat} {q : Cl} {b₀ : Stmt} {bs : List Stmt} {np pp : Pos} {hds : List ExceptHandler} {l : List Cl} (hc : Names X x q.c) (hn : q.nm = some i) (hi : X.N[i]? = some y) (hl : X.env.kindOf y = some .local) (hs : SuiteOk X (b₀ :: bs) q.ts) (r : ClsOk X hds l) :
      ClsOk X (.ExceptHandler (some (.Name x np)) (some y) (b₀ :: bs) pp :: hds) (q :: l)
section
variable {X : Cx} {body : List Stmt} {h₀ : ExceptHandler} {hds : List ExceptHandler} {l : List Cl} {pos : Pos} {tb : WX → TS} {W0 : WX}
theorem ps_try_cls (st : X.stack = X.env :: X.outer) (fr : X.env.frame = some X.env.locals) (nd : X.N.Nodup) (tk : Takes X W0)
    (hb : ∀ (W : WX) (pn : List (Addr × Obj)) (xe : Value → Shared → Prop), Takes (X.tr pn xe) W → PassesOwn (model X.prog X.w) X.A X.env xe → PSs (X.tr pn xe) body (tb W))
    (hh : ClsOk X (h₀ :: hds) l) : PS X (.Try body (h₀ :: hds) [] [] pos) (fun D σ H => tb (clWish X.K W0 D l) D σ H) := by
  refine ⟨fun pins s σ H D I h => ?_⟩
  have okX := I.ok
  have frs1 : X.A.frames = some (X.env :: X.outer) := by rw [okX.frames, st]
  refine wpAny_Try_except (wpAny_mono ((hb (clWish X.K W0 D l) (X.pn ++ pins) (fun e s₁ => wpAny (model X.prog X.w) X.A (noteFrame e X.env)
    (fun _ s₂ => wpAny (model X.prog X.w) X.A (setFlight e none) (fun _ s₃ => wpAny (model X.prog X.w) X.A (handleBy e X.env (h₀ :: hds)) (SP X pins D) X.xe s₃) X.xe s₂) X.xe s₁)
    (fun u s' xx => ?_) PassesOwn.looking).run [] s σ H D (I.toTry _) h) (fun f s1 hsp => ?_) (fun e s1 he => he))
  · obtain ⟨a, B, sI, pins', σ', H', cls, d, rfl, J0, nb, up, sky, na, os, ag, wish⟩ := xx
    have J : Inv X pins σ' H' sI := J0.ofTry okX
    have sky1 : Sky B (X.env :: X.outer) a (Zc cls d) X.env.locals s'.heap := by rw [← st]; exact sky
    show wpAny (model X.prog X.w) X.A (noteFrame (.ref a) X.env) _ _ _
    refine Sky.land Zc.steady frs1 fr sky1 fun h3 fly up3 => ?_
    have J3 : Inv X pins σ' H' { s' with heap := h3 } := J.landed nb fly.1 (up.trans up3) os ag
    obtain ⟨oe, vs, at3, zc3, dt3⟩ := fly.there
    have noFrame : a ∉ frs (X.env :: X.outer) := fun hm => by
      obtain ⟨_, o', e', hnf⟩ := fly.2.2.1.mem hm
      rw [at3] at e'
      cases e'
      exact hnf _ dt3
    have noLoc : a ≠ X.env.locals := fun z => noFrame (List.mem_filterMap.mpr ⟨X.env, List.mem_cons_self, by rw [fr, z]⟩)
    have noFs : a ∉ X.fs := fun hm => by
      obtain ⟨ev, hev, q⟩ := List.mem_filterMap.mp hm
      exact noFrame (List.mem_filterMap.mpr ⟨ev, List.mem_cons_of_mem _ hev, q⟩)
    have S3 := J3.suite at3 dt3 na noLoc noFs
    have lookT : PySem.W.Looks (model X.prog X.w) h3 (typeOf (.ref a)) cls := fun A Q E s k q => wpAny_typeOf_ref (k _ _ at3) (by rw [zc3.1]; exact q)
    have named : ∀ {x : Str} {c : Value} {np : Pos} {Q : Value → Shared → Prop} {E : Value → Shared → Prop}, Names X x c → Q c { s' with heap := h3 } → wpAny (model X.prog X.w) (X.A.mark (some (.ref a))) (eval (.Name x np) X.env) Q E { s' with heap := h3 } := fun {x c np Q E} hc q => by
      obtain ⟨hg, hdb, hm | ⟨hm, hv, hnn⟩⟩ := hc
      · exact ld_glob (X := X.suite a ((a, oe) :: (X.pn ++ pins))) S3 hg hm q hdb
      · exact ld_blt (X := X.suite a ((a, oe) :: (X.pn ++ pins))) S3 hg hm hv q hnn hdb
    have walk : ∀ {hds' : List ExceptHandler} {l' : List Cl}, ClsOk X hds' l' → clWish X.K W0 D l' cls d σ' H' → wpAny (model X.prog X.w) X.A (handleBy (.ref a) X.env hds') (SP X pins D) X.xe { s' with heap := h3 } := by
      intro hds' l' ok'
      induction ok' with
      | nil =>
        intro w
        refine wpAny_handleBy_nil ?_
        obtain ⟨_, _, _, oe', vs', Tb', oT, ts', at', _, dt', tb', _⟩ := id fly
        unfold PySem.passOn
        refine wpAny_bind (wpAny_field at' dt' tb' ?_)
        rw [if_neg (show ¬ ((Value.ref Tb' == Value.none) = true) from by simp)]
        have last : wpAny (model X.prog X.w) X.A (setFlight (.ref a) X.env.frame) (fun _ s4 => wpAny (model X.prog X.w) X.A (throw (.ref a) : Sem Flow) (SP X pins D) X.xe s4) X.xe { s' with heap := h3 } := by
          rw [fr]
          refine HandSPX.setFlight_upZ fly fun h4 up4 k4 => wpAny_throw (tk _ _ ?_)
          exact ⟨a, B, sI, pins, σ', H', cls, d, rfl, J, nb, (up.trans up3).trans k4, .inr (.inr (by rw [st]; exact up4)), na, os, ag, w⟩
        first
          | exact wpAny_bind (wpAny_pure (wpAny_bind last))
          | exact wpAny_bind last
      | @plain x q b₀ bs np pp hds2 l2 hc hn hs r ih =>
        rintro ⟨b, eb, yes, no⟩
        refine wpAny_handleBy_cons (codeAny_handlers_test (named hc ((PySem.W.exm_one (M := model X.prog X.w) (J3.kIn) lookT eb).here ?_))) (by intro z; cases z)
        cases b with
        | false => exact ih (no rfl)
        | true =>
          refine codeAny_handlers_suite (HandSPX.lands_againZ fly fun h4 fly4 up4 => ?_)
          have J4 : Inv X pins σ' H' { s' with heap := h4 } := J.landed nb fly4.1 ((up.trans up3).trans up4) os ag
          obtain ⟨oe4, vs4, at4, zc4, dt4⟩ := fly4.there
          have S4 := J4.suite at4 dt4 na noLoc noFs
          have wish4 := yes rfl a na
          rw [hn] at wish4
          refine wpAny_mono ((hs a oe4 cls d (X.pn ++ pins) zc4 ⟨_, dt4⟩).run [] _ _ H' _ S4 wish4) (fun f s6 hsp => ?_) (fun _ _ z => False.elim z)
          cases f with
          | next => obtain ⟨σ6, H6, S6, q6⟩ := hsp; exact ⟨_, _, S6.unsuite okX, q6⟩
          | brk => obtain ⟨σ6, H6, S6, q6⟩ := hsp; exact ⟨_, _, S6.unsuite okX, q6⟩
          | cont => obtain ⟨σ6, H6, S6, q6⟩ := hsp; exact ⟨_, _, S6.unsuite okX, q6⟩
          | ret u => obtain ⟨v6, σ6, H6, S6, r6, q6⟩ := hsp; exact ⟨_, _, _, S6.unsuite okX, r6, q6⟩
      | @named x y i q b₀ bs np pp hds2 l2 hc hn hi hl hs r ih =>
        rintro ⟨b, eb, yes, no⟩
        refine wpAny_handleBy_cons (codeAny_handlers_test (named hc ((PySem.W.exm_one (M := model X.prog X.w) (J3.kIn) lookT eb).here ?_))) (by intro z; cases z)
        cases b with
        | false => exact ih (no rfl)
        | true =>
          refine codeAny_handlers_suite_as (HandSPX.lands_againZ fly fun h4 fly4 up4 => ?_)
          have J4 : Inv X pins σ' H' { s' with heap := h4 } := J.landed nb fly4.1 ((up.trans up3).trans up4) os ag
          obtain ⟨oe4, vs4, at4, zc4, dt4⟩ := fly4.there
          have S4 := J4.suite at4 dt4 na noLoc noFs
          have wish4 := yes rfl a na
          rw [hn] at wish4
          have hset : (σ'.set i (some (.ref a)))[i]? = some (some (.ref a)) := List.getElem?_set_self (by rw [J.len]; exact (List.getElem?_eq_some_iff.mp hi).1)
          refine store_ok (X := X.suite a ((a, oe4) :: (X.pn ++ pins))) (v := .ref a) S4 nd hi (.inl hl) rfl (fun s5 S5 => ?_) (.inr hl)
          refine wpAny_mono ((hs a oe4 cls d (X.pn ++ pins) zc4 ⟨_, dt4⟩).run [] s5 _ H' _ S5 (wish4 hset)) (fun f s6 hsp => ?_) (fun _ _ z => False.elim z)
          have behind : ∀ {σ6 : L2.St} {H6 : Hp} {Q : Shared → Prop}, Inv (X.suite a ((a, oe4) :: (X.pn ++ pins))) [] σ6 H6 s6 → (∀ s7, Inv X pins (σ6.set i none) H6 s7 → Q s7) → wpAny (model X.prog X.w) X.A (do bindName X.env y .none; unbindBehindTheSuite X.env y pp) (fun _ s7 => Q s7) X.xe s6 :=
            fun {σ6 H6 Q} S6 hq => gone_ok (S6.unsuite okX) nd hi hl hq
          cases f with
          | next => obtain ⟨σ6, H6, S6, q6⟩ := hsp; exact behind S6 fun s7 J7 => ⟨_, _, J7, q6⟩
          | brk => obtain ⟨σ6, H6, S6, q6⟩ := hsp; exact behind S6 fun s7 J7 => ⟨_, _, J7, q6⟩
          | cont => obtain ⟨σ6, H6, S6, q6⟩ := hsp; exact behind S6 fun s7 J7 => ⟨_, _, J7, q6⟩
          | ret u => obtain ⟨v6, σ6, H6, S6, r6, q6⟩ := hsp; exact behind S6 fun s7 J7 => ⟨_, _, _, J7, r6, q6⟩
    exact walk hh wish
  · cases f with
    | next => obtain ⟨σ', H', J', q⟩ := hsp; exact wpAny_execs_nil ⟨σ', H', J'.ofTry okX, q⟩
    | brk => obtain ⟨σ', H', J', q⟩ := hsp; exact ⟨σ', H', J'.ofTry okX, q⟩
    | cont => obtain ⟨σ', H', J', q⟩ := hsp; exact ⟨σ', H', J'.ofTry okX, q⟩
    | ret u => obtain ⟨v, σ', H', J', r, q⟩ := hsp; exact ⟨v, σ', H', J'.ofTry okX, r, q⟩
end
end Mi
set_option Elab.async false
set_option linter.all false
set_option maxRecDepth 100000
set_option maxHeartbeats 4000000
/-! Mini: the def that tells what a lambda raises -/
namespace Mi
open PySem PySem.Spec PyProof.Rows L2
/-- the clauses fit their words -/
inductive HdFit (T : Tb) (K : PySem.W.Frag) (mg : Str → Option Value) (sg : Scope) (Ng : List Str) : List ExceptHandler → List (Nat × Str × Bool) → Prop
  | nil : HdFit T K mg sg Ng [] []
  | plain {x w : Str} {c j : Nat} {np p1 p2 pp : Pos} {hds : List ExceptHandler} {hs : List (Nat × Str × Bool)} (hg : sg.names.lookup x = some .globalImplicit) (hd : (x == ("__debug__" : Str)) = false) (hm : mg x = some (.ref (T.ca c))) (r : HdFit T K mg sg Ng hds hs) :
      HdFit T K mg sg Ng (.ExceptHandler (some (.Name x np)) none [.Return (some (.Constant (.str w) j p1)) p2] pp :: hds) ((c, w, false) :: hs)
  | named {x y w f : Str} {c i j : Nat} {np p1 p2 p3 p4 p5 p6 p7 p8 pp : Pos} {hds : List ExceptHandler} {hs : List (Nat × Str × Bool)} (hg : sg.names.lookup x = some .globalImplicit) (hd : (x == ("__debug__" : Str)) = false) (hm : mg x = some (.ref (T.ca c)))
      (hi : Ng[i]? = some y) (hl : sg.names.lookup y = some .local) (hy : (y == ("__debug__" : Str)) = false ∧ (y == ("__classdict__" : Str)) = false) (hr : sg.names.lookup ("repr" : Str) = some .globalImplicit) (hf : T.fld c = some f) (xf : XfC K (T.ca c)) (no : PySem.W.findIn K (.ref (T.ca c)) f = some none)
      (ab : ∀ (env : Env) (q : Pos), attributeBase (.Name y q) f env (eval (.Name y q) env) = eval (.Name y q) env) (r : HdFit T K mg sg Ng hds hs) :
      HdFit T K mg sg Ng (.ExceptHandler (some (.Name x np)) (some y) [.Return (some (.BinOp (.Constant (.str w) j p1) .Add (.Call (.Name "repr" p3) [.Attribute (.Name y p4) f p5] [] p6) p7)) p8] pp :: hds) ((c, w, true) :: hs)
/-- what the clauses ask -/
def clOf (T : Tb) (Ng : List Str) : List ExceptHandler → List (Nat × Str × Bool) → List Cl
  | .ExceptHandler _ (some y) _ _ :: hds, (c, w, true) :: hs => ⟨.ref (T.ca c), some (Ng.idxOf y), fun a cls d D σ H => σ[Ng.idxOf y]? = some (some (.ref a)) ∧ cls = .ref (T.ca c) ∧ ∃ f dd v x, T.fld c = some f ∧ d = some dd ∧ H dd = some (.xd [(f, v)]) ∧ Shown T.K H v x ∧ w.length + x.length ≤ sizeLine ∧ D.rt (.str (w ++ x)) H⟩ :: clOf T Ng hds hs
  | _ :: hds, (c, w, _) :: hs => ⟨.ref (T.ca c), none, fun _ _ _ D σ H => D.rt (.str w) H⟩ :: clOf T Ng hds hs
  | _, _ => []
theorem idx_of {Ng : List Str} {i : Nat} {y : Str} (nd : Ng.Nodup) (hi : Ng[i]? = some y) : Ng.idxOf y = i := by
  obtain ⟨h1, h2⟩ := List.getElem?_eq_some_iff.mp hi
  rw [← h2]
  exact nd.idxOf_getElem i h1
section
variable {T : Tb} {X : Cx}
theorem cls_ok (hK : X.K = T.K) (hG : X.A.guards = some []) (hu : X.A.units + 1 < cLine) {sg : Scope} {Ng : List Str} (hN : X.N = Ng) (hE : X.env.scope = sg) (nd : Ng.Nodup) (mr : X.mg ("repr" : Str) = none) : ∀ {hds : List ExceptHandler} {hs : List (Nat × Str × Bool)}, HdFit T X.K X.mg sg Ng hds hs → ClsOk X hds (clOf T Ng hds hs)
  | _, _, .nil => .nil
  | _, _, .plain hg hd hm r => .plain ⟨by show X.env.scope.names.lookup _ = _; rw [hE]; exact hg, hd, .inl hm⟩ rfl (fun a oe cls d pn _ _ => weakB (pss_one (ps_ret pe_str)) fun D σ H h => h) (cls_ok hK hG hu hN hE nd mr r)
  | _, _, .named (i := i) hg hd hm hi hl hy hr hf xf no ab r => by
    refine .named (i := i) ⟨by show X.env.scope.names.lookup _ = _; rw [hE]; exact hg, hd, .inl hm⟩ (by show some _ = _; rw [idx_of nd hi]) (by rw [hN]; exact hi) (by show X.env.scope.names.lookup _ = _; rw [hE]; exact hl) (fun a oe cls d pn hz hv => ?_) (cls_ok hK hG hu hN hE nd mr r)
    have hgl : Gl (X.suite a ((a, oe) :: pn)) ("repr" : Str) := by
      show X.env.scope.names.lookup _ = _
      rw [hE]
      exact hr
    refine weakB (pss_one (ps_ret (pe_op op_add_str pe_str (pe_callB (call_repr (X := X.suite a ((a, oe) :: pn)) hG hu) hgl mr (by decide +kernel) (pa_cons (pe_xf (X := X) (a := a) (pn := pn) xf no hz hv (pe_var (X := X.suite a ((a, oe) :: pn)) (i := i) (by show X.N[i]? = _; rw [hN]; exact hi) (.inl (by show X.env.scope.names.lookup _ = _; rw [hE]; exact hl)) hy.1 hy.2) (ab _ _)) pa_nil))))) fun D σ H h => ?_
    obtain ⟨h1, h2, f', dd, v, x, h3, h4, h5, h6, h7, h8⟩ := h
    rw [idx_of nd hi] at h1
    rw [hf] at h3
    cases h3
    exact ⟨.ref a, h1, rfl, h2, dd, _, v, h4, h5, by simp [List.lookup], v, x, rfl, (by show Shown X.K H v x; rw [hK]; exact h6), _, _, rfl, rfl, h7, h8⟩
theorem wish_of {K : PySem.W.Frag} {mg : Str → Option Value} {sg : Scope} {Ng : List Str} {W0 : WX} {D : Ends} {c : Nat} {d : Option Addr} {σ : L2.St} {H : Hp} {w : Str} (nd : Ng.Nodup) (q : D.rt (.str w) H) : ∀ {hds : List ExceptHandler} {hs : List (Nat × Str × Bool)}, HdFit T K mg sg Ng hds hs →
    (∀ e ∈ hs, PySem.W.exmOne K (.ref (T.ca c)) (.ref (T.ca e.1)) = some (Nat.beq e.1 c)) → (∃ w0 b, (hs.find? fun h => Nat.beq h.1 c) = some (c, w0, b) ∧ (b = false → w = w0) ∧
      (b = true → ∃ f da v x, T.fld c = some f ∧ d = some da ∧ H da = some (.xd [(f, v)]) ∧ Shown T.K H v x ∧ okN (w0.length + x.length) = true ∧ w = w0 ++ x)) → clWish K W0 D (clOf T Ng hds hs) (.ref (T.ca c)) d σ H
  | _, _, .nil, _, ⟨w0, b, h, _⟩ => by cases h
  | _, _, .plain (c := c2) (w := w2) hg hd hm r, ex, ⟨w0, b, h, h1, h2⟩ => by
    have e2 := ex _ List.mem_cons_self
    refine ⟨Nat.beq c2 c, e2, fun z a _ => ?_, fun z => wish_of nd q r (fun e he => ex e (List.mem_cons_of_mem _ he)) ⟨w0, b, ?_, h1, h2⟩⟩
    · rw [List.find?_cons, show Nat.beq c2 c = true from z] at h
      cases h
      show D.rt (.str w2) H
      rw [← h1 rfl]
      exact q
    · rw [List.find?_cons, show Nat.beq c2 c = false from z] at h
      exact h
  | _, _, .named (c := c2) (w := w2) (y := y) hg hd hm hi hl hy hr hf xf no ab r, ex, ⟨w0, b, h, h1, h2⟩ => by
    have e2 := ex _ List.mem_cons_self
    refine ⟨Nat.beq c2 c, e2, fun z a _ hs => ?_, fun z => wish_of nd q r (fun e he => ex e (List.mem_cons_of_mem _ he)) ⟨w0, b, ?_, h1, h2⟩⟩
    · rw [List.find?_cons, show Nat.beq c2 c = true from z] at h
      cases h
      obtain ⟨f, da, v, x, k1, k2, k3, k4, k5, k6⟩ := h2 rfl
      refine ⟨hs, rfl, f, da, v, x, k1, k2, k3, k4, okN_size k5, ?_⟩
      show D.rt (.str (w2 ++ x)) H
      rw [← k6]
      exact q
    · rw [List.find?_cons, show Nat.beq c2 c = false from z] at h
      exact h
/-- the def's text -/
def tellB (a : Str) (hds : List ExceptHandler) (p1 p2 p3 p4 p5 p6 : Pos) (j : Nat) : List Stmt := [.Try [.Expr (.Call (.Name a p1) [] [] p2) p3] hds [] [] p4, .Return (some (.Constant (.str (Str.ofString "none")) j p5)) p6]
theorem met_gives (hK : X.K = T.K) (hG : X.A.guards = some []) (hu : X.A.units + 10 < cLine) {Ng : List Str} {x a q : Str} {sg : Scope} {g : Addr} {cdg : Value} {h0 : ExceptHandler} {hds : List ExceptHandler} {hs : List (Nat × Str × Bool)} {p1 p2 p3 p4 p5 p6 : Pos} {j : Nat} (nd : Ng.Nodup) (fit : HdFit T X.K X.mg sg Ng (h0 :: hds) hs) (mr : X.mg ("repr" : Str) = none)
    (exm : ∀ e ∈ hs, ∀ e' ∈ hs, PySem.W.exmOne X.K (.ref (T.ca e.1)) (.ref (T.ca e'.1)) = some (Nat.beq e'.1 e.1)) (hs0 : ∀ f : Addr, (L2.start Ng [V.ref f])[0]? = some (some (V.ref f))) :
    LamX.GivesTo X Ng x sg g cdg (tellB a (h0 :: hds) p1 p2 p3 p4 p5 p6 j) a q (TMet T hs) := by
  intro f c' s H Q tl act hc h
  refine ⟨_, pss_cons (ps_try_cls (X := (cxOf C8.CX0 X.prog X.w X.K X.mg X.base Ng x sg g cdg X.A X.stack s H C8.E0).nox) (l := clOf T Ng (h0 :: hds) hs)
      (tb := fun W D σ H => ∃ Ech : XK, (∀ cls d σ' H', Ech cls d H' → W cls d σ' H') ∧ σ[0]? = some (some (.ref f)) ∧ H c' = some (LamX.CodeO c' q) ∧ tl Ech H fun _ H' => D.nx σ H')
      rfl rfl nd LamX.takes0 (fun W pn xe tk _ => ?_) (cls_ok (T := T) (X := (cxOf C8.CX0 X.prog X.w X.K X.mg X.base Ng x sg g cdg X.A X.stack s H C8.E0).nox) hK hG (by show X.A.units + 3 + 1 < cLine; omega) rfl rfl nd mr fit)) (pss_one (ps_ret pe_str)), ?_⟩
  · refine ⟨fun pins s' σ H' D I h' => ?_⟩
    obtain ⟨Ech, hW, h1, h2, h3⟩ := h'
    have hp := act W pn xe Ech p1 p2 tk hW
    have hq := pss_one (ps_expr (pos := p3) hp)
    exact hq.run pins s' σ H' D I ⟨h1, h2, h3⟩
  · refine ⟨fun cls d H' => ∃ w, MetAt T hs cls d H' w ∧ Q (.str w) H', fun cls d σ' H' ⟨w, ⟨c, w0, b, e1, e2, e3, e4⟩, hq⟩ => ?_, hs0 f, hc, h⟩
    subst e1
    refine wish_of nd hq fit (fun e he => ?_) ⟨w0, b, e2, e3, e4⟩
    exact exm (c, w0, b) (List.mem_of_find?_eq_some e2) e he
/-- where the maker of lambdas stands -/
def LamAt (T : Tb) (X : Cx) : Prop := ∃ c P : Addr, LamX.TabB X.base X.mg c P ∧ X.env.code = .ref c ∧ (P, X.env.qual ++ "<lambda>") ∈ T.tabs ∧ ∀ p ∈ T.tabs, p.1 = P → p.2 = X.env.qual ++ "<lambda>"
/-- what is known of the def that tells -/
structure TellDef (T : Tb) (K : PySem.W.Frag) (mg : Str → Option Value) (x : Str) (hs : List (Nat × Str × Bool)) : Prop where
  ex : ∃ (g : Addr) (a : Str) (Ng : List Str) (oc kV doc pm cdv ct : Value) (od an : Option Addr) (osl : Array (Option Value)) (pg : Arguments) (sg : Scope) (h0 : ExceptHandler) (hds : List ExceptHandler) (p1 p2 p3 p4 p5 p6 : Pos) (j : Nat),
    mg x = some (.ref g) ∧ PySem.W.keepIn K (.ref g) = true ∧ K.lookup g = some ⟨oc, od, .func (PySem.W.fnOf x x pg (tellB a (h0 :: hds) p1 p2 p3 p4 p5 p6 j) sg .none kV doc pm an cdv ct), osl⟩ ∧ PySem.W.codeIn K cdv x = true ∧
    L2.Binds K (PySem.W.fnOf x x pg (tellB a (h0 :: hds) p1 p2 p3 p4 p5 p6 j) sg .none kV doc pm an cdv ct) [a] [] ∧ FnScope Ng [a] sg ∧ Ng[0]? = some a ∧ Vis sg a ∧ (a == ("__debug__" : Str)) = false ∧ (a == ("__classdict__" : Str)) = false ∧ HdFit T K mg sg Ng (h0 :: hds) hs
  mr : mg ("repr" : Str) = none
  exm : ∀ e ∈ hs, ∀ e' ∈ hs, PySem.W.exmOne K (.ref (T.ca e.1)) (.ref (T.ca e'.1)) = some (Nat.beq e'.1 e.1)
theorem met_ok (hK : X.K = T.K) (hG : X.A.guards = some []) (hun : X.A.units + 10 < cLine) {x : Str} {hs : List (Nat × Str × Bool)} (td : TellDef T X.K X.mg x hs) (la : LamAt T X) : MetOk T X x hs := by
  intro j ps body scope p lp pos t hr hl hn hg hdb hbody
  obtain ⟨⟨g, a, Ng, oc, kV, doc, pm, cdv, ct, od, an, osl, pg, sg, h0, hds, p1, p2, p3, p4, p5, p6, jj, e1, e2, e3, e4, e5, e6, e7, e8, e9, e10, e11⟩, mr, exm⟩ := td
  obtain ⟨c, P, tB, hcode, hm, hu⟩ := la
  have hs0 : ∀ f : Addr, (L2.start Ng [V.ref f])[0]? = some (some (V.ref f)) := fun f => by
    unfold L2.start
    rfl
  obtain ⟨h1, h2⟩ : defaultsOf ps X.env = ([], []) ∧ ∀ (q : Str) (cl : List (Str × Addr)) (pm cv ctv : Value), bindArgs (PySem.W.kla_fn "<lambda>" q ps body scope cl pm cv ctv) ⟨[], []⟩ = pure [] := by
    obtain ⟨f1, f2, f3, f4, f5, f6, f7⟩ := ps
    unfold noArgs at hn
    split at hn
    · rename_i e
      cases e
      exact ⟨rfl, fun _ _ _ _ _ => rfl⟩
    · cases hn
  exact LamX.pe_lamcall hg e1 e2 e3 e4 e5 e6 e7 e8 (met_gives hK hG hun e6.nd e11 mr exm hs0) tB hcode hm hu hr hl h1 h2 hbody hdb e9 e10
end
end Mi
set_option Elab.async false
set_option linter.all false
set_option maxRecDepth 100000
set_option maxHeartbeats 4000000
/-! Mini: an exception class with a field, made: its __init__ says super().__init__(v); self.f = v -/
namespace Mi
open PySem PySem.Spec PyProof.Rows L2 PySem.W
/-- the body of such an __init__ -/
def cntB (prm f : Str) (p0 p1 p2 p3 p4 p5 p6 p7 p8 p9 : Pos) : List Stmt :=
  [.Expr (.Call (.Attribute (.Call (.Name "super" p0) [] [] p1) "__init__" p2) [.Name prm p3] [] p4) p5, .Assign [.Attribute (.Name "self" p6) f p7] (.Name prm p8) p9]
/-- what is known of such a class: a row of facts -/
structure CntC (P : Program) (K : Frag) (mg : Str → Option Value) (C fI cc cda : Addr) (B newId initId : String) (bmB : List Value) (prm f qual : Str) (params : Arguments) (scope : Scope) (dV kV doc pm ct : Value) (an : Option Addr) (body : List Stmt) : Prop where
  fb : ExcBaseFacts B newId initId bmB
  kx : KxsFacts B initId
  sf : StoreFacts B bmB "object.__setattr__" "object"
  q : excInitIn K C bmB newId = true
  hi : findIn K (.ref C) "__init__" = some (some (.ref fI))
  hf : isFn K (.ref fI) = true
  ho : ∃ (oc : Value) (od : Option Addr) (osl : Array (Option Value)), K.lookup fI = some ⟨oc, od, .func (ksFn "__init__" qual params body scope dV kV doc pm an (.ref cda) ct cc), osl⟩
  hcd : codeIn K (.ref cda) qual = true
  cell : ∃ (cl : Value) (cld : Option Addr) (csl : Array (Option Value)), K.lookup cc = some ⟨cl, cld, .cell (some (.ref C)), csl⟩
  code : ∃ (ccl : Value) (cdd : Option Addr) (ccs : Array (Option Value)) (vs : Array Value) (file : Str) (tf : Tok), K.lookup cda = some ⟨ccl, cdd, .fields vs, ccs⟩ ∧ vs[2]? = some (.str file tf) ∧ (P.main.file == file) = true
  hD : ∃ cd, clsIn K C = some cd
  sub : mroIn K C (.ref C) = some true
  sup : mg ("super" : Str) = none
  supIn : ks_superIn K C C "__init__" = some (some (.builtin initId))
  subB : subIn K (.ref C) (.type B) = some true
  opq : nsIn K cStatics "thirdparty.any" = some none
  top : (P.main.scope.names.lookup ("super" : Str)).isSome = false
  sa : findIn K (.ref C) "__setattr__" = some (some (.builtin "object.__setattr__"))
  over : excOver K C bmB = true
  tk : takerIn K C f = some none
  hd : hasDictIn K C = true
  kp : keepIn K (.ref C) = true
  exC : subIn K (.ref C) (.type "BaseException") = some true
  tyC : typeIn K (.ref C) = some (.type "type")
  tyI : typeIn K (.ref fI) = some (.type "function")
  binds : ∀ (s : Shared) (e : Addr) (u : Value), BindsTo s (ksFn "__init__" qual params body scope dV kV doc pm an (.ref cda) ct cc) ⟨[.ref e, u], []⟩ [("self", .ref e), (prm, u)]
  hp0 : ∃ ar : Arg, ar.arg = ("self" : Str) ∧ (params.posonlyargs ++ params.args).head? = some ar
  sw : ∀ (prm' : Str) (p6 p7 p8 p9 : Pos) (L : Addr), swapsWith (.Name prm' p8) (some (.Attribute (.Name "self" p6) f p7)) p9.line (ksEnv qual scope L fI (.ref cda) cc) = pure false
  ev : ∀ (prm' : Str) (p0 p1 p2 p3 p4 p5 p6 p7 p8 p9 : Pos), body = cntB prm' f p0 p1 p2 p3 p4 p5 p6 p7 p8 p9 → ∀ L, ∃ pl : Sem Bool, eval (.Call (.Attribute (.Call (.Name "super" p0) [] [] p1) "__init__" p2) [.Name prm' p3] [] p4) (ksEnv qual scope L fI (.ref cda) cc) = (do
      let ov ← attributeBase (.Call (.Name "super" p0) [] [] p1) "__init__" (ksEnv qual scope L fI (.ref cda) cc) (eval (.Call (.Name "super" p0) [] [] p1) (ksEnv qual scope L fI (.ref cda) cc))
      standAt p2.atName
      let (f, first) ← holding [ov] (getMethod ov "__init__" pl)
      callWith p4 f first (backTo p4 (starEach [.Name prm' p3] (ksEnv qual scope L fI (.ref cda) cc))) [])
  sc1 : scope.names.lookup ("self" : Str) = some .local
  sc2 : scope.names.lookup prm = some .local
  sc3 : scope.names.lookup ("super" : Str) = some .globalImplicit
  sc4 : scope.names.lookup ("__class__" : Str) = some .free
  sck : scope.kind = .function
  sco : scope.isCoroutine = false
  scg : scope.isGenerator = false
  scc : ∀ x ∈ scope.names, x.2 ≠ .cell
  dVn : dV = .none
section
variable {P : Program} {w : World} {K : Frag} {mg : Str → Option Value} {C fI cc cda : Addr} {B newId initId : String} {bmB : List Value} {prm f qual : Str} {params : Arguments} {scope : Scope} {dV kV doc pm ct : Value} {an : Option Addr} {p0 p1 p2 p3 p4 p5 p6 p7 p8 p9 : Pos}
theorem init_walk (T : CntC P K mg C fI cc cda B newId initId bmB prm f qual params scope dV kV doc pm ct an (cntB prm f p0 p1 p2 p3 p4 p5 p6 p7 p8 p9)) (hne : (prm == ("self" : Str)) = false) (hpd : (prm == ("__debug__" : Str)) = false) {A : Around} {s : Shared} {e t : Addr} {u : Value} {R : Result → Shared → Prop} (hE : s.heap.get? e = some (excObj C t none .none))
    (hK : K.In s.heap) (heK : K.lookup e = none) (hG : s.heap.Ns mainGlobals mg) (hB : ∃ mb, s.heap.Ns builtinsNs mb ∧ ∀ x : Str, x ≠ "__name__" → mb x = bootBuiltins x) (hL : s.heap.NoLimit) (hr : A.depth < recursionLimit)
    (h : ∀ h' tk t1 dx, (∀ b o, b ≠ e → s.heap.get? b = some o → h'.get? b = some o) → h'.get? e = some (excObj C t1 (some dx) .none) → s.heap.objs.size ≤ dx → h'.Ns1 dx (fun y => if y = f then some u else none) → R (.ok (.ret .none)) { s with heap := h', toks := tk }) :
    codeAny (model P w) A (.call (.ref fI) ⟨[.ref e, u], []⟩) R s := by
  obtain ⟨sk, scN, scG, scC, scM⟩ := scope
  obtain rfl : sk = .function := T.sck
  obtain ⟨oc, od, osl, ho⟩ := T.ho
  refine ks_codeAny_call_defAt (binds := [("self", .ref e), (prm, u)]) (fd := ksFn "__init__" qual params (cntB prm f p0 p1 p2 p3 p4 p5 p6 p7 p8 p9) ⟨.function, scN, scG, scC, scM⟩ dV kV doc pm an (.ref cda) ct cc) hr (hK _ _ ho) rfl hL (codeRec_of hK T.hcd) rfl ?_ T.scc ?_ (fun h₁ hns hk₁ => ?_) T.sco T.scg T.sck
  · exact T.binds _ _ _
  · intro x hx
    rcases List.mem_cons.mp hx with rfl | hx
    · exact T.sc1
    · rw [List.mem_singleton.mp hx]
      exact T.sc2
  · obtain ⟨cl, cld, csl, hcell⟩ := T.cell
    obtain ⟨ccl, cdd, ccs, vs, file, tf, hcode, hvs, hfile⟩ := T.code
    obtain ⟨cdD, hD⟩ := T.hD
    obtain ⟨mb, hB1, hB2⟩ := hB
    obtain ⟨g, eg⟩ : ∃ g, g = hideAll s.heap [e] := ⟨_, rfl⟩
    obtain ⟨L', eL⟩ : ∃ L', L' = s.heap.objs.size := ⟨_, rfl⟩
    have g_of : ∀ {b : Addr} {o : Obj}, g.get? b = some o → s.heap.get? b = some o := fun {b o} q => by rw [eg] at q; exact of_hideAll _ q
    have g_in : ∀ {b : Addr} {o : Obj}, s.heap.get? b = some o → b ≠ e → g.get? b = some o := fun {b o} q n => by rw [eg]; exact hideAll_get _ q (by simpa using n)
    have hKg : K.In g := fun b o q => g_in (hK b o q) (fun z => by rw [z, heK] at q; cases q)
    have hlE := Heap.lt_size hE
    have nsG : g.Ns mainGlobals mg := by
      obtain ⟨o, es, ep, q, d, r⟩ := hG
      exact ⟨o, es, ep, g_in q (fun z => by rw [z, hE] at q; cases q; cases d), d, r⟩
    have nsB : g.Ns builtinsNs mb := by
      obtain ⟨o, es, ep, q, d, r⟩ := hB1
      exact ⟨o, es, ep, g_in q (fun z => by rw [z, hE] at q; cases q; cases d), d, r⟩
    obtain ⟨mL, emL⟩ : ∃ mL : Str → Option Value, mL = fun x => (([("self", .ref e), (prm, u)] : List (Str × Value)).reverse.lookup x) := ⟨_, rfl⟩
    have m1 : mL ("self" : Str) = some (.ref e) := by
      rw [emL]
      show ([(prm, u), (("self" : Str), Value.ref e)] : List (Str × Value)).lookup ("self" : Str) = _
      have : (("self" : Str) == prm) = false := by
        rw [Bool.eq_false_iff] at hne ⊢
        intro z
        rw [eq_of_beq z] at hne
        exact hne (beq_self_eq_true _)
      simp [List.lookup, this]
    have m2 : mL prm = some u := by
      rw [emL]
      show ([(prm, u), (("self" : Str), Value.ref e)] : List (Str × Value)).lookup prm = _
      simp [List.lookup]
    have F0 : Fr g L' h₁ mL := ⟨by rw [eL, emL]; exact hns, fun b o q => hk₁ b o (g_of q), by rw [eg, eL]; exact Nat.le_of_eq (hideAll_size _ _)⟩
    have N0 : News g L' h₁ [(e, excObj C t none .none)] := fun p hp => by
      rw [List.mem_singleton.mp hp]
      exact ⟨hk₁ _ _ hE, fun z => Nat.ne_of_lt hlE (z.trans eL), by rw [eg]; exact hideAll_none _ (List.mem_singleton.mpr rfl)⟩
    rw [← eL]
    show _root_.PySem.wpAt (model P w) (A.deeper (ksEnv qual ⟨.function, scN, scG, scC, scM⟩ L' fI (.ref cda) cc)) (.func (cntB prm f p0 p1 p2 p3 p4 p5 p6 p7 p8 p9) (ksEnv qual ⟨.function, scN, scG, scC, scM⟩ L' fI (.ref cda) cc)) (execs (cntB prm f p0 p1 p2 p3 p4 p5 p6 p7 p8 p9) (ksEnv qual ⟨.function, scN, scG, scC, scM⟩ L' fI (.ref cda) cc)) _ _ _
    obtain ⟨pl, he⟩ := T.ev prm p0 p1 p2 p3 p4 p5 p6 p7 p8 p9 rfl L'
    refine ks_wpAt_execs_cons (ks_wpAt_Expr_any (ks_wpAt_MethodCall (pl := pl) ?_ he))
    have X1 : K.In h₁ := hKg.keeps F0.keep
    obtain ⟨ar, har, hp0⟩ := T.hp0
    obtain ⟨oD, hD1, hD2⟩ : ∃ oD, h₁.get? C = some oD ∧ oD.data = .cls cdD := by
      unfold PySem.W.clsIn at hD
      split at hD
      · rename_i c d cd' sl ho'
        cases hD
        exact ⟨_, X1 _ _ ho', rfl⟩
      · cases hD
    refine ks_wpAt_super_base (env := ksEnv qual ⟨.function, scN, scG, scC, scM⟩ L' fI (.ref cda) cc) (fd := ksFn "__init__" qual params (cntB prm f p0 p1 p2 p3 p4 p5 p6 p7 p8 p9) ⟨.function, scN, scG, scC, scM⟩ dV kV doc pm an (.ref cda) ct cc) T.sc3 T.sc4 (by decide) rfl (X1 _ _ ho) rfl hp0 rfl (X1 _ _ hcode) rfl hvs hfile T.top ?_
    refine ks_loadName_global T.sck T.sc3 (PySem.Calls.loadGlobal_builtin (env := ksEnv qual ⟨.function, scN, scG, scC, scM⟩ L' fI (.ref cda) cc) (nsG.keeps F0.keep) T.sup (nsB.keeps F0.keep) ((hB2 _ (by decide +kernel)).trans (by first | rfl | kernel_rfl)) ⟨rfl, ?_⟩)
    refine wpAny_loadName_free T.sck T.sc4 rfl ⟨_, X1 _ _ hcell, rfl⟩ ?_
    rw [har]
    refine wpAny_loadName_local T.sck T.sc1 F0.ns m1 ?_
    refine ks_wpAny_isType_cls hD1 hD2 ⟨rfl, ?_⟩
    refine ks_wpAny_call_super hD1 hD2 (hk₁ _ _ hE) rfl (fun c e => by cases e) (looks_mroIn X1 T.sub) (fun h2 e2 k2 => ?_)
    obtain ⟨F2, N2, l2⟩ := ks_newsPush (s := ⟨h₁, s.gens, s.drawn, s.toks + 2, s.os⟩) F0 N0 rfl e2 k2
    refine kxs_method (s := ⟨h2, s.gens, s.drawn, s.toks + 2, s.os⟩) T.kx F2 hKg N2 (List.mem_cons_self ..) (InstAt.of_exc0 N2 (List.mem_cons_of_mem _ (List.mem_cons_self ..))) T.opq T.supIn T.subB (by decide) (fun q h3 F3 N3 l3 => ?_)
    refine kxs_callWith1 N3 (List.mem_cons_self ..) (Calls.spliced_cons (wpAny_Name (wpAny_loadName_local T.sck T.sc2 F3.ns m2 (Calls.spliced_nil ⟨kxs_at N3 (List.mem_cons_self ..), ?_⟩)) hpd))
    have heq : e ≠ q := Nat.ne_of_lt (l3 (e, excObj C t none .none) (List.mem_cons_of_mem _ (List.mem_cons_self ..)))
    have hes : e ≠ h₁.objs.size := Nat.ne_of_lt (l2 (e, excObj C t none .none) (List.mem_cons_self ..))
    refine kxs_call F3 hKg N3 T.fb T.q (List.mem_cons_self ..) (.tail (fun z => heq z.symm) (.tail (fun z => hes z.symm) (.head (fun _ hp => nomatch hp)))) (by rw [sizeLine_eq]; exact (by decide : 1 ≤ 16777216)) (fun t1 h4 F4 N4 l4 => ?_)
    have k4 : ∀ b o, s.heap.get? b = some o → b ≠ e → h4.get? b = some o := fun b o z n => F4.keep _ _ (g_in z n)
    show _root_.PySem.wpAt (model P w) (A.deeper (ksEnv qual ⟨.function, scN, scG, scC, scM⟩ L' fI (.ref cda) cc)) (.func (cntB prm f p0 p1 p2 p3 p4 p5 p6 p7 p8 p9) (ksEnv qual ⟨.function, scN, scG, scC, scM⟩ L' fI (.ref cda) cc)) (execs [Stmt.Assign [(Expr.Name "self" p6).Attribute f p7] (Expr.Name prm p8) p9] (ksEnv qual ⟨.function, scN, scG, scC, scM⟩ L' fI (.ref cda) cc)) _ _ _
    refine ks_wpAt_execs_cons (ks_wpAt_Assign_Attr (wpAt_of_wpAny (wpAny_Name (wpAny_loadName_local T.sck T.sc2 F4.ns m2 (wpAny_Name (wpAny_loadName_local T.sck T.sc1 F4.ns m1 ?_) (by decide))) hpd)) (T.sw prm p6 p7 p8 p9 L'))
    have het : e ≠ t1 := Nat.ne_of_lt (l4 (e, excObj C t none .none) (List.mem_cons_of_mem _ (List.mem_cons_of_mem _ (List.mem_cons_self ..))))
    refine set_exc0 (s := ⟨h4, s.gens, s.drawn, s.toks + 3, s.os⟩) T.sf F4 hKg N4 (List.mem_cons_of_mem _ (List.mem_cons_of_mem _ (List.mem_cons_of_mem _ (List.mem_cons_self ..)))) T.sa T.over T.tk T.hd rfl (.tail (fun z => het z.symm) (.tail (fun z => heq z.symm) (.tail (fun z => hes z.symm) (.head (fun _ hp => nomatch hp))))) (by show 1 ≤ 1000; decide) (fun dx h5 F5 N5 l5 => ?_)
    show _root_.PySem.wpAt (model P w) (A.deeper (ksEnv qual ⟨.function, scN, scG, scC, scM⟩ L' fI (.ref cda) cc)) (.func (cntB prm f p0 p1 p2 p3 p4 p5 p6 p7 p8 p9) (ksEnv qual ⟨.function, scN, scG, scC, scM⟩ L' fI (.ref cda) cc)) (execs [] (ksEnv qual ⟨.function, scN, scG, scC, scM⟩ L' fI (.ref cda) cc)) _ _ _
    refine wpAt_of_wpAny ?_
    refine wpAny_execs_nil ?_
    refine h h5 _ t1 dx (fun b o n z => F5.keep _ _ (g_in z n)) (N5 (e, excObj C t1 (some dx) .none) (List.mem_cons_of_mem _ (List.mem_cons_of_mem _ (List.mem_cons_of_mem _ (List.mem_cons_of_mem _ (List.mem_cons_self ..)))))).1 ?_ ?_
    · have a1 : h₁.objs.size < dx := l5 (h₁.objs.size, _) (List.mem_cons_of_mem _ (List.mem_cons_of_mem _ (List.mem_cons_self ..)))
      have a2 : s.heap.objs.size < h₁.objs.size := hns.lt
      exact Nat.le_of_lt (Nat.lt_trans a2 a1)
    · refine ⟨_, _, _, (N5 _ (List.mem_cons_self ..)).1, rfl, ?_, ?_, ?_⟩
      · intro en hen
        rw [List.mem_toArray] at hen
        rw [List.mem_singleton.mp hen]
        exact ⟨f, _, rfl⟩
      · exact List.pairwise_singleton _ _
      · intro y
        show _ = (if y = f then some u else none)
        by_cases hy : y = f
        · rw [hy, if_pos rfl]
          simp [nsFind, findBy, putL, Value.isStr]
        · rw [if_neg hy]
          have hy' : ¬ f = y := fun z => hy z.symm
          simp [nsFind, findBy, putL, Value.isStr, hy']
theorem relO_one {f : Str} {y : V} {u : Value} (r : RelV y u) (g : Str) : RelO (([(f, y)] : List (Str × V)).lookup g) (if g = f then some u else none) := by
  by_cases h : g = f
  · subst h
    simp only [List.lookup, BEq.rfl, if_true]
    exact r
  · have e : (g == f) = false := by simpa using h
    rw [if_neg h]
    simp only [List.lookup, e]
    exact True.intro
theorem pmk_cnt {X : Cx} {C fI cc cda : Addr} {B newId initId : String} {bmB : List Value} {prm f qual : Str} {params : Arguments} {scope : Scope} {dV kV doc pm ct : Value} {an : Option Addr} {p0 p1 p2 p3 p4 p5 p6 p7 p8 p9 : Pos}
    (T : CntC X.prog X.K X.mg C fI cc cda B newId initId bmB prm f qual params scope dV kV doc pm ct an (cntB prm f p0 p1 p2 p3 p4 p5 p6 p7 p8 p9)) (hne : (prm == ("self" : Str)) = false) (hpd : (prm == ("__debug__" : Str)) = false)
    {x : Str} {e : Expr} {te : TE} {p pos : Pos} {n : Nat} (hr : Room (n + 1) X.A) (gC : X.mg x = some (.ref C)) (hg : Gl X x) (he : PE X e te) (hdb : (x == ("__debug__" : Str)) = false) (hst : starEach [e] X.env = (false, eval e X.env) :: starEach [] X.env) :
    PMk X (.Call (.Name x p) [e] [] pos) (fun σ H Q => te σ H fun v H1 => ∀ d, H1 d = none → Q (.ref C) (some d) (upd H1 d (.xd [(f, v)]))) := by
  intro pins s σ H Q I h
  refine wpAny_Call_Name_kw (ld_glob I hg gC ?_ hdb)
  have ha : PA X [e] (L2.tCons te L2.tNil) := pa_cons he pa_nil hst
  refine PySem.W.callWith_K (h₀ := X.base) I.ok.mod.kin T.kp (thn (ha.run pos pins s σ H (fun vs H1 => match vs with | [v] => ∀ d, H1 d = none → Q (.ref C) (some d) (upd H1 d (.xd [(f, v)])) | _ => False) I h) fun us s1 hh => ?_) hst rfl
  obtain ⟨vs, H1, I1, r1, q⟩ := hh
  refine ⟨I1.kIn, ?_⟩
  split at q
  case h_2 => exact q.elim
  rename_i v
  cases r1 with
  | cons ru rn =>
    rename_i u us'
    cases rn
    show wpAny _ _ (call (.ref C) [u]) _ _ _
    obtain ⟨hp, g, dr, tk, os⟩ := s1
    obtain ⟨nm, N, qn, bs, bm, hdct, sn, sub, ab, col, dd, k0, k1, k2, k3, k5, hC, hT⟩ := PySem.W.excInit_of I1.kIn T.q
    have hsz : hp.objs.size ≤ hp.objs.size + 1 := Nat.le_succ _
    have kk : ∀ b o, hp.get? b = some o → ((hp.push (PySem.W.kdv_tup [u])).push (PySem.HandSPX.excO C hp.objs.size)).get? b = some o := fun b o e => Heap.get?_push_of_some _ (Heap.get?_push_of_some _ e)
    have hget : ((hp.push (PySem.W.kdv_tup [u])).push (PySem.HandSPX.excO C hp.objs.size)).get? (hp.objs.size + 1) = some (PySem.HandSPX.excO C hp.objs.size) := by heap_get
    obtain ⟨h2, eh2⟩ : ∃ h2, h2 = (hp.push (PySem.W.kdv_tup [u])).push (PySem.HandSPX.excO C hp.objs.size) := ⟨_, rfl⟩
    have sz2 : hp.objs.size + 1 < h2.objs.size := by rw [eh2]; exact Heap.lt_size hget
    refine wpAny_call (PySem.HandSPX.call_own T.fb hT hC (PySem.W.looks_findIn I1.kIn T.hi) (fun self => PySem.W.bind_fn I1.kIn self T.tyI) (by show 1 ≤ sizeLine; rw [sizeLine_eq]; decide) ?_)
    rw [← eh2] at kk hget ⊢
    obtain ⟨mb, hB1, hB2⟩ := I1.mod.blt
    have bk := I1.bk
    refine init_walk T hne hpd (t := hp.objs.size) (s := ⟨h2, g, dr, tk, os⟩) hget (I1.kIn.keeps kk) ?_ ((I1.mod.glob.keeps bk).keeps kk) ⟨mb, (hB1.keeps bk).keeps kk, hB2⟩ ((I1.mod.nolimit.keeps bk).keeps kk) ?_ (fun h' tk' t1 dx k5 e5 hd5 n5 => ?_)
    · cases z : X.K.lookup (hp.objs.size + 1) with
      | none => rfl
      | some o => exact absurd (Heap.lt_size (I1.kIn _ _ z)) (by show ¬ (hp.objs.size + 1 < hp.objs.size); omega)
    · have := (hr.make C [u] []).dp
      omega
    · refine ⟨rfl, ?_⟩
      obtain ⟨G, g1', g2'⟩ := restrict h' fun b => decide (b ≠ hp.objs.size + 1)
      have gk : ∀ b, b ≠ hp.objs.size + 1 → G.get? b = h'.get? b := fun b hb => g1' b (decide_eq_true hb)
      have ge : G.get? (hp.objs.size + 1) = none := g2' _ (by simp)
      have nha : ∀ {b : Addr} {o : Obj}, hp.get? b = some o → b ≠ hp.objs.size + 1 := fun {b o} z => Nat.ne_of_lt (Nat.lt_of_lt_of_le (Heap.lt_size z) hsz)
      have kG : ∀ b o, hp.get? b = some o → G.get? b = some o := fun b o z => by
        rw [gk b (nha z)]
        exact k5 b o (nha z) (kk b o z)
      have hdx : dx ≠ hp.objs.size + 1 := fun z => by rw [z] at hd5; exact Nat.lt_irrefl _ (Nat.lt_of_lt_of_le sz2 hd5)
      have hdz : hp.objs.size ≤ dx := Nat.le_trans (Nat.le_of_lt (Nat.lt_of_succ_lt sz2)) hd5
      have J : Inv X pins σ (upd H1 dx (.xd [(f, v)])) ⟨G, g, dr, tk', os⟩ := I1.laid (t' := tk') (a := dx) (o := .xd [(f, v)]) (h' := G) kG hdz ⟨_, n5.at fun o z => by rw [gk dx hdx]; exact z, relO_one ru⟩
      refine ⟨hp.objs.size + 1, _, _, ⟨G, g, dr, tk', os⟩, _, .ref C, some dx, rfl, J, fun b o z => ?_, ge, e5, ⟨rfl, rfl⟩, rfl, rfl, ?_, rfl, I1.bare, raises_own T.exC T.tyC, q dx (I1.hok.fresh hdz)⟩
      · by_cases hba : b = hp.objs.size + 1
        · rw [hba, ge] at z
          cases z
        · exact (gk b hba).symm.trans z
      · rw [upd_ne (Ne.symm hdx)]
        exact I1.hok.fresh hsz
theorem starEach_one {e : Expr} {env : Env} (h : notStar e = true) : starEach [e] env = (false, eval e env) :: starEach [] env := star_no h [] env
theorem exc_cnt {X : Cx} {T : Tb} {c : Nat} {C fI cc cda : Addr} {B newId initId : String} {bmB : List Value} {prm f qual : Str} {params : Arguments} {scope : Scope} {dV kV doc pm ct : Value} {an : Option Addr} {p0 p1 p2 p3 p4 p5 p6 p7 p8 p9 : Pos}
    (hc : T.ca c = C) (hf : T.fld c = some f) (Tc : CntC X.prog X.K X.mg C fI cc cda B newId initId bmB prm f qual params scope dV kV doc pm ct an (cntB prm f p0 p1 p2 p3 p4 p5 p6 p7 p8 p9)) (hne : (prm == ("self" : Str)) = false) (hpd : (prm == ("__debug__" : Str)) = false)
    {x : Str} {n : Nat} (hr : Room (n + 1) X.A) (gC : X.mg x = some (.ref C)) (hdb : (x == ("__debug__" : Str)) = false) : ExcOk T X c x true where
  no := fun z => nomatch z
  one := fun _ => ⟨f, hf, fun e te p pos hg hs he => by rw [hc]; exact pmk_cnt Tc hne hpd hr gC hg he hdb (starEach_one hs)⟩
theorem exc_own {X : Cx} {T : Tb} {c : Nat} {C : Addr} {B newId initId : String} {bmB : List Value} {x : Str} (hc : T.ca c = C) (hf : T.fld c = none) (F : ExcBaseFacts B newId initId bmB) (q : PySem.W.excIn X.K C bmB newId = true) (gC : X.mg x = some (.ref C)) (kC : PySem.W.keepIn X.K (.ref C) = true)
    (h1 : PySem.W.subIn X.K (.ref C) (.type "BaseException") = some true) (h2 : PySem.W.typeIn X.K (.ref C) = some (.type "type")) (hdb : (x == ("__debug__" : Str)) = false) : ExcOk T X c x false where
  no := fun _ => ⟨hf, fun m j p p2 pos hg => by rw [hc]; exact L2.pmk_own F q gC kC (raises_own h1 h2) hg hdb⟩
  one := fun z => nomatch z
end
end Mi
set_option Elab.async false
set_option linter.all false
set_option maxRecDepth 100000
set_option maxHeartbeats 4000000
/-! Mini: the end, the law's own def being known at the caller alone -/
namespace Mi
open PySem PySem.Spec PyProof.Rows L2
section
variable {P : Program} {w : World} {K : PySem.W.Frag} {mg mb : Str → Option Value} {cs : List (Addr × Addr)} {a : Addr} {h : Heap}
def scObj (vs : List Value) : Obj := { cls := .type "list", data := .seq vs.toArray }
def teObj : Obj := { cls := .none, data := .fields #[] }
/-- what is tracked at the law's call: the empty tables; the script, where it is not of the written part -/
def hp0 (K : PySem.W.Frag) (cs : List (Addr × Addr)) (a : Addr) (vs : List Value) (ns : List Int) : Hp := fun b =>
  if b ∈ cs.map (·.2) then some (.tbl #[]) else if b = a ∧ K.lookup a = none then some (.frz (scObj vs) (.lst (ns.map V.int))) else none
theorem hp0_tab {vs : List Value} {ns : List Int} {b : Addr} (hb : b ∈ cs.map (·.2)) : hp0 K cs a vs ns b = some (.tbl #[]) := if_pos hb
theorem hp0_cases {vs : List Value} {ns : List Int} {b : Addr} {o : HO} (e : hp0 K cs a vs ns b = some o) :
    (b ∈ cs.map (·.2) ∧ o = .tbl #[]) ∨ (b = a ∧ K.lookup a = none ∧ o = .frz (scObj vs) (.lst (ns.map V.int))) := by
  unfold hp0 at e
  by_cases c1 : b ∈ cs.map (·.2)
  · rw [if_pos c1] at e
    exact .inl ⟨c1, (Option.some.inj e).symm⟩
  · rw [if_neg c1] at e
    by_cases c2 : b = a ∧ K.lookup a = none
    · rw [if_pos c2] at e
      exact .inr ⟨c2.1, c2.2, (Option.some.inj e).symm⟩
    · rw [if_neg c2] at e
      cases e
theorem law_run {CX : CXT} {fa : Addr} {sp : Sp} {s : Shared} {vs : List Value} {ns : List Int} (kIn : K.In s.heap) (gM : s.heap.Ns mainGlobals mg) (gB : s.heap.Ns builtinsNs mb) (bB : ∀ x : Str, x ≠ "__name__" → mb x = bootBuiltins x) (nl : s.heap.NoLimit) (g0 : s.gens = #[])
    (tabs : ∀ p ∈ cs, PySem.W.CodeHd s.heap p.1 p.2 ∧ s.heap.get? p.2 = some teObj ∧ K.lookup p.2 = none)
    (bm : ∃ (bm : Addr) (ob : Obj), mg "__builtins__" = some (.ref bm) ∧ bm ≠ builtinsNs ∧ s.heap.get? bm = some ob ∧ ob.cls = .type "module" ∧ ob.dict = some builtinsNs ∧ ob.data = .plain)
    (la : s.heap.get? a = some (scObj vs)) (li : IntsAre vs ns) (ln : ns.length ≤ sizeLine)
    (fn : ∀ base : Heap, K.In base → base.Ns mainGlobals mg → (∀ p ∈ cs, LamX.TabB base mg p.1 p.2) → FnAt P w K mg base CX callerA fa sp)
    (say : ∀ H : Hp, (∀ p ∈ cs, H p.2 = some (.tbl #[])) → SqSc K H a (ns.map V.int) → sp [.ref a] H (fun v _ => v = .bl true) fun _ _ _ => False) (no : ∀ H e s', CX [] H s (fun _ _ _ => False) e s' → False) :
    codeAny (model P w) callerA (.call (.ref fa) ⟨[.ref a], []⟩) (fun r s' => r = .ok (.ret (.bool true)) ∧ OldK s.heap s'.heap ∧ s'.os = s.os ∧ AllBare s'.gens) s := by
  obtain ⟨H, eH⟩ : ∃ H, H = hp0 K cs a vs ns := ⟨_, rfl⟩
  have rv := vals_ints li
  have tab : ∀ b, b ∈ cs.map (·.2) → s.heap.get? b = some teObj ∧ K.lookup b = none := fun b hb => by
    obtain ⟨p, hp, rfl⟩ := List.mem_map.mp hb
    exact (tabs p hp).2
  have an : a ∉ cs.map (·.2) := fun z => by
    have q := (tab a z).1
    rw [la] at q
    exact absurd (congrArg Obj.data (Option.some.inj q)) (by unfold scObj teObj; intro z; cases z)
  have Ht : ∀ p ∈ cs, H p.2 = some (.tbl #[]) := fun p hp => by
    rw [eH]
    exact hp0_tab (List.mem_map.mpr ⟨p, hp, rfl⟩)
  have Hc : ∀ {b : Addr} {o : HO}, H b = some o → (b ∈ cs.map (·.2) ∧ o = .tbl #[]) ∨ (b = a ∧ K.lookup a = none ∧ o = .frz (scObj vs) (.lst (ns.map V.int))) := fun e => hp0_cases (by rw [← eH]; exact e)
  have sq : SqSc K H a (ns.map V.int) := by
    cases hk : K.lookup a with
    | some o =>
      have e := kIn a o hk
      rw [la] at e
      cases e
      exact .inr ⟨_, vs.toArray, _, hk, rfl, rfl, rfl, by rw [List.size_toArray, li.length]; exact ln, by simpa using rv⟩
    | none =>
      refine .inl ⟨scObj vs, ?_⟩
      rw [eH]
      unfold hp0
      rw [if_neg an, if_pos ⟨rfl, hk⟩]
  have hok : HOk P w H s.heap := fun b o e => by
    rcases Hc e with ⟨h1, rfl⟩ | ⟨rfl, _, rfl⟩
    · exact (tab b h1).1
    · exact ⟨la, by rw [List.length_map]; exact ln, vs, _, rv, la⟩
  obtain ⟨base, eb⟩ : ∃ base, base = hidT s.heap H := ⟨_, rfl⟩
  have up : ∀ {b : Addr} {o : Obj}, s.heap.get? b = some o → H b = none → base.get? b = some o := fun e n => by
    rw [eb]
    exact hidT_get e n
  have free : ∀ {b : Addr} {o : Obj}, s.heap.get? b = some o → o ≠ scObj vs → o ≠ teObj → H b = none := fun {b o} e n1 n2 => by
    cases q : H b with
    | none => rfl
    | some u =>
      rcases Hc q with ⟨h1, _⟩ | ⟨rfl, _⟩
      · rw [(tab b h1).1] at e
        exact absurd (Option.some.inj e).symm n2
      · rw [la] at e
        exact absurd (Option.some.inj e).symm n1
  have freeD : ∀ {b : Addr} {o : Obj} {es : Array DictEntry} {n : Nat}, s.heap.get? b = some o → o.data = .dict es n → H b = none := fun {b o es n} e d =>
    free e (fun z => by rw [z] at d; cases d) fun z => by rw [z] at d; cases d
  have nsUp : ∀ {b : Addr} {m : Str → Option Value}, s.heap.Ns b m → base.Ns b m := fun {b m} ⟨o, es, n, e, d, r⟩ => ⟨o, es, n, up e (freeD e d), d, r⟩
  have kB : K.In base := fun b o e => up (kIn b o e) (by
    cases q : H b with
    | none => rfl
    | some u =>
      rcases Hc q with ⟨h1, _⟩ | ⟨rfl, h2, _⟩
      · rw [(tab b h1).2] at e; cases e
      · rw [h2] at e; cases e)
  have mod : L2.Mod K mg base := ⟨kB, nsUp gM, ⟨mb, nsUp gB, bB⟩, nl.imp fun mc h => ⟨nsUp h.1, h.2⟩⟩
  have tb : ∀ p ∈ cs, LamX.TabB base mg p.1 p.2 := fun p hp => by
    obtain ⟨cd, tp, _⟩ := tabs p hp
    refine ⟨?_, ?_, fun z => ?_⟩
    · obtain ⟨o, us, file, tf, flags, tg, inF, text, tt, e1, e2, e3, e4, r⟩ := cd
      refine ⟨o, us, file, tf, flags, tg, inF, text, tt, up e1 (free e1 (fun z => ?_) fun z => ?_), e2, e3, e4, r⟩
      · rw [z] at e3; cases e3
      · rw [z] at e2; cases e2
    · obtain ⟨b, ob, b1, b2, b3, b4, b5, b6⟩ := bm
      have hb : ∀ {c : Addr} {o : Obj}, s.heap.get? c = some o → o.data ≠ .plain → b ≠ c := fun {c o} e n z => by
        rw [z, e] at b3
        cases b3
        exact n b6
      obtain ⟨om, es, n, e, d, _⟩ := gM
      exact ⟨b, ob, b1, b2, hb e (by rw [d]; intro z; cases z), hb tp (by unfold teObj; intro z; cases z), up b3 (free b3 (fun z => by rw [z] at b6; cases b6) fun z => by rw [z] at b6; cases b6), b4, b5, b6⟩
    · obtain ⟨om, es, n, e, d, _⟩ := gM
      rw [z, tp] at e
      cases e
      cases d
  have env : Env0 P w K mg base callerA [] s H := ⟨rfl, mod, fun b o e => by rw [eb] at e; exact of_hidT e, by rw [eb]; exact Nat.le_of_eq (hidT_size _ _), trivial, fun b hb => (nomatch hb), hok, .of_eq g0⟩
  refine codeAny_mono ((fn base kB (nsUp gM) tb).run [] s H [.ref a] [.ref a] _ _ env (.cons rfl .nil) (say H Ht sq)) ?_
  intro r s' hq
  cases r with
  | error er => exact (no H er s' hq).elim
  | ok fl =>
   cases fl with
   | next => exact False.elim hq
   | brk => exact False.elim hq
   | cont => exact False.elim hq
   | ret u =>
    obtain ⟨v, H', o1, o2, un, hok', rv', q⟩ := hq
    obtain rfl : v = .bl true := q
    obtain rfl : u = Value.bool true := rv'
    have old : ∀ b o, b ∉ cs.map (·.2) → s.heap.get? b = some o → s'.heap.get? b = some o := fun b o nb e => by
      cases q : H b with
      | none => exact un.keep b o e q (fun z => nomatch z) (fun z => nomatch z)
      | some u =>
        rcases Hc q with ⟨h1, _⟩ | ⟨rfl, _, rfl⟩
        · exact absurd h1 nb
        · have z := (hok' b _ (un.frzs b _ _ q)).1
          rw [la] at e
          cases e
          exact z
    refine ⟨rfl, ⟨fun b o e => ?_, fun b o e => ?_⟩, o1, o2⟩
    · by_cases hb : b ∈ cs.map (·.2)
      · obtain ⟨p, hp, rfl⟩ := List.mem_map.mp hb
        obtain ⟨more, z⟩ := un.tbls p.2 #[] (Ht p hp)
        obtain ⟨cd, tp, _⟩ := tabs p hp
        rw [tp] at e
        cases e
        exact .inr (.inl ⟨(cd.tab tp).isCodeTable, rfl, #[], more, rfl, by rw [Array.empty_append] at z ⊢; exact hok' p.2 _ z⟩)
      · exact .inl (old b o hb e)
    · by_cases hb : b ∈ cs.map (·.2)
      · obtain ⟨p, hp, rfl⟩ := List.mem_map.mp hb
        obtain ⟨more, z⟩ := un.tbls p.2 #[] (Ht p hp)
        exact ⟨_, hok' p.2 _ z⟩
      · exact ⟨o, old b o hb e⟩
end
/-- the end -/
theorem walk_me {l : PySem.W.OpenLaw} {n : Nat} {q : Program} {loose : List Str} {XP : (Str → Option Value) → Heap → Prop} {YP : World → Heap → Prop} {d : DefRec} {K : Params → PySem.W.Frag} (hn : l.most = some n) (hz : n ≤ sizeLine) (hdf : d.params.defaults = []) (hY : ∀ (w : World) (h : Heap), YP w h → (K w.params).In h)
    (F : ∀ (w : World) (loose' : List Str) (mean : ExcName → Option Value) (mg mb : Str → Option Value) (fa : Addr) (h : Heap), Top q loose' mean mg mb h → (K w.params).In h → h.Ns mainGlobals mg → mg d.name = some (.ref fa) → ∃ (cs : List (Addr × Addr)) (sp : Sp),
      (∀ p ∈ cs, PySem.W.CodeHd h p.1 p.2 ∧ h.get? p.2 = some teObj ∧ (K w.params).lookup p.2 = none) ∧
      (∀ (H : Hp) (a : Addr) (ns : List Int), ns.length ≤ n → (∀ p ∈ cs, H p.2 = some (.tbl #[])) → SqSc (K w.params) H a (ns.map V.int) → sp [.ref a] H (fun v _ => v = .bl true) fun _ _ _ => False) ∧
      ∀ base : Heap, (K w.params).In base → base.Ns mainGlobals mg → (∀ p ∈ cs, LamX.TabB base mg p.1 p.2) → FnAt l.prog w (K w.params) mg base (L2.CX l.prog w) callerA fa sp) : PySem.W.WalkO q loose XP YP l.row.toRowW d [] (fun f vs => PySem.call f vs) := by
  refine Att.attach_callB hn hdf fun w s₀ s₁ mg mb fa o pm cd doc a vs ns G Y ho hd hcd hmg hobj hints hlen hbits hg => ?_
  obtain ⟨cs, sp, h1, h3, h4⟩ := F w _ _ mg mb fa _ G.T (hY w _ Y) G.T.g hmg
  exact law_run (hY w _ Y) G.T.g G.T.b G.T.builtins G.T.nolimit hg h1 G.T.bmain hobj hints (Nat.le_trans hlen hz) h4 (fun H hH hS => h3 H a ns hlen hH hS) fun H e s' hh => by
    obtain ⟨_, _, _, _, _, _, _, _, _, _, _, _, z⟩ := hh
    exact z
end Mi
set_option Elab.async false
set_option linter.all false
set_option maxRecDepth 100000
set_option maxHeartbeats 4000000
/-! Mini: the defs, by the depth of calls -/
namespace Mi
open PySem PySem.Spec PyProof.Rows L2
def lamQ (n : Str) : Str := (n ++ (".<locals>." : Str)) ++ ("<lambda>" : Str)
section
variable {P : Program} {w : World} {mg : Str → Option Value} {base : Heap}
/-- a def of the law's own: where its lambdas' code objects are told -/
def TopOk (T : Tb) (base : Heap) (mg : Str → Option Value) (q : Str) (cdv : Value) : Prop := ∃ c Pt : Addr, cdv = .ref c ∧ LamX.TabB base mg c Pt ∧ (Pt, lamQ q) ∈ T.tabs ∧ ∀ p ∈ T.tabs, p.1 = Pt → p.2 = lamQ q
/-- the text of a function's object -/
abbrev fo (n q : Str) (st : Stmt) (kV dc pm : Value) (an : Option Addr) (cdv ct : Value) : FuncData := PySem.W.fnOf n q (defArgs st) (defBody st) (defScope st) .none kV dc pm an cdv ct
/-- a plain def, one of the law's own -/
def DfN (T : Tb) (base : Heap) (mg : Str → Option Value) (k : Kx) (d : Df) (a : Addr) : Prop :=
  ∃ (n q : Str) (st : Stmt) (ps : List Str) (oc kV dc pm cdv ct : Value) (od an : Option Addr) (sl : Array (Option Value)), T.K.lookup a = some ⟨oc, od, .func (fo n q st kV dc pm an cdv ct), sl⟩ ∧ PySem.W.codeIn T.K cdv q = true ∧ FnScope d.N ps (defScope st) ∧ ps.length = d.np ∧
    Binds T.K (fo n q st kV dc pm an cdv ct) ps [] ∧ (chk { k with N := d.N } d.body).b ⟨defScope st, fun _ => true, d.top, true⟩ (defBody st) = true ∧ (d.top = true → TopOk T base mg q cdv)
/-- a class's __init__: the last statement stores into the slot f, the first one -/
inductive ChkI (k : Kx) (sx : Sx) (slf f : Str) : A → List Stmt → Prop
  | guard {c y : A} {e : Nat} {t : Expr} {q : Stmt} {r : List Stmt} {p : Pos} : (chk k c).tt sx t = true → (chk k (.sRz e)).s sx q = true → ChkI k sx slf f y r → ChkI k sx slf f (.cons (.sIf c (.cons (.sRz e) .nil) .nil) y) (.If t [q] [] p :: r)
  | last {e : A} {ex : Expr} {p p2 p3 : Pos} : notComp ex = true → (chk k e).e sx ex = true → ChkI k sx slf f (.cons (.sR e) .nil) [.Assign [.Attribute (.Name slf p) f p2] ex p3]
structure IniOk (T : Tb) (k : Kx) (d : Df) (c : Nat) (a : Addr) : Prop where
  cl : T.ca c = a
  ex : ∃ (fI : Addr) (n q f slf : Str) (st : Stmt) (ps : List Str) (oc kV dc pm cdv ct : Value) (od an : Option Addr) (sl : Array (Option Value)) (p : Addr), Mk T.K a fI ∧ T.K.lookup fI = some ⟨oc, od, .func (fo n q st kV dc pm an cdv ct), sl⟩ ∧ PySem.W.codeIn T.K cdv q = true ∧ FnScope d.N (slf :: ps) (defScope st) ∧ ps.length = d.np ∧
    Binds T.K (fo n q st kV dc pm an cdv ct) (slf :: ps) [] ∧ ChkI { k with N := d.N } ⟨defScope st, fun _ => true, false, true⟩ slf f d.body (defBody st) ∧ SlX.SCls T.K a ∧ SlX.Slot1 T.K a f p 0 ∧ d.N[0]? = some slf ∧ Vis (defScope st) slf ∧ nmB slf = true
def DfOk (T : Tb) (base : Heap) (mg : Str → Option Value) (k : Kx) (d : Df) (a : Addr) : Prop := PySem.W.keepIn T.K (.ref a) = true ∧ match d.ini with | none => DfN T base mg k d a | some c => IniOk T k d c a
/-- the text's tables -/
structure Tx (P : Program) (w : World) (T : Tb) (base : Heap) (mg : Str → Option Value) (k : Kx) (Ds : List Df) : Prop where
  hgn : ∀ x i, k.gn.lookup x = some i → ∃ a, T.fa i = some a ∧ mg x = some (.ref a)
  hcs : ∀ x i, k.cs.lookup x = some i → ∃ t, mg x = some (.int i t)
  hss : ∀ x z, k.ss.lookup x = some z → ∃ t, mg x = some (.str z t)
  hbn : ∀ x, k.bn.contains x = true → mg x = none
  df : ∀ i a, T.fa i = some a → ∃ d, Ds[i]? = some d ∧ DfOk T base mg k d a
  mt : ∀ x hs, k.met.lookup x = some hs → TellDef T T.K mg x hs
  ec : ∀ x c b, k.ec.lookup x = some (c, b) → ∀ (X : Cx) (n : Nat), X.prog = P → X.K = T.K → X.mg = mg → Room (n + 1) X.A → ExcOk T X c x b
  cx : CxOk T.ca T.fa T.K mg k
theorem rs1_start {T : Tb} {ρ : List Addr} {H : Hp} {N : List Str} {avs : List AV} {vs : List V} (r : Reps T ρ H avs vs) : RS1 T ρ H (avs.map some ++ List.replicate (N.length - avs.length) none) (L2.start N vs) := by
  unfold L2.start
  rw [← r.length]
  refine ⟨by simp [r.length], fun i x h => ?_⟩
  by_cases c : i < avs.length
  · rw [List.getElem?_append_left (by simpa using c), List.getElem?_map] at h
    obtain ⟨y, h1, h2⟩ := Option.map_eq_some_iff.mp h
    cases h2
    obtain ⟨v, h3, h4⟩ := r.get h1
    refine ⟨v, ?_, h4⟩
    rw [List.getElem?_append_left (by rw [List.length_map, ← r.length]; exact c), List.getElem?_map, h3]
    rfl
  · exfalso
    rw [List.getElem?_append_right (by simpa using Nat.le_of_not_lt c)] at h
    have := List.mem_of_getElem? h
    have := List.eq_of_mem_replicate this
    cases this
theorem rs1_ini {T : Tb} {ρ : List Addr} {H : Hp} {N : List Str} {avs : List AV} {vs : List V} {v : V} (r : Reps T ρ H avs vs) : RS1 T ρ H (none :: avs.map some ++ List.replicate (N.length - (avs.length + 1)) none) (L2.start N (v :: vs)) := by
  have h0 := rs1_start (N := N) (Reps.cons (T := T) (ρ := ρ) (H := H) (x := .non) (v := .non) .non r)
  refine ⟨?_, fun i x h => ?_⟩
  · have := h0.len
    unfold L2.start at this ⊢
    simpa using this
  · cases i with
    | zero => cases h
    | succ i =>
      obtain ⟨y, e1, e2⟩ := h0.at_ (i + 1) x h
      exact ⟨y, by unfold L2.start at e1 ⊢; simpa using e1, e2⟩
/-- a def's body at A -/
theorem run_def {T : Tb} {k : Kx} {d : Df} {a : Addr} {i N : Nat} {n q : Str} {st : Stmt} {ps : List Str} {oc kV dc pm cdv ct : Value} {od an : Option Addr} {sl : Array (Option Value)} {sx : Sx} {F F' : FT} {A : Around} (lk : T.K.lookup a = some ⟨oc, od, .func (fo n q st kV dc pm an cdv ct), sl⟩) (hc : PySem.W.codeIn T.K cdv q = true)
    (S : FnScope d.N ps (defScope st)) (hl : ps.length = d.np) (hb : Binds T.K (fo n q st kV dc pm an cdv ct) ps []) (hk : (chk { k with N := d.N } d.body).b sx (defBody st) = true) (e : ∀ avs m, F'.call i avs m = runD d F avs m) (hr : Room (N + 1) A)
    (mk : ∀ (fb : Addr → Prop) (outer : List Env) (s : Shared) (H : Hp) (E : XK), Room N (A.deeper (envOfC q (defScope st) s.heap.objs.size a cdv)) → ∃ n', Ck (T.wb fb) F { k with N := d.N } n' sx (fun c d _ H' => E c d H') (cxOf (L2.CX P w) P w T.K mg base d.N q (defScope st) a cdv A outer s H E)) :
    FnAt P w T.K mg base (L2.CX P w) A a (spF T F' i) := by
  refine ⟨fun outer s H us vs Q E e0 r0 h => ?_⟩
  obtain ⟨fb, ρ, m, avs, rl, r, g⟩ := h
  rw [e] at g
  unfold runD at g
  by_cases c : Nat.beq avs.length d.np = true
  · rw [if_pos c] at g
    have el : vs.length = ps.length := by rw [← r.length, Nat.eq_of_beq_eq_true c, hl]
    have KX : T.K.In s.heap := e0.mod.kin.keeps fun b o e => (e0.bs b o e).1
    have b := hb s us KX (by rw [List.append_nil, ← r0.length]; exact el)
    rw [List.append_nil] at b
    refine LamX.run_ofS lk hc S hr e0 b r0 el fun hr' => ?_
    obtain ⟨n', ck⟩ := mk fb outer s H E hr'
    refine ⟨_, (snd_all _ d.body).b _ _ _ _ _ _ ck (passes_of rfl) _ hk, ρ, m, _, rl, rs1_start r, ?_⟩
    cases hb2 : (den d.body).b F (avs.map some ++ List.replicate (d.N.length - avs.length) none) m with
    | nx s' m' => rw [hb2] at g; exact fun ρ' H' σ' nx _ => g ρ' H' nx .non .non
    | rt v m' => rw [hb2] at g; exact fun ρ' H' x nx rv => g ρ' H' nx x rv
    | bk s' m' => rw [hb2] at g; exact g.elim
    | ct s' m' => rw [hb2] at g; exact g.elim
    | ex c vs s' m' => rw [hb2] at g; exact fun ρ' H' d' σ' nx _ ex => g ρ' H' d' nx ex
    | no => rw [hb2] at g; exact g.elim
  · rw [if_neg c] at g; exact g.elim
end
end Mi
set_option Elab.async false
set_option linter.all false
set_option maxRecDepth 100000
set_option maxHeartbeats 4000000
/-! Mini: a class is called -/
namespace Mi
open PySem PySem.Spec PyProof.Rows L2
/-- what is wished of an __init__'s body -/
def GoodI (T : Tb) (E : XK) (ρ : List Addr) (H : Hp) (m : AH) (r : RS) (K : AV → List Addr → Hp → AH → Prop) : Prop := match r with
  | .rt v m' => ∀ ρ' H', Nx T ρ H m ρ' H' m' → K v ρ' H' m'
  | .ex c vs _ m' => ∀ ρ' H' d, Nx T ρ H m ρ' H' m' → ExAt T c vs d ρ' H' → E (.ref (T.ca c)) d H'
  | _ => False
section
variable {T : Tb} {F : FT} {k : Kx} {n : Nat} {sx : Sx} {X : Cx} {E : XK}
theorem GoodI.step {ρ ρ1 : List Addr} {H H1 : Hp} {m m1 : AH} {r : RS} {K : AV → List Addr → Hp → AH → Prop} (g : GoodI T E ρ H m r K) (n : Nx T ρ H m ρ1 H1 m1) : GoodI T E ρ1 H1 m1 r K := by
  cases r with
  | rt v m' => exact fun ρ' H' q => g ρ' H' (n.trans q)
  | ex c vs s m' => exact fun ρ' H' d q => g ρ' H' d (n.trans q)
  | _ => exact g
/-- an instance that is being made, out of the reach of all else -/
def Raw (T : Tb) (ρ : List Addr) (H : Hp) (a C dx : Addr) : Prop := H a = some (.ins C dx []) ∧ H dx = some (.own a) ∧ dx ≠ a ∧ (a ∉ ρ ∧ ¬ T.fb a) ∧ (dx ∉ ρ ∧ ¬ T.fb dx)
theorem Raw.nx {ρ ρ1 : List Addr} {H H1 : Hp} {m m1 : AH} {a C dx : Addr} (h : Raw T ρ H a C dx) (n : Nx T ρ H m ρ1 H1 m1) : Raw T ρ1 H1 a C dx := by
  obtain ⟨h1, h2, h3, h4, h5⟩ := h
  have e1 : NoTb (.ins C dx []) := fun _ z => nomatch z
  have e2 : NoTb (.own a) := fun _ z => nomatch z
  refine ⟨n.ext.keep _ _ h1 h4.1 e1, n.ext.keep _ _ h2 h5.1 e2, h3, ⟨fun z => ?_, h4.2⟩, ⟨fun z => ?_, h5.2⟩⟩
  · rcases n.ext.new _ z with q | q
    · exact h4.1 q
    · exact q.no h1 e1
  · rcases n.ext.new _ z with q | q
    · exact h5.1 q
    · exact q.no h2 e2
def tIni (T : Tb) (E : XK) (F : FT) (C : Addr) (x : A) : TS := fun D σ H => ∃ ρ m as a dx, Rl T ρ H m ∧ RS1 T ρ H as σ ∧ σ[0]? = some (some (.ref a)) ∧ Raw T ρ H a C dx ∧
  GoodI T E ρ H m ((den x).b F as m) fun v ρ' H' _ => ∀ y, Rep T ρ' H' v y → D.nx σ (SlX.slH H' a C dx (SlX.putS 0 y []))
theorem ini_body {slf f : Str} {C p : Addr} (ck : Ck T F k n sx (fun c d _ H' => E c d H') X) (hp : PassesOwn (model X.prog X.w) X.A X.env X.xe) (h0 : X.N[0]? = some slf) (hv : Vis X.env.scope slf) (hn : nmB slf = true) (sc : SlX.SCls X.K C) (sl : SlX.Slot1 X.K C f p 0) : ∀ {x : A} {r : List Stmt}, ChkI k sx slf f x r → PSs X r (tIni T E F C x)
  | _, _, .last (e := e) (ex := ex) (p := p1) (p2 := p2) (p3 := p3) h1 h2 => by
    have he := (snd_all k e).e T F n sx _ X ck ex h2 false
    have hs : PS X (.Assign [.Attribute (.Name slf p1) f p2] ex p3) _ := SlX.ps_sl (pe_var h0 hv (nm_of hn).1 (nm_of hn).2.1) he (sw_none h1 (some (.Attribute (.Name slf p1) f p2)) p3.line X.env)
    refine weakB (pss_one hs) fun D σ H ⟨ρ, m, as, a, dx, rl, rs, h3, raw, g⟩ => ?_
    refine ⟨ρ, m, as, rl, rs, ?_⟩
    have g' : GoodI T E ρ H m ((toRS ((den e).e false F as m) as fun v m1 => .rt v m1).seq fun s1 m1 => .nx s1 m1) _ := g
    cases hd : (den e).e false F as m with
    | no => rw [hd] at g'; exact g'.elim
    | ex c vs m1 => rw [hd] at g'; exact fun ρ' H' d nx ex => g' ρ' H' d nx ex
    | ok v m1 =>
      rw [hd] at g'
      intro ρ1 H1 nx y ry
      exact ⟨.ref a, h3, a, C, dx, p, [], 0, rfl, .inl ⟨(raw.nx nx).1, rfl⟩, sc, sl, g' ρ1 H1 nx y ry⟩
  | _, _, .guard (c := c) (y := y) (e := e) (t := t) (q := q) (r := r) h1 h2 h3 => by
    have ht := (snd_all k c).t T F n sx _ X ck t h1
    have hq := (snd_all k (.sRz e)).s T F n sx _ X ck hp q h2
    have ih := ini_body ck hp h0 hv hn sc sl h3
    refine weakB (pss_cons (ps_if ht (pss_one hq) pss_nil) ih) fun D σ H ⟨ρ, m, as, a, dx, rl, rs, h4, raw, g⟩ => ?_
    refine ⟨ρ, m, as, rl, rs, ?_⟩
    have g' : GoodI T E ρ H m ((toRS ((den c).e true F as m) as fun v m1 => match truV m1 v with | some true => (RS.ex e [] as m1).seq fun s1 m1 => .nx s1 m1 | some false => .nx as m1 | none => .no).seq fun s1 m1 => (den y).b F s1 m1) _ := g
    cases hd : (den c).e true F as m with
    | no => rw [hd] at g'; exact g'.elim
    | ex c2 vs m1 => rw [hd] at g'; exact fun ρ' H' d nx ex => g' ρ' H' d nx ex
    | ok v m1 =>
      rw [hd] at g'
      intro ρ1 H1 nx
      have g2 : GoodI T E ρ H m ((match truV m1 v with | some true => (RS.ex e [] as m1).seq fun s1 m1 => .nx s1 m1 | some false => .nx as m1 | none => .no : RS).seq fun s1 m1 => (den y).b F s1 m1) _ := g'
      cases hb : truV m1 v with
      | none => rw [hb] at g2; exact g2.elim
      | some b =>
        rw [hb] at g2
        refine ⟨b, rfl, ?_⟩
        cases b with
        | true =>
          have g3 : ∀ ρ' H' d, Nx T ρ H m ρ' H' m1 → ExAt T e [] d ρ' H' → E (.ref (T.ca e)) d H' := g2
          exact ⟨ρ1, m1, as, nx.rl, rs.mono rl.muts nx.ext, fun ρ' H' d σ' nx2 _ ex => g3 ρ' H' d (nx.trans nx2) ex⟩
        | false =>
          have g3 : GoodI T E ρ H m ((den y).b F as m1) _ := g2
          exact ⟨ρ1, m1, as, a, dx, nx.rl, rs.mono rl.muts nx.ext, h4, raw.nx nx, g3.step nx⟩
end
/-- what nobody names: an instance that is being made, its dict -/
def Odd (o : HO) : Prop := (∃ C dx fs, o = .ins C dx fs) ∨ ∃ a, o = .own a
theorem Odd.ne {H : Hp} {x b : Addr} {o : HO} (hx : ∀ o, H x = some o → Odd o) (h : H b = some o) (n : ¬ Odd o) : b ≠ x := fun z => n (hx o (by rw [← z]; exact h))
section
variable {T : Tb} {ρ : List Addr} {H H2 : Hp} {x : Addr}
mutual
theorem Rep.off (hx : ∀ o, H x = some o → Odd o) (e : ∀ b, b ≠ x → H2 b = H b) : ∀ {a : AV} {v : V}, Rep T ρ H a v → Rep T ρ H2 a v
  | _, _, .non => .non
  | _, _, .bl b => .bl b
  | _, _, .int i => .int i
  | _, _, .str z => .str z
  | _, _, .tup h r => .tup ⟨by rw [e _ (Odd.ne hx h.1 (fun z => by rcases z with ⟨_, _, _, z⟩ | ⟨_, z⟩ <;> cases z))]; exact h.1, h.2⟩ (Reps.off hx e r)
  | _, _, .fl h n r => .fl (by rw [e _ (Odd.ne hx h (fun z => by rcases z with ⟨_, _, _, z⟩ | ⟨_, z⟩ <;> cases z))]; exact h) n (Reps.off hx e r)
  | _, _, .sc h r => .sc (by
      rcases h with ⟨o, h⟩ | h
      · exact .inl ⟨o, by rw [e _ (Odd.ne hx h (fun z => by rcases z with ⟨_, _, _, z⟩ | ⟨_, z⟩ <;> cases z))]; exact h⟩
      · exact .inr h) (Reps.off hx e r)
  | _, _, .ref h => .ref h
  | _, _, .fn h => .fn h
  | _, _, .obj h n r => .obj ⟨by rw [e _ (Odd.ne hx h.1 (fun z => by rcases z with ⟨_, _, _, z⟩ | ⟨_, z⟩ <;> exact nomatch (show HO.ext _ = _ from z)))]; exact h.1, by rw [e _ (Odd.ne hx h.2 (fun z => by rcases z with ⟨_, _, _, z⟩ | ⟨_, z⟩ <;> cases z))]; exact h.2⟩ n (Reps.off hx e r)
  | _, _, .fd h n r1 r2 => .fd (by rw [e _ (Odd.ne hx h (fun z => by rcases z with ⟨_, _, _, z⟩ | ⟨_, z⟩ <;> cases z))]; exact h) n (Reps.off hx e r1) (Reps.off hx e r2)
theorem Reps.off (hx : ∀ o, H x = some o → Odd o) (e : ∀ b, b ≠ x → H2 b = H b) : ∀ {as : List AV} {vs : List V}, Reps T ρ H as vs → Reps T ρ H2 as vs
  | _, _, .nil => .nil
  | _, _, .cons a r => .cons (Rep.off hx e a) (Reps.off hx e r)
end
theorem Rl.off {m : AH} (hx : ∀ o, H x = some o → Odd o) (e : ∀ b, b ≠ x → H2 b = H b) (nf : ¬ T.fb x) (h : Rl T ρ H m) : Rl T ρ H2 m where
  len := h.len
  nd := h.nd
  ob := fun r a o h1 h2 => by
    have q := h.ob r a o h1 h2
    cases o with
    | lst ep xs =>
      obtain ⟨vs, e1, e2⟩ := q
      exact ⟨vs, by rw [e _ (Odd.ne hx e1 (fun z => by rcases z with ⟨_, _, _, z⟩ | ⟨_, z⟩ <;> cases z))]; exact e1, e2.off hx e⟩
  fb := fun b hb => by
    obtain ⟨h1, h2⟩ := h.fb b hb
    refine ⟨h1, ?_⟩
    rw [e b (fun z => nf (by rw [← z]; exact hb))]
    exact h2
  tb := fun p hp => by
    obtain ⟨ps, h1, h2, h3⟩ := h.tb p hp
    refine ⟨ps, by rw [e _ (Odd.ne hx h1 (fun z => by rcases z with ⟨_, _, _, z⟩ | ⟨_, z⟩ <;> cases z))]; exact h1, h2, fun pos cv hc => ?_⟩
    obtain ⟨c, e1, e2⟩ := h3 pos cv hc
    exact ⟨c, e1, by rw [e _ (Odd.ne hx e2 (fun z => by rcases z with ⟨_, _, _, z⟩ | ⟨_, z⟩ <;> exact nomatch (show HO.ext _ = _ from z)))]; exact e2⟩
/-- the instance is done -/
theorem obj_made {ρ0 : List Addr} {H0 H' : Hp} {m0 m' : AH} {a C dx : Addr} {c : Nat} {v : AV} {y : V} (hca : T.ca c = C) (n0 : H0 a = none) (n1 : H0 dx = none) (raw : Raw T ρ H' a C dx) (nx : Nx T ρ0 H0 m0 ρ H' m') (r : Rep T ρ H' v y) :
    Nx T ρ0 H0 m0 ρ (SlX.slH H' a C dx (SlX.putS 0 y [])) m' ∧ Rep T ρ (SlX.slH H' a C dx (SlX.putS 0 y [])) (.obj c [v]) (.ref a) := by
  obtain ⟨h1, h2, h3, h4, h5⟩ := raw
  have hx1 : ∀ o, H' dx = some o → Odd o := fun o q => by
    rw [h2] at q
    cases q
    exact .inr ⟨_, rfl⟩
  have f1 : ∀ b, b ≠ dx → upd H' dx (.xd []) b = H' b := fun b q => upd_ne q
  have hx2 : ∀ o, upd H' dx (.xd []) a = some o → Odd o := fun o q => by
    rw [upd_ne (Ne.symm h3), h1] at q
    cases q
    exact .inl ⟨_, _, _, rfl⟩
  have f2 : ∀ b, b ≠ a → SlX.slH H' a C dx (SlX.putS 0 y []) b = upd H' dx (.xd []) b := fun b q => upd_ne q
  have rl2 := (nx.rl.off hx1 f1 h5.2).off hx2 f2 h4.2
  refine ⟨⟨⟨nx.ext.pre, fun b o q nb nt => ?_, nx.ext.new⟩, rl2, nx.mono⟩, ?_⟩
  · rw [f2 b (ne_of_none q n0), f1 b (ne_of_none q n1)]
    exact nx.ext.keep b o q nb nt
  · refine .obj (a := a) (dx := dx) (vs := [y]) ⟨?_, ?_⟩ ⟨h4, h5⟩ (.cons ((r.off hx1 f1).off hx2 f2) .nil)
    · rw [hca]
      exact upd_same
    · unfold SlX.slH
      rw [upd_ne h3, upd_same]
end
section
variable {P : Program} {w : World} {mg : Str → Option Value} {base : Heap}
theorem rep_fb {T : Tb} {ρ : List Addr} {H : Hp} {fb : Addr → Prop} {a : Addr} (h : H a = none) (rl : Rl (T.wb fb) ρ H m) : a ∉ ρ ∧ ¬ fb a := ⟨fun z => absurd h (mut_ne (rl.muts a z)), fun z => absurd h (mut_ne (rl.fb a z).2)⟩
/-- a class at A -/
theorem run_ini {T : Tb} {k : Kx} {d : Df} {a : Addr} {i N c : Nat} {F F' : FT} {A : Around} (io : IniOk T k d c a) (e : ∀ avs m, F'.call i avs m = runI c d F avs m) (hr : Room (N + 2) A)
    (mk : ∀ (fb : Addr → Prop) (A : Around) (outer : List Env) (s : Shared) (H : Hp) (E : XK) (fI : Addr) (q : Str) (st : Stmt) (ps : List Str) (cdv : Value), FnScope d.N ps (defScope st) → A.handled = none → Room N (A.deeper (envOfC q (defScope st) s.heap.objs.size fI cdv)) →
      ∃ n', Ck (T.wb fb) F { k with N := d.N } n' ⟨defScope st, fun _ => true, false, true⟩ (fun c d _ H' => E c d H') (cxOf (L2.CX P w) P w T.K mg base d.N q (defScope st) fI cdv A outer s H E)) :
    FnAt P w T.K mg base (L2.CX P w) A a (spF T F' i) := by
  obtain ⟨hca, fI, n, q, f, slf, st, ps, oc, kV, dc, pm, cdv, ct, od, an, sl, p, M, lk, hc, S, hl, hb, hk, sc, s1, h0, hv, hn⟩ := io
  refine ⟨fun outer s H us vs Q E e0 r0 h => ?_⟩
  obtain ⟨fb, ρ, m, avs, rl, r, g⟩ := h
  rw [e] at g
  unfold runI at g
  by_cases cc : Nat.beq avs.length d.np = true
  · rw [if_pos cc] at g
    have KX : T.K.In s.heap := e0.mod.kin.keeps fun b o e => (e0.bs b o e).1
    obtain ⟨dx, edx⟩ : ∃ dx, dx = s.heap.objs.size := ⟨_, rfl⟩
    obtain ⟨x, ex⟩ : ∃ x, x = s.heap.objs.size + 1 := ⟨_, rfl⟩
    have q1 : H s.heap.objs.size = none := e0.hok.fresh (Nat.le_refl _)
    have q2 : H (s.heap.objs.size + 1) = none := e0.hok.fresh (Nat.le_succ _)
    have ne : s.heap.objs.size ≠ s.heap.objs.size + 1 := Nat.ne_of_lt (Nat.lt_succ_self _)
    have g1 : (s.heap.push PySem.W.emptyDict).get? s.heap.objs.size = some PySem.W.emptyDict := Heap.get?_push_size s.heap rfl
    have g2 : ((s.heap.push PySem.W.emptyDict).push (PySem.W.instObj a s.heap.objs.size)).get? (s.heap.objs.size + 1) = some (PySem.W.instObj a s.heap.objs.size) := by
      have := Heap.get?_push_size (s.heap.push PySem.W.emptyDict) (o := PySem.W.instObj a s.heap.objs.size) rfl
      rwa [Heap.size_push] at this
    have g3 : (s.heap.push PySem.W.emptyDict).Ns s.heap.objs.size (fun _ => none) := ⟨PySem.W.emptyDict, #[], _, g1, rfl, (fun e he => absurd he (by simp)), fun _ => rfl⟩
    have e1 : Env0 P w T.K mg base A outer { s with heap := s.heap.push PySem.W.emptyDict } (upd H s.heap.objs.size (.own (s.heap.objs.size + 1))) := StX.env0_laid e0 (u := .own (s.heap.objs.size + 1)) ⟨_, g1⟩
    have sz : ({ s with heap := s.heap.push PySem.W.emptyDict } : Shared).heap.objs.size = s.heap.objs.size + 1 := Heap.size_push _ _
    have e2 : Env0 P w T.K mg base A outer { s with heap := (s.heap.push PySem.W.emptyDict).push (PySem.W.instObj a s.heap.objs.size) } (upd (upd H s.heap.objs.size (.own (s.heap.objs.size + 1))) (s.heap.objs.size + 1) (.ins a s.heap.objs.size [])) := by
      have z := StX.env0_laid e1 (o := PySem.W.instObj a s.heap.objs.size) (u := .ins a s.heap.objs.size []) (by
        rw [sz]
        refine ⟨by rw [upd_ne ne, upd_same], Nat.zero_le _, ne, g2, fun _ => none, (Heap.Ns1.of_empty g3).at fun o q => Heap.get?_push_of_some _ q, fun _ => True.intro, fun y hy => absurd rfl hy⟩)
      rw [sz] at z
      exact z
    have un : Un (frs outer) [] H (upd (upd H s.heap.objs.size (.own (s.heap.objs.size + 1))) (s.heap.objs.size + 1) (.ins a s.heap.objs.size [])) s.heap ((s.heap.push PySem.W.emptyDict).push (PySem.W.instObj a s.heap.objs.size)) := by
      have u1 : Un (frs outer) [] H (upd H s.heap.objs.size (.own (s.heap.objs.size + 1))) s.heap (s.heap.push PySem.W.emptyDict) := StX.un_laid (s := s) q1
      have u2 := StX.un_laid (fs := frs outer) (s := { s with heap := s.heap.push PySem.W.emptyDict }) (o := PySem.W.instObj a s.heap.objs.size) (u := .ins a s.heap.objs.size []) (H := upd H s.heap.objs.size (.own (s.heap.objs.size + 1))) (by rw [sz, upd_ne (Ne.symm ne)]; exact q2)
      rw [sz] at u2
      exact u1.trans u2
    have kp : ∀ b o, s.heap.get? b = some o → ((s.heap.push PySem.W.emptyDict).push (PySem.W.instObj a s.heap.objs.size)).get? b = some o := fun b o z => Heap.get?_push_of_some _ (Heap.get?_push_of_some _ z)
    have nx1 : Nx (T.wb fb) ρ H m ρ (upd H s.heap.objs.size (.own (s.heap.objs.size + 1))) m := Nx.add rl q1
    have nx2 : Nx (T.wb fb) ρ H m ρ (upd (upd H s.heap.objs.size (.own (s.heap.objs.size + 1))) (s.heap.objs.size + 1) (.ins a s.heap.objs.size [])) m := nx1.trans (Nx.add nx1.rl (by rw [upd_ne (Ne.symm ne)]; exact q2))
    have raw : Raw (T.wb fb) ρ (upd (upd H s.heap.objs.size (.own (s.heap.objs.size + 1))) (s.heap.objs.size + 1) (.ins a s.heap.objs.size [])) (s.heap.objs.size + 1) a s.heap.objs.size := ⟨upd_same, by rw [upd_ne ne, upd_same], ne, rep_fb q2 rl, rep_fb q1 rl⟩
    have r2 : Vals (V.ref (s.heap.objs.size + 1) :: vs) (Value.ref (s.heap.objs.size + 1) :: us) := .cons rfl r0
    have el : (V.ref (s.heap.objs.size + 1) :: vs).length = (slf :: ps).length := by
      rw [List.length_cons, List.length_cons, ← r.length, Nat.eq_of_beq_eq_true cc, hl]
    have b := hb { s with heap := (s.heap.push PySem.W.emptyDict).push (PySem.W.instObj a s.heap.objs.size) } (Value.ref (s.heap.objs.size + 1) :: us) (KX.keeps kp) (by rw [List.append_nil, ← r2.length]; exact el)
    rw [List.append_nil] at b
    have hr2 : Room (N + 1) (A.under (.builtin "type.__call__" ⟨.ref a :: us, []⟩)) := Room.make hr a us []
    refine make_map (f := fI) KX M.makes M.init (beq_iff_eq.mp M.fn) (codeAny_mono (LamX.run_ofS (CX := L2.CX P w) (P := P) (w := w) (mg := mg) (base := base) (N := d.N) (k := N) (E := E) (Q := fun v H2 => v = .non ∧ Q (.ref (s.heap.objs.size + 1)) H2) lk hc S hr2 (e2.make a us []) b r2 el fun hr' => ?_) fun rr s' hq => ?_)
    · obtain ⟨n', ck⟩ := mk fb _ outer _ (upd (upd H s.heap.objs.size (.own (s.heap.objs.size + 1))) (s.heap.objs.size + 1) (.ins a s.heap.objs.size [])) E fI q st (slf :: ps) cdv S hr2.hd hr'
      refine ⟨_, ini_body (C := a) ck (passes_of rfl) h0 hv hn sc s1 hk, ρ, m, none :: avs.map some ++ List.replicate (d.N.length - (avs.length + 1)) none, s.heap.objs.size + 1, s.heap.objs.size, nx2.rl, rs1_ini (r.mono rl.muts nx2.ext), ?_, raw, ?_⟩
      · unfold L2.start
        rfl
      · cases hb2 : (den d.body).b F (none :: avs.map some ++ List.replicate (d.N.length - (avs.length + 1)) none) m with
        | rt v m' =>
          rw [hb2] at g
          have g4 : Good (T.wb fb) (fun c d _ H' => E c d H') [] ρ H m (if pureV v then .ok (AV.obj c [v]) m' else .no) (fun a ρ' H' _ => ∀ v, Rep (T.wb fb) ρ' H' a v → Q v H') := g
          by_cases pv : pureV v = true
          · rw [if_pos pv] at g4
            intro ρ' H' nx y ry
            refine ⟨rfl, ?_⟩
            obtain ⟨z1, z2⟩ := obj_made (T := T.wb fb) (c := c) hca q2 q1 (raw.nx nx) (nx2.trans nx) ry
            exact g4 _ _ z1 _ z2
          · rw [if_neg pv] at g4; exact g4.elim
        | ex c2 vs2 s2 m' => rw [hb2] at g; exact fun ρ' H' d' nx ex => g ρ' H' d' (nx2.trans nx) ex
        | nx s2 m' => rw [hb2] at g; exact g.elim
        | bk s2 m' => rw [hb2] at g; exact g.elim
        | ct s2 m' => rw [hb2] at g; exact g.elim
        | no => rw [hb2] at g; exact g.elim
    · cases rr with
      | error er => exact StX.cxUp outer s H { s with heap := (s.heap.push PySem.W.emptyDict).push (PySem.W.instObj a s.heap.objs.size) } (upd (upd H s.heap.objs.size (.own (s.heap.objs.size + 1))) (s.heap.objs.size + 1) (.ins a s.heap.objs.size [])) E er s' un kp rfl (show L2.CX P w outer _ _ E er s' from hq)
      | ok fl =>
        cases fl with
        | ret u =>
          obtain ⟨v, H', o1, o2, un2, hok2, rv, ev, hq2⟩ := hq
          subst ev
          exact ⟨rv, .ref (s.heap.objs.size + 1), H', o1, o2, un.trans un2, hok2, rfl, hq2⟩
        | next => exact False.elim hq
        | brk => exact False.elim hq
        | cont => exact False.elim hq
  · rw [if_neg cc] at g; exact g.elim
end
end Mi
set_option Elab.async false
set_option linter.all false
set_option maxRecDepth 100000
set_option maxHeartbeats 4000000
/-! Mini: all defs, by the depth of calls; the law -/
namespace Mi
open PySem PySem.Spec PyProof.Rows L2
section
variable {P : Program} {w : World} {mg : Str → Option Value} {base : Heap} {T : Tb} {k : Kx} {Ds : List Df}
theorem ckN (tx : Tx P w T base mg k Ds) {F : FT} {n : Nat} {N ps : List Str} {q : Str} {st : Stmt} {fI : Addr} {cdv : Value} {A : Around} {outer : List Env} {s : Shared} {H : Hp} {E : XK} (S : FnScope N ps (defScope st)) (hr : Room (n + 1) (A.deeper (envOfC q (defScope st) s.heap.objs.size fI cdv)))
    (lv : ∀ j b, T.fa j = some b → FnL P w T.K mg base (L2.CX P w) n b (spF T F j)) (fb : Addr → Prop) : Ck (T.wb fb) F { k with N := N } n ⟨defScope st, fun _ => true, false, true⟩ (fun c d _ H' => E c d H') (cxOf (L2.CX P w) P w T.K mg base N q (defScope st) fI cdv A outer s H E) where
  hK := rfl
  hN := rfl
  nd := S.nd
  sc := rfl
  fn := fun _ _ => rfl
  calm := rfl
  room := hr.mono (Nat.le_succ _)
  gn := tx.hgn
  cs := tx.hcs
  ss := tx.hss
  bn := tx.hbn
  kp := fun i a h => by
    obtain ⟨d, _, h2⟩ := tx.df i a h
    exact h2.1
  fns := fun i a h => lv i a h _ (hr.mono (Nat.le_succ _))
  fin := fun i a h => lv i a h _ hr.in1
  cx := ⟨tx.cx.cl, tx.cx.fl, tx.cx.ms, tx.cx.lm⟩
  takes := L2.takes_of rfl rfl rfl rfl
  gd := fun h => nomatch h
  lw := fun h => nomatch h
  mt := fun h => nomatch h
  ec := fun _ x c b h => ⟨(tx.ec x c b h _ n rfl rfl rfl hr).no, (tx.ec x c b h _ n rfl rfl rfl hr).one⟩
theorem ckT (tx : Tx P w T base mg k Ds) {F : FT} {n j : Nat} {N ps : List Str} {q : Str} {st : Stmt} {fI : Addr} {cdv : Value} {A : Around} {outer : List Env} {s : Shared} {H : Hp} {E : XK} (S : FnScope N ps (defScope st)) (hG : A.guards = some []) (hr : Room (n + 1) (A.deeper (envOfC q (defScope st) s.heap.objs.size fI cdv)))
    (lv : ∀ j b, T.fa j = some b → ∀ A : Around, Room n A → A.guards = some [] → FnAt P w T.K mg base (L2.CX P w) A b (spF T F j)) (hj : j + 3 ≤ n) (lw : ∀ i b, T.fa i = some b → FnL P w T.K mg base (L2.CX P w) j b (spF T F.dn i)) (to : TopOk T base mg q cdv) (fb : Addr → Prop) :
    Ck (T.wb fb) F { k with N := N } n ⟨defScope st, fun _ => true, true, true⟩ (fun c d _ H' => E c d H') (cxOf (L2.CX P w) P w T.K mg base N q (defScope st) fI cdv A outer s H E) where
  hK := rfl
  hN := rfl
  nd := S.nd
  sc := rfl
  fn := fun _ _ => rfl
  calm := rfl
  room := hr.mono (Nat.le_succ _)
  gn := tx.hgn
  cs := tx.hcs
  ss := tx.hss
  bn := tx.hbn
  kp := fun i a h => by
    obtain ⟨d, _, h2⟩ := tx.df i a h
    exact h2.1
  fns := fun i a h => lv i a h _ (hr.mono (Nat.le_succ _)) hG
  fin := fun i a h => lv i a h _ hr.in1 hG
  cx := ⟨tx.cx.cl, tx.cx.fl, tx.cx.ms, tx.cx.lm⟩
  takes := L2.takes_of rfl rfl rfl rfl
  gd := fun _ => hG
  lw := fun _ => ⟨j, hj, lw⟩
  mt := fun _ x hs h => by
    obtain ⟨c, Pt, h1, h2, h3, h4⟩ := to
    have z := met_ok (T := T) (X := cxOf (L2.CX P w) P w T.K mg base N q (defScope st) fI cdv A outer s H E) rfl hG (by have := hr.un; show (A.deeper (envOfC q (defScope st) s.heap.objs.size fI cdv)).units + 10 < cLine; omega) (tx.mt x hs h) ⟨c, Pt, h2, h1, h3, h4⟩
    exact z
  ec := fun _ x c b h => ⟨(tx.ec x c b h _ n rfl rfl rfl hr).no, (tx.ec x c b h _ n rfl rfl rfl hr).one⟩
theorem fn_no {A : Around} {a : Addr} {F : FT} {i : Nat} (e : ∀ avs m, F.call i avs m = .no) : FnAt P w T.K mg base (L2.CX P w) A a (spF T F i) := ⟨fun outer s H us vs Q E e0 r0 h => by
  obtain ⟨fb, ρ, m, avs, rl, r, g⟩ := h
  rw [e] at g
  exact g.elim⟩
noncomputable def Fat (Ds : List Df) (wf n : Nat) (tp : Bool) : FT := ⟨sem Ds wf n tp, wf, noF⟩
theorem lvN (tx : Tx P w T base mg k Ds) (wf : Nat) : ∀ (n i : Nat) (a : Addr), T.fa i = some a → FnL P w T.K mg base (L2.CX P w) n a (spF T (Fat Ds wf n false) i)
  | 0, i, a, _ => fun A _ => fn_no fun avs m => sem_low Ds wf (by decide) false i avs m
  | 1, i, a, _ => fun A _ => fn_no fun avs m => sem_low Ds wf (by decide) false i avs m
  | 2, i, a, _ => fun A _ => fn_no fun avs m => sem_low Ds wf (by decide) false i avs m
  | 3, i, a, _ => fun A _ => fn_no fun avs m => sem_low Ds wf (by decide) false i avs m
  | 4, i, a, _ => fun A _ => fn_no fun avs m => sem_low Ds wf (by decide) false i avs m
  | n + 5, i, a, ha => fun A hr => by
    obtain ⟨d, hd, hk, hdf⟩ := tx.df i a ha
    cases hi : d.ini with
    | some c =>
      rw [hi] at hdf
      exact run_ini (N := n + 3) (F := ftI (sem Ds wf) wf n) hdf (fun avs m => sem_I hd hi false avs m) hr fun fb A outer s H E fI q st ps cdv S hh hr2 => ⟨n + 2, ckN tx S hr2 (fun j b hb => lvN tx wf (n + 2) j b hb) fb⟩
    | none =>
      rw [hi] at hdf
      obtain ⟨nm, q, st, ps, oc, kV, dc, pm, cdv, ct, od, an, sl, lk, hc, S, hl, hb, hck, hto⟩ := hdf
      cases ht : d.top with
      | true => exact fn_no fun avs m => sem_TN hd hi ht avs m
      | false =>
        rw [ht] at hck
        exact run_def (N := n + 4) (F := ftN (sem Ds wf) wf n) lk hc S hl hb hck (fun avs m => sem_N hd hi ht false avs m) hr fun fb outer s H E hr2 => ⟨n + 3, ckN tx S hr2 (fun j b hb => lvN tx wf (n + 3) j b hb) fb⟩
theorem lvT (tx : Tx P w T base mg k Ds) (wf : Nat) : ∀ (n i : Nat) (a : Addr), T.fa i = some a → ∀ A : Around, Room n A → A.guards = some [] → FnAt P w T.K mg base (L2.CX P w) A a (spF T (Fat Ds wf n true) i)
  | 0, i, a, _ => fun A _ _ => fn_no fun avs m => sem_low Ds wf (by decide) true i avs m
  | 1, i, a, _ => fun A _ _ => fn_no fun avs m => sem_low Ds wf (by decide) true i avs m
  | 2, i, a, _ => fun A _ _ => fn_no fun avs m => sem_low Ds wf (by decide) true i avs m
  | 3, i, a, _ => fun A _ _ => fn_no fun avs m => sem_low Ds wf (by decide) true i avs m
  | 4, i, a, _ => fun A _ _ => fn_no fun avs m => sem_low Ds wf (by decide) true i avs m
  | n + 5, i, a, ha => fun A hr hG => by
    obtain ⟨d, hd, hk, hdf⟩ := tx.df i a ha
    cases hi : d.ini with
    | some c =>
      rw [hi] at hdf
      exact run_ini (N := n + 3) (F := ftI (sem Ds wf) wf n) hdf (fun avs m => sem_I hd hi true avs m) hr fun fb A outer s H E fI q st ps cdv S hh hr2 => ⟨n + 2, ckN tx S hr2 (fun j b hb => lvN tx wf (n + 2) j b hb) fb⟩
    | none =>
      rw [hi] at hdf
      obtain ⟨nm, q, st, ps, oc, kV, dc, pm, cdv, ct, od, an, sl, lk, hc, S, hl, hb, hck, hto⟩ := hdf
      cases ht : d.top with
      | true =>
        rw [ht] at hck
        exact run_def (N := n + 4) (F := ftT (sem Ds wf) wf n) lk hc S hl hb hck (fun avs m => sem_T hd hi ht avs m) hr fun fb outer s H E hr2 => ⟨n + 3, ckT (F := ftT (sem Ds wf) wf n) (j := n) tx S hG hr2 (fun j b hb => lvT tx wf (n + 3) j b hb) (Nat.le_refl _) (fun i b hb => lvN tx wf n i b hb) (hto ht) fb⟩
      | false =>
        rw [ht] at hck
        exact run_def (N := n + 4) (F := ftN (sem Ds wf) wf n) lk hc S hl hb hck (fun avs m => sem_N hd hi ht true avs m) hr fun fb outer s H E hr2 => ⟨n + 3, ckN tx S hr2 (fun j b hb => lvN tx wf (n + 3) j b hb) fb⟩
/-- the law says True of every script -/
def Says (Ds : List Df) (wf n i : Nat) : Prop := ∀ ns : List Int, ns.length ≤ 63 → ∃ m, sem Ds wf n true i [.sc (ns.map AV.int)] [] = .ok (.bl true) m
/-- the law's own promise -/
def spLaw (T : Tb) : Sp := fun vs H Q _ => ∃ (a : Addr) (ns : List Int), vs = [.ref a] ∧ ns.length ≤ 63 ∧ (∀ p ∈ T.tabs, H p.1 = some (.tbl #[])) ∧ SqSc T.K H a (ns.map V.int) ∧ ∀ H', Q (.bl true) H'
theorem law_at (tx : Tx P w T base mg k Ds) {wf n i : Nat} {a : Addr} (ha : T.fa i = some a) {A : Around} (hr : Room n A) (hG : A.guards = some []) (sy : Says Ds wf n i) : FnAt P w T.K mg base (L2.CX P w) A a (spLaw T) := by
  have h := lvT tx wf n i a ha A hr hG
  refine ⟨fun outer s H us vs Q E e0 r0 ⟨b, ns, h1, h2, h3, h4, h5⟩ => h.run outer s H us vs Q E e0 r0 ?_⟩
  subst h1
  obtain ⟨m, hm⟩ := sy ns h2
  refine ⟨fun _ => False, [], [], [.sc (ns.map AV.int)], ⟨rfl, List.nodup_nil, fun r a o h => by simp at h, fun b hb => hb.elim, fun p hp => LamX.TabS.nil (h3 p hp)⟩, .cons (.sc h4 (reps_ints ns)) .nil, ?_⟩
  show Good _ _ _ _ _ _ (sem Ds wf n true i [.sc (ns.map AV.int)] []) _
  rw [hm]
  intro ρ' H' nx v rv
  cases rv
  exact h5 H'
end
end Mi
set_option Elab.async false
set_option linter.all false
set_option maxRecDepth 100000
set_option maxHeartbeats 4000000
/-! Mini: the tables, fact by fact; the law's end -/
namespace Mi
open PySem PySem.Spec PyProof.Rows L2
def AllP {α : Type} (Q : α → Prop) : List α → Prop
  | [] => True
  | x :: r => Q x ∧ AllP Q r
theorem AllP.mem {α : Type} {Q : α → Prop} : ∀ {l : List α}, AllP Q l → ∀ x ∈ l, Q x
  | [], _, _, h => nomatch h
  | y :: r, h, x, hx => by
    rcases List.mem_cons.mp hx with e | e
    · rw [e]; exact h.1
    · exact AllP.mem h.2 x e
theorem AllP.of {α : Type} {Q : α → Prop} : ∀ {l : List α}, (∀ x ∈ l, Q x) → AllP Q l
  | [], _ => True.intro
  | y :: r, h => ⟨h y List.mem_cons_self, AllP.of fun x hx => h x (List.mem_cons_of_mem _ hx)⟩
section
variable {P : Program} {w : World} {mg : Str → Option Value} {base : Heap}
theorem cx_of {ca : Nat → Addr} {fa : Nat → Option Addr} {K : PySem.W.Frag} {k : Kx} (h1 : AllP (fun p : Str × Nat => mg p.1 = some (.ref (ca p.2)) ∧ (∀ t ∈ (["NoneType", "bool", "int", "str", "tuple", "list", "dict"] : List String), PySem.W.kitOne K (.type t) (.ref (ca p.2)) = some false) ∧ SlX.SCls K (ca p.2) ∧ SlX.SIsi K (ca p.2) ∧ PySem.W.kitOne K (.ref (ca p.2)) (.ref (ca p.2)) = some true) k.cl)
    (h2 : AllP (fun p : Str × Nat × Nat => ∃ q, SlX.SCls K (ca p.2.1) ∧ SlX.Slot1 K (ca p.2.1) p.1 q p.2.2) k.fl) (h3 : AllP (fun p : Str × Nat × Nat => ∃ g, fa p.2.2 = some g ∧ SlX.SCls K (ca p.2.1) ∧ Meth K (ca p.2.1) p.1 g) k.ms)
    (h4 : ∀ c j, k.lm = some (c, j) → ∃ g, fa j = some g ∧ PySem.W.findIn K (.ref (ca c)) "__len__" = some (some (.ref g)) ∧ PySem.W.isFn K (.ref g) = true) : CxOk ca fa K mg k where
  cl := fun x c h => h1.mem _ (PySem.mem_of_lookup h)
  fl := fun x c i h => h2.mem (x, c, i) (PySem.mem_of_lookup h)
  ms := fun x c j h => h3.mem (x, c, j) (PySem.mem_of_lookup h)
  lm := h4
theorem tx_of {T : Tb} {k : Kx} {Ds : List Df} {as : List Addr} (hfa : ∀ i, T.fa i = as[i]?) (hl : as.length = Ds.length) (h1 : AllP (fun p : Str × Nat => ∃ a, T.fa p.2 = some a ∧ mg p.1 = some (.ref a)) k.gn) (h2 : AllP (fun p : Str × Int => ∃ t, mg p.1 = some (.int p.2 t)) k.cs) (h2s : AllP (fun p : Str × Str => ∃ t, mg p.1 = some (.str p.2 t)) k.ss)
    (h3 : AllP (fun x => mg x = none) k.bn) (h4 : AllP (fun p : Df × Addr => DfOk T base mg k p.1 p.2) (Ds.zip as)) (h5 : AllP (fun p : Str × List (Nat × Str × Bool) => TellDef T T.K mg p.1 p.2) k.met)
    (h6 : AllP (fun p : Str × Nat × Bool => ∀ (X : Cx) (n : Nat), X.prog = P → X.K = T.K → X.mg = mg → Room (n + 1) X.A → ExcOk T X p.2.1 p.1 p.2.2) k.ec) (cx : CxOk T.ca T.fa T.K mg k) : Tx P w T base mg k Ds where
  hgn := fun x i h => h1.mem _ (PySem.mem_of_lookup h)
  hcs := fun x i h => h2.mem _ (PySem.mem_of_lookup h)
  hss := fun x i h => h2s.mem _ (PySem.mem_of_lookup h)
  hbn := fun x h => h3.mem x (List.contains_iff_mem.mp h)
  df := fun i a h => by
    rw [hfa] at h
    have hi : i < Ds.length := by rw [← hl]; exact get_lt h
    refine ⟨Ds[i], List.getElem?_eq_getElem hi, ?_⟩
    have z : (Ds.zip as)[i]? = some (Ds[i], a) := by
      rw [List.getElem?_zip_eq_some]
      exact ⟨List.getElem?_eq_getElem hi, h⟩
    exact h4.mem _ (mem_get z)
  mt := fun x hs h => h5.mem (x, hs) (PySem.mem_of_lookup h)
  ec := fun x c b h => h6.mem (x, c, b) (PySem.mem_of_lookup h)
  cx := cx
theorem fin_mk {K : PySem.W.Frag} {h : Heap} {fa : Addr} {T : Tb} {k : Kx} {Ds : List Df} {wf n i : Nat} {ts : List (Addr × Addr × Str)} (hK : T.K = K) (ht : T.tabs = ts.map fun t => (t.2.1, t.2.2)) (h1 : AllP (fun t : Addr × Addr × Str => PySem.W.CodeHd h t.1 t.2.1 ∧ h.get? t.2.1 = some teObj ∧ K.lookup t.2.1 = none) ts)
    (tx : ∀ base : Heap, K.In base → base.Ns mainGlobals mg → AllP (fun t : Addr × Addr × Str => LamX.TabB base mg t.1 t.2.1) ts → Tx P w T base mg k Ds) (ha : T.fa i = some fa) (sy : Says Ds wf n i) (hr : Room n callerA) : ∃ (cs : List (Addr × Addr)) (sp : Sp),
      (∀ p ∈ cs, PySem.W.CodeHd h p.1 p.2 ∧ h.get? p.2 = some teObj ∧ K.lookup p.2 = none) ∧
      (∀ (H : Hp) (a : Addr) (ns : List Int), ns.length ≤ 63 → (∀ p ∈ cs, H p.2 = some (.tbl #[])) → SqSc K H a (ns.map V.int) → sp [.ref a] H (fun v _ => v = .bl true) fun _ _ _ => False) ∧
      ∀ base : Heap, K.In base → base.Ns mainGlobals mg → (∀ p ∈ cs, LamX.TabB base mg p.1 p.2) → FnAt P w K mg base (L2.CX P w) callerA fa sp := by
  subst hK
  refine ⟨ts.map fun t => (t.1, t.2.1), spLaw T, fun p hp => ?_, fun H a ns hl hH hS => ?_, fun base kB nB hT => ?_⟩
  · obtain ⟨t, ht, rfl⟩ := List.mem_map.mp hp
    exact h1.mem t ht
  · refine ⟨a, ns, rfl, hl, fun p hp => ?_, hS, fun _ => rfl⟩
    rw [ht] at hp
    obtain ⟨t, ht, rfl⟩ := List.mem_map.mp hp
    exact hH _ (List.mem_map.mpr ⟨t, ht, rfl⟩)
  · have x := tx base kB nB (AllP.of fun t ht => hT _ (List.mem_map.mpr ⟨t, ht, rfl⟩))
    exact law_at x ha hr rfl sy
end
end Mi
set_option Elab.async false
set_option linter.all false
set_option maxRecDepth 100000
set_option maxHeartbeats 4000000
/-! Mini: what the written part says, as Bools that the kernel runs -/
namespace Mi
open PySem PySem.Spec PyProof.Rows L2 PySem.W
theorem and2 {a b : Bool} (h : (a && b) = true) : a = true ∧ b = true := Bool.and_eq_true_iff.mp h
/-! ### exceptions -/
def veB : List Value := [.type "ValueError", .type "Exception", .type "BaseException", .type "object"]
def exOwnB (K : Frag) (C : Addr) : Bool := excIn K C veB "ValueError.__new__" && (keepIn K (.ref C) && (decide (subIn K (.ref C) (.type "BaseException") = some true) && decide (typeIn K (.ref C) = some (.type "type"))))
theorem exOwn_ok {P : Program} {T : Tb} {K : Frag} {mg : Str → Option Value} {c : Nat} {C : Addr} {x : Str} (hK : T.K = K) (hb : exOwnB K C = true) (gC : mg x = some (.ref C)) (hc : T.ca c = C) (hf : T.fld c = none) (hd : (x == ("__debug__" : Str)) = false) : ∀ (X : Cx) (n : Nat), X.prog = P → X.K = T.K → X.mg = mg → Room (n + 1) X.A → ExcOk T X c x false := by
  intro X n h1 h2 h3 h4
  subst hK
  obtain ⟨a1, hb⟩ := and2 hb
  obtain ⟨a2, hb⟩ := and2 hb
  obtain ⟨a3, a4⟩ := and2 hb
  refine exc_own hc hf PySem.F.excBase_ValueError (bmB := veB) ?_ (by rw [h3]; exact gC) ?_ ?_ ?_ hd
  · rw [h2]; exact a1
  · rw [h2]; exact a2
  · rw [h2]; exact of_decide_eq_true a3
  · rw [h2]; exact of_decide_eq_true a4
/-- an own exception with a field: what the kernel asks -/
def cntKB (K : Frag) (C fI cda : Addr) (B newId initId : String) (bmB : List Value) (f qual : Str) : Bool :=
  excInitIn K C bmB newId && (decide (findIn K (.ref C) "__init__" = some (some (.ref fI))) && (isFn K (.ref fI) && (codeIn K (.ref cda) qual && ((clsIn K C).isSome && (decide (mroIn K C (.ref C) = some true) && (decide (ks_superIn K C C "__init__" = some (some (.builtin initId))) &&
  (decide (subIn K (.ref C) (.type B) = some true) && (decide (nsIn K cStatics "thirdparty.any" = some none) && (decide (findIn K (.ref C) "__setattr__" = some (some (.builtin "object.__setattr__"))) && (excOver K C bmB && (decide (takerIn K C f = some none) && (hasDictIn K C && (keepIn K (.ref C) &&
  (decide (subIn K (.ref C) (.type "BaseException") = some true) && (decide (typeIn K (.ref C) = some (.type "type")) && decide (typeIn K (.ref fI) = some (.type "function")))))))))))))))))
/-- .. of its text -/
structure CntT (q : Program) (st : Stmt) (f qual : Str) : Prop where
  bd : ∃ p0 p1 p2 p3 p4 p5 p6 p7 p8 p9, defBody st = cntB f f p0 p1 p2 p3 p4 p5 p6 p7 p8 p9 ∧ ∀ (fI cda cc L : Addr), ∃ pl : Sem Bool, eval (.Call (.Attribute (.Call (.Name "super" p0) [] [] p1) "__init__" p2) [.Name f p3] [] p4) (ksEnv qual (defScope st) L fI (.ref cda) cc) = (do
      let ov ← attributeBase (.Call (.Name "super" p0) [] [] p1) "__init__" (ksEnv qual (defScope st) L fI (.ref cda) cc) (eval (.Call (.Name "super" p0) [] [] p1) (ksEnv qual (defScope st) L fI (.ref cda) cc))
      standAt p2.atName
      let (g, first) ← holding [ov] (getMethod ov "__init__" pl)
      callWith p4 g first (backTo p4 (starEach [.Name f p3] (ksEnv qual (defScope st) L fI (.ref cda) cc))) [])
  top : (q.main.scope.names.lookup ("super" : Str)).isSome = false
  hp0 : ∃ ar : Arg, ar.arg = ("self" : Str) ∧ ((defArgs st).posonlyargs ++ (defArgs st).args).head? = some ar
  binds : ∀ (dc pm ct : Value) (an : Option Addr) (cda cc : Addr) (kV : Value) (s : Shared) (e : Addr) (u : Value), BindsTo s (ksFn "__init__" qual (defArgs st) (defBody st) (defScope st) .none kV dc pm an (.ref cda) ct cc) ⟨[.ref e, u], []⟩ [("self", .ref e), (f, u)]
  sw : ∀ (prm' : Str) (p6 p7 p8 p9 : Pos) (L fI cda cc : Addr), swapsWith (.Name prm' p8) (some (.Attribute (.Name "self" p6) f p7)) p9.line (ksEnv qual (defScope st) L fI (.ref cda) cc) = pure false
  sc1 : (defScope st).names.lookup ("self" : Str) = some .local
  sc2 : (defScope st).names.lookup f = some .local
  sc3 : (defScope st).names.lookup ("super" : Str) = some .globalImplicit
  sc4 : (defScope st).names.lookup ("__class__" : Str) = some .free
  sck : (defScope st).kind = .function
  sco : (defScope st).isCoroutine = false
  scg : (defScope st).isGenerator = false
  scc : ∀ x ∈ (defScope st).names, x.2 ≠ .cell
  n1 : (f == ("self" : Str)) = false
  n2 : (f == ("__debug__" : Str)) = false
theorem cnt_ok {q : Program} {T : Tb} {K : Frag} {mg : Str → Option Value} {c : Nat} {C fI cc cda : Addr} {B newId initId : String} {bmB : List Value} {x f qual : Str} {st : Stmt} {oc kV dc pm ct cl ccl : Value} {od an cld cdd : Option Addr} {sl csl ccs : Array (Option Value)} {vs : Array Value} {file : Str} {tf : Tok}
    (fb : ExcBaseFacts B newId initId bmB) (kx : KxsFacts B initId) (sf : StoreFacts B bmB "object.__setattr__" "object") (t : CntT q st f qual) (hK : T.K = K)
    (ho : K.lookup fI = some ⟨oc, od, .func (ksFn "__init__" qual (defArgs st) (defBody st) (defScope st) .none kV dc pm an (.ref cda) ct cc), sl⟩) (hcell : K.lookup cc = some ⟨cl, cld, .cell (some (.ref C)), csl⟩)
    (hcode : K.lookup cda = some ⟨ccl, cdd, .fields vs, ccs⟩) (hvs : vs[2]? = some (.str file tf)) (hfile : (q.main.file == file) = true) (hb : cntKB K C fI cda B newId initId bmB f qual = true) (sup : mg ("super" : Str) = none) (gC : mg x = some (.ref C)) (hc : T.ca c = C) (hf : T.fld c = some f) (hd : (x == ("__debug__" : Str)) = false) :
    ∀ (X : Cx) (n : Nat), X.prog = q → X.K = T.K → X.mg = mg → Room (n + 1) X.A → ExcOk T X c x true := by
  intro X n h1 h2 h3 h4
  subst hK
  unfold cntKB at hb
  obtain ⟨a1, hb⟩ := and2 hb
  obtain ⟨a2, hb⟩ := and2 hb
  obtain ⟨a3, hb⟩ := and2 hb
  obtain ⟨a4, hb⟩ := and2 hb
  obtain ⟨a5, hb⟩ := and2 hb
  obtain ⟨a6, hb⟩ := and2 hb
  obtain ⟨a7, hb⟩ := and2 hb
  obtain ⟨a8, hb⟩ := and2 hb
  obtain ⟨a9, hb⟩ := and2 hb
  obtain ⟨a10, hb⟩ := and2 hb
  obtain ⟨a11, hb⟩ := and2 hb
  obtain ⟨a12, hb⟩ := and2 hb
  obtain ⟨a13, hb⟩ := and2 hb
  obtain ⟨a14, hb⟩ := and2 hb
  obtain ⟨a15, hb⟩ := and2 hb
  obtain ⟨a16, a17⟩ := and2 hb
  obtain ⟨p0, p1, p2, p3, p4, p5, p6, p7, p8, p9, eb, ev0⟩ := t.bd
  have tc : CntC X.prog X.K X.mg C fI cc cda B newId initId bmB f f qual (defArgs st) (defScope st) .none kV dc pm ct an (cntB f f p0 p1 p2 p3 p4 p5 p6 p7 p8 p9) := by
    rw [h1, h2, h3, ← eb]
    exact {
      fb := fb
      kx := kx
      sf := sf
      q := a1
      hi := of_decide_eq_true a2
      hf := a3
      ho := ⟨oc, od, sl, ho⟩
      hcd := a4
      cell := ⟨cl, cld, csl, hcell⟩
      code := ⟨ccl, cdd, ccs, vs, file, tf, hcode, hvs, hfile⟩
      hD := Option.isSome_iff_exists.mp a5
      sub := of_decide_eq_true a6
      sup := sup
      supIn := of_decide_eq_true a7
      subB := of_decide_eq_true a8
      opq := of_decide_eq_true a9
      top := t.top
      sa := of_decide_eq_true a10
      over := a11
      tk := of_decide_eq_true a12
      hd := a13
      kp := a14
      exC := of_decide_eq_true a15
      tyC := of_decide_eq_true a16
      tyI := of_decide_eq_true a17
      binds := fun s e u => t.binds _ _ _ _ _ _ _ s e u
      hp0 := t.hp0
      sw := fun a b c d e L => t.sw a b c d e L _ _ _
      ev := fun prm' r0 r1 r2 r3 r4 r5 r6 r7 r8 r9 hbd L => by
        rw [eb] at hbd
        cases hbd
        exact ev0 _ _ _ L
      sc1 := t.sc1
      sc2 := t.sc2
      sc3 := t.sc3
      sc4 := t.sc4
      sck := t.sck
      sco := t.sco
      scg := t.scg
      scc := t.scc
      dVn := rfl }
  exact exc_cnt hc hf tc t.n1 t.n2 h4 (by rw [h3]; exact gC) hd
/-! ### the classes of the def that tells -/
def exmB (K : Frag) (ca : Nat → Addr) (hs : List (Nat × Str × Bool)) : Bool := hs.all fun e => hs.all fun e' => decide (exmOne K (.ref (ca e.1)) (.ref (ca e'.1)) = some (Nat.beq e'.1 e.1))
theorem exm_ok {K : Frag} {ca : Nat → Addr} {hs : List (Nat × Str × Bool)} (h : exmB K ca hs = true) : ∀ e ∈ hs, ∀ e' ∈ hs, exmOne K (.ref (ca e.1)) (.ref (ca e'.1)) = some (Nat.beq e'.1 e.1) := fun e he e' he' => by
  unfold exmB at h
  rw [List.all_eq_true] at h
  have h1 := h e he
  rw [List.all_eq_true] at h1
  exact of_decide_eq_true (h1 e' he')
/-! ### an own class with one slot -/
def sclB (K : Frag) (C : Addr) : Bool := plainGet K C Str.empty && (isClsIn K C && (plainOver K C && decide (findIn K (.ref C) "__setattr__" = some (some (.builtin "object.__setattr__")))))
theorem scl_ok {K : Frag} {C : Addr} (h : sclB K C = true) : SlX.SCls K C := by
  obtain ⟨a1, h⟩ := and2 h
  obtain ⟨a2, h⟩ := and2 h
  obtain ⟨a3, a4⟩ := and2 h
  exact ⟨a1, a2, a3, of_decide_eq_true a4⟩
def isiB (K : Frag) (C : Addr) : Bool := decide (findIn K (.ref C) "__class__" = some (some (.builtin "object.__class__"))) && (decide (specialIn K (.builtin "object.__class__") "__get__" = some (some (.builtin "getset_descriptor.__get__"))) && (decide (takesIn K (.builtin "object.__class__") = some true) && decide (mroIn K C (.type "object") = some true)))
theorem isi_ok {K : Frag} {C : Addr} (h : isiB K C = true) : SlX.SIsi K C := by
  obtain ⟨a1, h⟩ := and2 h
  obtain ⟨a2, h⟩ := and2 h
  obtain ⟨a3, a4⟩ := and2 h
  exact ⟨of_decide_eq_true a1, of_decide_eq_true a2, of_decide_eq_true a3, of_decide_eq_true a4⟩
def slotB (K : Frag) (C p : Addr) (f : Str) (i : Nat) : Bool := decide (findIn K (.ref C) f = some (some (.ref p))) && (decide (specialIn K (.ref p) "__get__" = some (some (.builtin "member_descriptor.__get__"))) && (decide (takesIn K (.ref p) = some true) && (decide (typeIn K (.ref p) = some (.type "member_descriptor")) && (decide (slotIn K p C = some i) && Nat.blt i 1000))))
theorem slot_ok {K : Frag} {C p : Addr} {f : Str} {i : Nat} (h : slotB K C p f i = true) : SlX.Slot1 K C f p i := by
  obtain ⟨a1, h⟩ := and2 h
  obtain ⟨a2, h⟩ := and2 h
  obtain ⟨a3, h⟩ := and2 h
  obtain ⟨a4, h⟩ := and2 h
  obtain ⟨a5, a6⟩ := and2 h
  exact ⟨of_decide_eq_true a1, of_decide_eq_true a2, of_decide_eq_true a3, of_decide_eq_true a4, of_decide_eq_true a5, Nat.blt_eq.mp a6⟩
def kitsB (K : Frag) (C : Addr) : Bool := (["NoneType", "bool", "int", "str", "tuple", "list", "dict"] : List String).all (fun t => decide (kitOne K (.type t) (.ref C) = some false)) && decide (kitOne K (.ref C) (.ref C) = some true)
theorem kits_ok {K : Frag} {C : Addr} (h : kitsB K C = true) : (∀ t ∈ (["NoneType", "bool", "int", "str", "tuple", "list", "dict"] : List String), kitOne K (.type t) (.ref C) = some false) ∧ kitOne K (.ref C) (.ref C) = some true := by
  obtain ⟨a1, a2⟩ := and2 h
  rw [List.all_eq_true] at a1
  exact ⟨fun t ht => of_decide_eq_true (a1 t ht), of_decide_eq_true a2⟩
def methB (K : Frag) (C g : Addr) (m : Str) : Bool := decide (findIn K (.ref C) m = some (some (.ref g))) && (isFn K (.ref g) && keepIn K (.ref g))
theorem meth_ok {K : Frag} {C g : Addr} {m : Str} (h : methB K C g m = true) : Meth K C m g := by
  obtain ⟨a1, h⟩ := and2 h
  obtain ⟨a2, a3⟩ := and2 h
  exact ⟨of_decide_eq_true a1, a2, a3⟩
def mkB (K : Frag) (C fI : Addr) : Bool := makesIn K C && (decide (findIn K (.ref C) "__init__" = some (some (.ref fI))) && (isFn K (.ref fI) && keepIn K (.ref C)))
theorem mk_ok {K : Frag} {C fI : Addr} (h : mkB K C fI = true) : Mk K C fI := by
  obtain ⟨a1, h⟩ := and2 h
  obtain ⟨a2, h⟩ := and2 h
  obtain ⟨a3, a4⟩ := and2 h
  exact ⟨a1, of_decide_eq_true a2, a3, a4⟩
/-! ### a def's table of code objects -/
theorem tabIn_of {K : Frag} {x : Str} {a c P : Addr} {fd : FuncData} {oc ccl : Value} {od cdd : Option Addr} {sl ccs : Array (Option Value)} {vs : Array Value} (h1 : nsIn K mainGlobals x = some (some (.ref a))) (h2 : K.lookup a = some ⟨oc, od, .func fd, sl⟩) (h3 : fd.code = .ref c) (h4 : K.lookup c = some ⟨ccl, cdd, .fields vs, ccs⟩) (h5 : vs[11]? = some (.ref P)) :
    tabIn K x = some (c, P) := by
  unfold tabIn
  rw [h1]
  dsimp only
  rw [h2]
  dsimp only
  rw [h3]
  dsimp only
  rw [h4]
  dsimp only
  rw [h5]
theorem tab_ok {q : Program} {loose : List Str} {mean : ExcName → Option Value} {mg mb : Str → Option Value} {h : Heap} {K : Frag} {x : Str} {a c P : Addr} {fd : FuncData} {oc ccl : Value} {od cdd : Option Addr} {sl ccs : Array (Option Value)} {vs : Array Value} (Tp : Top q loose mean mg mb h) (X : K.In h)
    (hr : ((recsOf q).find? fun e => e.name == x).isSome = true) (h1 : nsIn K mainGlobals x = some (some (.ref a))) (h2 : K.lookup a = some ⟨oc, od, .func fd, sl⟩) (h3 : fd.code = .ref c) (h4 : K.lookup c = some ⟨ccl, cdd, .fields vs, ccs⟩) (h5 : vs[11]? = some (.ref P)) (h6 : K.lookup P = none) :
    CodeHd h c P ∧ h.get? P = some teObj ∧ K.lookup P = none := by
  obtain ⟨d, hd⟩ := Option.isSome_iff_exists.mp hr
  obtain ⟨z1, z2⟩ := tab_of Tp X hd (tabIn_of h1 h2 h3 h4 h5)
  exact ⟨z1, z2, h6⟩
end Mi
set_option Elab.async false
set_option linter.all false
set_option maxRecDepth 100000
set_option maxHeartbeats 4000000
/-! Mini: equations, to read the evaluator by hand -/
namespace Mi
section
variable (x y a b c d e es : A)
@[simp] theorem q_var (i : Nat) : (den (.var i)).e = eVar i := rfl
@[simp] theorem q_int (i : Int) : (den (.int i)).e = eLit (.int i) := rfl
@[simp] theorem q_bl (i : Bool) : (den (.bl i)).e = eLit (.bl i) := rfl
@[simp] theorem q_non : (den .non).e = eLit .non := rfl
@[simp] theorem q_str (i : PySem.Str) : (den (.str i)).e = eLit (.str i) := rfl
@[simp] theorem q_gi (n : PySem.Str) (i : Int) : (den (.gi n i)).e = eLit (.int i) := rfl
@[simp] theorem q_fnm (i : Nat) : (den (.fnm i)).e = eLit (.fn i) := rfl
@[simp] theorem q_bin (o : Op) : (den (.bin o a b)).e = eBin o (den a) (den b) := rfl
@[simp] theorem q_neg : (den (.neg a)).e = eNeg (den a) := rfl
@[simp] theorem q_cmp (o : Cm) : (den (.cmp o a b)).e = eCmp o (den a) (den b) := rfl
@[simp] theorem q_chn (o o' : Cm) : (den (.chn o o' a b c)).e = eChn o o' (den a) (den b) (den c) := rfl
@[simp] theorem q_and : (den (.and a b)).e = eAnd (den a) (den b) := rfl
@[simp] theorem q_or : (den (.or a b)).e = eOr (den a) (den b) := rfl
@[simp] theorem q_one : (den (.one a)).e = (den a).e := rfl
@[simp] theorem q_not : (den (.not a)).e = eNot (den a) := rfl
@[simp] theorem q_ite : (den (.ite c a b)).e = eIte (den c) (den a) (den b) := rfl
@[simp] theorem q_tup : (den (.tup es)).e = eTup (den es) := rfl
@[simp] theorem q_lst : (den (.lst es)).e = eLst (den es) := rfl
@[simp] theorem q_idx : (den (.idx a b)).e = eIdx (den a) (den b) := rfl
@[simp] theorem q_slc : (den (.slc a b c)).e = eSlc (den a) (den b) (den c) := rfl
@[simp] theorem q_call (k : Nat) : (den (.call k es)).e = eCall k (den es) := rfl
@[simp] theorem q_fz : (den (.fz a)).e = fun _ => (den a).e true := rfl
@[simp] theorem q_calv (k : Nat) : (den (.calv k es)).e = eCalv k (den es) := rfl
@[simp] theorem q_bi (k : BI) : (den (.bi k es)).e = eBi k (den es) := rfl
@[simp] theorem q_isi (k : BI) : (den (.isi k a)).e = eIsi k (den a) := rfl
@[simp] theorem q_bir1 (k : BI) : (den (.bir1 k a)).e = eBir1 k (den a) := rfl
@[simp] theorem q_bir2 (k : BI) : (den (.bir2 k a b)).e = eBir2 k (den a) (den b) := rfl
@[simp] theorem q_lc (vs : List Nat) (tg it ifs elt : A) : (den (.lc vs tg it ifs elt)).e = eLc vs (den tg) (den it) (den ifs) (den elt) := rfl
@[simp] theorem q_lc2 (vs vs1 : List Nat) (tg it ifs tg1 it1 ifs1 elt : A) : (den (.lc2 vs vs1 tg it ifs tg1 it1 ifs1 elt)).e = eLc2 vs vs1 (den tg) (den it) (den ifs) (den tg1) (den it1) (den ifs1) (den elt) := rfl
@[simp] theorem q_app : (den (.app a b)).e = eApp (den a) (den b) := rfl
@[simp] theorem q_popL : (den (.popL a)).e = ePopL (den a) := rfl
@[simp] theorem q_popA : (den (.popA a b)).e = ePopA (den a) (den b) := rfl
@[simp] theorem q_index : (den (.index a b)).e = eIndex (den a) (den b) := rfl
@[simp] theorem q_extend : (den (.extend a b)).e = eExt (den a) (den b) := rfl
-- rows
@[simp] theorem q_anil : (den .nil).a = fun _ _ m => .ok [] m := rfl
@[simp] theorem q_tnil : (den .nil).t = fun _ _ m => .ok true m := rfl
@[simp] theorem q_onil : (den .nil).o = fun _ _ m => .ok none m := rfl
@[simp] theorem q_gsnil : (den .nil).gs = fun vs s => match vs with | [] => some s | _ => none := rfl
@[simp] theorem q_bnil : (den .nil).b = fun _ s m => .nx s m := rfl
@[simp] theorem q_acons : (den (.cons a b)).a = aCons (den a) (den b) := rfl
@[simp] theorem q_tcons : (den (.cons a b)).t = tCons (den a) (den b) := rfl
@[simp] theorem q_gscons : (den (.cons a b)).gs = gCons (den a) (den b) := rfl
@[simp] theorem q_bcons : (den (.cons a b)).b = bCons (den a) (den b) := rfl
@[simp] theorem q_stc : (den (.stc a b)).a = aSt (den a) (den b) := rfl
@[simp] theorem q_oint (i : Int) : (den (.int i)).o = oOf (eLit (.int i)) := rfl
@[simp] theorem q_iter (k : It) : (den (.iter k es)).i = iIter k (den es) := rfl
@[simp] theorem q_itE : (den (.itE a)).i = iE (den a) := rfl
@[simp] theorem q_gn (i : Nat) : (den (.gn i)).g = fun v s => some (setS s i v) := rfl
@[simp] theorem q_gt : (den (.gt es)).g = fun v s => match v with | .tup xs => (den es).gs xs s | _ => none := rfl
-- statements
@[simp] theorem q_sE : (den (.sE e)).s = sE (den e) := rfl
@[simp] theorem q_sA (i : Nat) : (den (.sA i e)).s = sA i (den e) := rfl
@[simp] theorem q_sAl (i : Nat) : (den (.sAl i e)).s = sA i (den e) := rfl
@[simp] theorem q_sG : (den (.sG a e)).s = sG (den a) (den e) := rfl
@[simp] theorem q_sP (is : List Nat) : (den (.sP is es)).s = sP is (den es) := rfl
@[simp] theorem q_sI : (den (.sI a b c)).s = sI (den a) (den b) (den c) := rfl
@[simp] theorem q_sU (i : Nat) (o : Op) : (den (.sU i o e)).s = sU i o (den e) := rfl
@[simp] theorem q_sIf : (den (.sIf c a b)).s = sIf (den c) (den a) (den b) := rfl
@[simp] theorem q_sFor : (den (.sFor a b c)).s = sFor (den a) (den b) (den c) := rfl
@[simp] theorem q_sWh : (den (.sWh a b)).s = sWh (den a) (den b) := rfl
@[simp] theorem q_sR : (den (.sR e)).s = sR (den e) := rfl
@[simp] theorem q_sRn : (den .sRn).s = fun _ _ m => .rt .non m := rfl
@[simp] theorem q_sPass : (den .sPass).s = fun _ s m => .nx s m := rfl
end
section
variable {α β : Type}
@[simp] theorem r_bok (a : α) (m : AH) (k : α → AH → Rs β) : (Rs.ok a m).bind k = k a m := rfl
@[simp] theorem r_op (a : α) (m : AH) : Rs.op (some (a, m)) = .ok a m := rfl
@[simp] theorem r_of (a : α) (m : AH) : Rs.of (some a) m = .ok a m := rfl
@[simp] theorem r_toRS (v : AV) (m : AH) (s : ASt) (k : AV → AH → RS) : toRS (.ok v m) s k = k v m := rfl
@[simp] theorem r_toRSl (v : List AV) (m : AH) (s : ASt) (k : List AV → AH → RS) : toRSl (.ok v m) s k = k v m := rfl
@[simp] theorem r_seqn (s : ASt) (m : AH) (k : ASt → AH → RS) : (RS.nx s m).seq k = k s m := rfl
@[simp] theorem r_seqr (v : AV) (m : AH) (k : ASt → AH → RS) : (RS.rt v m).seq k = .rt v m := rfl
end
section
variable (a b c d es : D) (fr : Bool) (F : FT) (s : ASt) (m : AH)
@[simp] theorem u_var (i : Nat) : eVar i fr F s m = match s[i]? with | some (some v) => .ok v m | _ => .no := rfl
@[simp] theorem u_lit (v : AV) : eLit v fr F s m = .ok v m := rfl
@[simp] theorem u_bin (o : Op) : eBin o a b fr F s m = (a.e true F s m).bind fun v m1 => (b.e true F s m1).bind fun w m2 => .op (binV fr o v w m2) := rfl
@[simp] theorem u_neg : eNeg a fr F s m = (a.e fr F s m).bind fun v m1 => .of ((intOf v).map fun i => AV.int (-i)) m1 := rfl
@[simp] theorem u_cmp (o : Cm) : eCmp o a b fr F s m = (a.e true F s m).bind fun v m1 => (b.e true F s m1).bind fun w m2 => .of ((cmV o v w m2).map AV.bl) m2 := rfl
@[simp] theorem u_and : eAnd a b fr F s m = (a.e fr F s m).bind fun v m1 => match v with | .bl true => b.e fr F s m1 | .bl false => .ok (.bl false) m1 | _ => .no := rfl
@[simp] theorem u_or : eOr a b fr F s m = (a.e fr F s m).bind fun v m1 => match v with | .bl false => b.e fr F s m1 | .bl true => .ok (.bl true) m1 | _ => .no := rfl
@[simp] theorem u_not : eNot a fr F s m = (a.e fr F s m).bind fun v m1 => match v with | .bl c => .ok (.bl (!c)) m1 | _ => .no := rfl
@[simp] theorem u_ite : eIte c a b fr F s m = (c.e true F s m).bind fun v m1 => match truV m1 v with | some true => a.e fr F s m1 | some false => b.e fr F s m1 | none => .no := rfl
@[simp] theorem u_tup : eTup es fr F s m = (es.a F s m).bind fun vs m1 => .op (mkT vs m1) := rfl
@[simp] theorem u_lst : eLst es fr F s m = (es.a F s m).bind fun vs m1 => .op (newL fr vs m1) := rfl
@[simp] theorem u_idx : eIdx a b fr F s m = (a.e true F s m).bind fun v m1 => (b.e true F s m1).bind fun w m2 => .of (idxV v w m2) m2 := rfl
@[simp] theorem u_call (k : Nat) : eCall k es fr F s m = (es.a F s m).bind fun vs m1 => callV fr F k vs m1 := rfl
@[simp] theorem u_bi (k : BI) : eBi k es fr F s m = (es.a F s m).bind fun vs m1 => .op (biV fr k vs m1) := rfl
@[simp] theorem u_isi (k : BI) : eIsi k a fr F s m = (a.e true F s m).bind fun v m1 => .op (bi1 fr k v m1) := rfl
@[simp] theorem u_acons : aCons a b F s m = (a.e false F s m).bind fun v m1 => (b.a F s m1).bind fun vs m2 => .ok (v :: vs) m2 := rfl
@[simp] theorem u_tcons : tCons a b F s m = (a.e true F s m).bind fun v m1 => match truV m1 v with | some true => b.t F s m1 | some false => .ok false m1 | none => .no := rfl
@[simp] theorem u_bcons : bCons a b F s m = (a.s F s m).seq fun s1 m1 => b.b F s1 m1 := rfl
@[simp] theorem u_sE : sE a F s m = toRS (a.e true F s m) s fun _ m1 => .nx s m1 := rfl
@[simp] theorem u_sA (i : Nat) : sA i a F s m = toRS (a.e false F s m) s fun v m1 => .nx (setS s i v) m1 := rfl
@[simp] theorem u_sG : sG a b F s m = toRS (b.e false F s m) s fun v m1 => match a.g v s with | some s1 => .nx s1 m1 | none => .no := rfl
@[simp] theorem u_sP (is : List Nat) : sP is es F s m = toRSl (es.a F s m) s fun vs m1 => match setAll is vs s with | some s1 => .nx s1 m1 | none => .no := rfl
@[simp] theorem u_sIf : sIf c a b F s m = toRS (c.e true F s m) s fun v m1 => match truV m1 v with | some true => a.b F s m1 | some false => b.b F s m1 | none => .no := rfl
@[simp] theorem u_sR : sR a F s m = toRS (a.e false F s m) s fun v m1 => .rt v m1 := rfl
@[simp] theorem u_sI : sI a b c F s m = toRS (c.e false F s m) s fun v m1 => toRS (a.e true F s m1) s fun l m2 => toRS (b.e true F s m2) s fun j m3 => match l, j with
  | .ref r, .int j => (match getL m3 r with | some (ep, xs) => (match setIx xs j v with | some ys => .nx s (setL r ep ys m3) | none => .no) | none => .no)
  | _, _ => .no := rfl
end
/-- the end of a call -/
def RS.fin (r : RS) : Rs AV := match r with
  | .nx _ m1 => .ok .non m1
  | .rt v m1 => .ok v m1
  | .ex c ws _ m1 => .ex c ws m1
  | _ => .no
theorem run_fin (d : Df) (F : FT) (vs : List AV) (m : AH) (hl : vs.length = d.np) : runD d F vs m = ((den d.body).b F (vs.map some ++ List.replicate (d.N.length - vs.length) none) m).fin := by
  unfold runD
  rw [hl, Nat.beq_refl]
  rfl
theorem sem_succ (Ds : List Df) (wf n k : Nat) (tp : Bool) (vs : List AV) (m : AH) (d : Df) (h : Ds[k]? = some d) (hi : d.ini = none) (ht : d.top = false) (hl : vs.length = d.np) : sem Ds wf (n + 5) tp k vs m = ((den d.body).b (ftN (sem Ds wf) wf n) (vs.map some ++ List.replicate (d.N.length - vs.length) none) m).fin := by
  rw [sem_N h hi ht, run_fin _ _ _ _ hl]
theorem sem_top (Ds : List Df) (wf n k : Nat) (vs : List AV) (m : AH) (d : Df) (h : Ds[k]? = some d) (hi : d.ini = none) (ht : d.top = true) (hl : vs.length = d.np) : sem Ds wf (n + 5) true k vs m = ((den d.body).b (ftT (sem Ds wf) wf n) (vs.map some ++ List.replicate (d.N.length - vs.length) none) m).fin := by
  rw [sem_T h hi ht, run_fin _ _ _ _ hl]
end Mi
set_option Elab.async false
set_option linter.all false
set_option maxRecDepth 100000
set_option maxHeartbeats 4000000
/-! Mini: plain facts about ints in the evaluator -/
namespace Mi
theorem p_mod {fr : Bool} {i j : Int} {m : AH} (h : j ≠ 0) : binV fr .mod (.int i) (.int j) m = some (.int (i.fmod j), m) := by
  show (opI .mod i j).map _ = _
  show (if (j == 0) = true then none else some (i.fmod j)).map _ = _
  rw [if_neg (by simpa using h)]
  rfl
theorem p_fdiv {fr : Bool} {i j : Int} {m : AH} (h : divOk j = true) : binV fr .fdiv (.int i) (.int j) m = some (.int (i.fdiv j), m) := by
  show (opI .fdiv i j).map _ = _
  show (if divOk j = true then some (i.fdiv j) else none).map _ = _
  rw [if_pos h]
  rfl
theorem p_mul {fr : Bool} {i j : Int} {m : AH} (h : mulOk i j = true) : binV fr .mul (.int i) (.int j) m = some (.int (i * j), m) := by
  show (opI .mul i j).map _ = _
  show (if mulOk i j = true then some (i * j) else none).map _ = _
  rw [if_pos h]
  rfl
theorem p_add {fr : Bool} {i j : Int} {m : AH} : binV fr .add (.int i) (.int j) m = some (.int (i + j), m) := rfl
theorem p_sub {fr : Bool} {i j : Int} {m : AH} : binV fr .sub (.int i) (.int j) m = some (.int (i - j), m) := rfl
theorem p_gt {i j : Int} {m : AH} : cmV .gt (.int i) (.int j) m = some (decide (j < i)) := rfl
theorem p_lt {i j : Int} {m : AH} : cmV .lt (.int i) (.int j) m = some (decide (i < j)) := rfl
theorem p_int {fr : Bool} {i : Int} {m : AH} : biV fr .int [.int i] m = some (.int i, m) := rfl
theorem p_intb {fr : Bool} {i : Bool} {m : AH} : biV fr .int [.bl i] m = some (.int (b2i i), m) := rfl
theorem p_abs {fr : Bool} {i : Int} {m : AH} : biV fr .abs [.int i] m = some (.int (if i < 0 then -i else i), m) := rfl
theorem big_of {i : Int} {n : Nat} (h : i.natAbs ≤ n) (hn : n < big) : Nat.blt i.natAbs big = true := by
  rw [Nat.blt_eq]
  exact Nat.lt_of_le_of_lt h hn
theorem mulOk_of {i j : Int} {a b : Nat} (hi : i.natAbs ≤ a) (hj : j.natAbs ≤ b) (ha : Nat.blt a big = true) (hb : Nat.blt b big = true) : mulOk i j = true := by
  unfold mulOk
  rw [big_of hi (Nat.blt_eq.mp ha), big_of hj (Nat.blt_eq.mp hb)]
  rfl
theorem fmod_range {i j : Int} (h : 0 < j) : 0 ≤ i.fmod j ∧ i.fmod j < j := ⟨Int.fmod_nonneg_of_pos i h, Int.fmod_lt_of_pos i h⟩
theorem divOk_of {j : Int} (h : 0 < j) (hb : j.natAbs < 1073741824) : divOk j = true := by
  unfold divOk
  have h1 : (j == 0) = false := by simp; omega
  have h2 : Nat.blt j.natAbs 1073741824 = true := Nat.blt_eq.mpr hb
  rw [h1, h2]
  rfl
theorem x0 {e : Nat} {u v w : AV} : idxV (.ref 0) (.int 0) [.lst e [u, v, w]] = some u := by kernel_rfl
theorem x1 {e : Nat} {u v w : AV} : idxV (.ref 0) (.int 1) [.lst e [u, v, w]] = some v := by kernel_rfl
theorem x2 {e : Nat} {u v w : AV} : idxV (.ref 0) (.int 2) [.lst e [u, v, w]] = some w := by kernel_rfl
theorem g0 {e : Nat} {xs : List AV} : getL [.lst e xs] 0 = some (e, xs) := rfl
theorem s0 {e f : Nat} {xs ys : List AV} : setL 0 e ys [.lst f xs] = [.lst (e + 1) ys] := rfl
theorem i0 {u v w z : AV} : setIx [u, v, w] 0 z = some [z, v, w] := by kernel_rfl
theorem i2 {u v w z : AV} : setIx [u, v, w] 2 z = some [u, v, z] := by kernel_rfl
mutual
theorem refsV_pure : ∀ v : AV, pureV v = true → refsV v = []
  | .non, _ => rfl
  | .bl _, _ => rfl
  | .int _, _ => rfl
  | .str _, _ => rfl
  | .tup xs, h => refsL_pure xs h
  | .fl xs, h => refsL_pure xs h
  | .sc xs, h => refsL_pure xs h
  | .ref _, h => by cases h
  | .fn _, _ => rfl
  | .obj _ xs, h => refsL_pure xs h
  | .fd ks vs, h => by
    have h' := Bool.and_eq_true_iff.mp (show (pureL ks && pureL vs) = true from h)
    show refsL ks ++ refsL vs = []
    rw [refsL_pure ks h'.1, refsL_pure vs h'.2]
    rfl
theorem refsL_pure : ∀ v : List AV, pureL v = true → refsL v = []
  | [], _ => rfl
  | x :: xs, h => by
    have h' := Bool.and_eq_true_iff.mp (show (pureV x && pureL xs) = true from h)
    show refsV x ++ refsL xs = []
    rw [refsV_pure x h'.1, refsL_pure xs h'.2]
    rfl
end
mutual
theorem renV_pure (f : Nat → Option Nat) : ∀ v : AV, pureV v = true → renV f v = some v
  | .non, _ => rfl
  | .bl _, _ => rfl
  | .int _, _ => rfl
  | .str _, _ => rfl
  | .tup xs, h => by show (renL f xs).map AV.tup = _; rw [renL_pure f xs h]; rfl
  | .fl xs, h => by show (renL f xs).map AV.fl = _; rw [renL_pure f xs h]; rfl
  | .sc xs, h => by show (renL f xs).map AV.sc = _; rw [renL_pure f xs h]; rfl
  | .ref _, h => by cases h
  | .fn _, _ => rfl
  | .obj c xs, h => by show (renL f xs).map (AV.obj c) = _; rw [renL_pure f xs h]; rfl
  | .fd ks vs, h => by
    have h' := Bool.and_eq_true_iff.mp (show (pureL ks && pureL vs) = true from h)
    show (match renL f ks, renL f vs with | some a, some b => some (AV.fd a b) | _, _ => none) = _
    rw [renL_pure f ks h'.1, renL_pure f vs h'.2]
theorem renL_pure (f : Nat → Option Nat) : ∀ v : List AV, pureL v = true → renL f v = some v
  | [], _ => rfl
  | x :: xs, h => by
    have h' := Bool.and_eq_true_iff.mp (show (pureV x && pureL xs) = true from h)
    show (match renV f x, renL f xs with | some y, some ys => some (y :: ys) | _, _ => none) = _
    rw [renV_pure f x h'.1, renL_pure f xs h'.2]
end
/-- a call with plain things, that gives a plain thing -/
theorem callV_pure {fr : Bool} {F : FT} {k : Nat} {vs : List AV} {v : AV} {m : AH} (hp : pureL vs = true) (hc : F.call k vs [] = .ok v []) (hv : pureV v = true) : callV fr F k vs m = .ok v m := by
  unfold callV
  rw [refsL_pure vs hp]
  show (match subH m [], renL (fun r => posN r []) vs with | some m0, some ws => _ | _, _ => _) = _
  rw [renL_pure _ vs hp]
  show (match F.call k vs [] with | .ok v m1 => _ | .ex c ws m1 => _ | .no => _) = _
  rw [hc]
  show (if pureV v = true then Rs.ok v m else _) = _
  rw [if_pos hv]
theorem pureL_ints : ∀ l : List Int, pureL (l.map AV.int) = true
  | [] => rfl
  | _ :: l => pureL_ints l
/-- the roll of a pair of dice that are still great -/
theorem roll_hi (F : FT) (t a b c : Int) (e : Nat) (ha : 0 < a) (ht : 0 < t) (hb : t.natAbs < 1073741824) (k : A) (z1 z2 z3 : Option AV) :
    (den (.cons (.sIf (.cmp .gt (.idx (.var 0) (.int 0)) (.int 0)) (.cons (.sA 2 (.bin .mod (.idx (.var 0) (.int 0)) (.var 1))) (.cons (.sI (.var 0) (.int 0) (.bin .fdiv (.idx (.var 0) (.int 0)) (.var 1))) (.cons (.sR (.fz (.bi .int (.cons (.var 2) .nil)))) .nil))) .nil) k)).b F [some (.ref 0), some (.int t), z1, z2, z3] [.lst e [.int a, .int b, .int c]] = .rt (.int (a.fmod t)) [.lst (e+1) [.int (a.fdiv t), .int b, .int c]] := by
  have hd := divOk_of ht hb
  have h0 : t ≠ 0 := by omega
  simp [x0, p_gt, ha, p_mod h0, p_fdiv hd, g0, s0, i0, setS, truV, p_int]
/-- .. that are used up -/
theorem roll_lo (F : FT) (t a b c : Int) (e n : Nat) (ha : ¬ 0 < a) (ht : 0 < t) (h1 : 0 ≤ c) (h2 : c ≤ n) (hn : n < 1000000) (q : Int) (hq : q = 179 ∨ q = 193) (z1 z2 z3 : Option AV) (u v w : A) :
    ∃ r : Int, 0 ≤ r ∧ r < t ∧ (den (.cons (.sIf (.cmp .gt (.idx (.var 0) (.int 0)) (.int 0)) u .nil) (.cons (.sI (.var 0) (.int 2) (.fz (.bin .add (.idx (.var 0) (.int 2)) (.int 1)))) (.cons (.sA 3 (.bin .mod (.bin .add (.idx (.var 0) (.int 1)) (.bin .mul (.int 86028157) (.idx (.var 0) (.int 2)))) (.int 2305843009213693951))) (.cons (.sA 4 (.fz (.bin .add (.bin .mul (.bin .mod (.bin .add (.bin .mul (.var 3) (.var 3)) (.bin .mul (.int q) (.idx (.var 0) (.int 2)))) (.int 2305843009213693907)) (.int 15485867)) (.var 3)))) (.cons (.sR (.bin .mod (.bi .int (.cons (.bin .fdiv (.var 4) (.int 65579)) .nil)) (.var 1))) .nil)))))).b F [some (.ref 0), some (.int t), z1, z2, z3] [.lst e [.int a, .int b, .int c]] = .rt (.int r) [.lst (e+1) [.int a, .int b, .int (c + 1)]] := by
  have h0 : t ≠ 0 := by omega
  have hc : (c + 1).natAbs ≤ 1000001 := by omega
  have m1 : mulOk 86028157 (c + 1) = true := mulOk_of (a := 86028157) (b := 1000001) (by decide) hc (by decide +kernel) (by decide +kernel)
  obtain ⟨o, ho⟩ : ∃ o, o = (b + 86028157 * (c + 1)).fmod 2305843009213693951 := ⟨_, rfl⟩
  have ro := fmod_range (i := b + 86028157 * (c + 1)) (j := 2305843009213693951) (by decide)
  rw [← ho] at ro
  have m2 : mulOk o o = true := mulOk_of (a := 2305843009213693951) (b := 2305843009213693951) (by omega) (by omega) (by decide +kernel) (by decide +kernel)
  have m3 : mulOk q (c + 1) = true := mulOk_of (a := 193) (b := 1000001) (by rcases hq with rfl | rfl <;> decide) hc (by decide +kernel) (by decide +kernel)
  obtain ⟨p, hp⟩ : ∃ p, p = (o * o + q * (c + 1)).fmod 2305843009213693907 := ⟨_, rfl⟩
  have rp := fmod_range (i := o * o + q * (c + 1)) (j := 2305843009213693907) (by decide)
  rw [← hp] at rp
  have m4 : mulOk p 15485867 = true := mulOk_of (a := 2305843009213693951) (b := 15485867) (by omega) (by decide) (by decide +kernel) (by decide +kernel)
  have hd : divOk 65579 = true := by decide +kernel
  refine ⟨((p * 15485867 + o).fdiv 65579).fmod t, (fmod_range ht).1, (fmod_range ht).2, ?_⟩
  have nz1 : (2305843009213693951 : Int) ≠ 0 := by decide
  have nz2 : (2305843009213693907 : Int) ≠ 0 := by decide
  simp [x0, x1, x2, p_gt, ha, p_mod h0, p_mod nz1, p_mod nz2, p_fdiv hd, g0, s0, i2, setS, truV, p_int, p_add, p_mul m1, p_mul m2, p_mul m3, p_mul m4, ← ho, ← hp]
end Mi
set_option Elab.async false
set_option linter.all false
set_option maxRecDepth 100000
set_option maxHeartbeats 4000000
/-! Mini: calls that are known; dice -/
namespace Mi
mutual
/-- the same value, by its look -/
def same : AV → AV → Bool
  | .non, .non => true
  | .bl a, .bl b => a == b
  | .int a, .int b => a == b
  | .str a, .str b => a == b
  | .tup a, .tup b => sameL a b
  | .fl a, .fl b => sameL a b
  | .fn a, .fn b => Nat.beq a b
  | .obj c a, .obj d b => Nat.beq c d && sameL a b
  | _, _ => false
def sameL : List AV → List AV → Bool
  | [], [] => true
  | x :: xs, y :: ys => same x y && sameL xs ys
  | _, _ => false
end
mutual
theorem same_eq : ∀ a b : AV, same a b = true → a = b
  | .non, b, h => by cases b <;> first | rfl | (cases h)
  | .bl a, b, h => by cases b <;> first | (cases h; done) | (have := eq_of_beq (show (_ == _) = true from h); rw [this])
  | .int a, b, h => by cases b <;> first | (cases h; done) | (have := eq_of_beq (show (_ == _) = true from h); rw [this])
  | .str a, b, h => by cases b <;> first | (cases h; done) | (have := eq_of_beq (show (_ == _) = true from h); rw [this])
  | .tup a, b, h => by cases b <;> first | (cases h; done) | (rw [sameL_eq a _ h])
  | .fl a, b, h => by cases b <;> first | (cases h; done) | (rw [sameL_eq a _ h])
  | .fn a, b, h => by cases b <;> first | (cases h; done) | (rw [Nat.eq_of_beq_eq_true (show Nat.beq _ _ = true from h)])
  | .sc a, b, h => by cases b <;> cases h
  | .ref a, b, h => by cases b <;> cases h
  | .obj c a, b, h => by cases b <;> first | (cases h; done) | (obtain ⟨h1, h2⟩ := Bool.and_eq_true_iff.mp (show (Nat.beq _ _ && sameL _ _) = true from h); rw [Nat.eq_of_beq_eq_true h1, sameL_eq a _ h2])
  | .fd a c, b, h => by cases b <;> cases h
theorem sameL_eq : ∀ a b : List AV, sameL a b = true → a = b
  | [], b, h => by cases b <;> first | rfl | (cases h)
  | x :: xs, b, h => by
    cases b with
    | nil => cases h
    | cons y ys =>
      have h' := Bool.and_eq_true_iff.mp (show (same x y && sameL xs ys) = true from h)
      rw [same_eq x y h'.1, sameL_eq xs ys h'.2]
end
/-- what is known of some calls: the first known answer, if any -/
def pat (f : Nat → List AV → AH → Rs AV) (q : Nat → List AV → Option (Rs AV)) : Nat → List AV → AH → Rs AV := fun k vs m => match m with
  | [] => (match q k vs with | some r => r | none => f k vs [])
  | m => f k vs m
theorem pat_eq {f : Nat → List AV → AH → Rs AV} {q : Nat → List AV → Option (Rs AV)} (h : ∀ k vs r, q k vs = some r → f k vs [] = r) : f = pat f q := by
  funext k vs m
  cases m with
  | nil =>
    show _ = (match q k vs with | some r => r | none => f k vs [])
    cases e : q k vs with
    | none => rfl
    | some r => exact h k vs r e
  | cons _ _ => rfl
/-- one known call -/
def one1q (k0 : Nat) (vs0 : List AV) (r0 : Rs AV) : Nat → List AV → Option (Rs AV) := fun k vs => if Nat.beq k k0 && sameL vs vs0 then some r0 else none
theorem one1q_ok {f : Nat → List AV → AH → Rs AV} {k0 : Nat} {vs0 : List AV} {r0 : Rs AV} (h : f k0 vs0 [] = r0) : ∀ k vs r, one1q k0 vs0 r0 k vs = some r → f k vs [] = r := by
  intro k vs r e
  unfold one1q at e
  by_cases c : (Nat.beq k k0 && sameL vs vs0) = true
  · rw [if_pos c] at e
    cases e
    obtain ⟨c1, c2⟩ := Bool.and_eq_true_iff.mp c
    rw [Nat.eq_of_beq_eq_true c1, sameL_eq _ _ c2]
    exact h
  · rw [if_neg c] at e; cases e
def orq (p q : Nat → List AV → Option (Rs AV)) : Nat → List AV → Option (Rs AV) := fun k vs => match p k vs with | some r => some r | none => q k vs
theorem orq_ok {f : Nat → List AV → AH → Rs AV} {p q : Nat → List AV → Option (Rs AV)} (hp : ∀ k vs r, p k vs = some r → f k vs [] = r) (hq : ∀ k vs r, q k vs = some r → f k vs [] = r) : ∀ k vs r, orq p q k vs = some r → f k vs [] = r := by
  intro k vs r e
  unfold orq at e
  cases h : p k vs with
  | none => rw [h] at e; exact hq k vs r e
  | some z => rw [h] at e; cases e; exact hp k vs _ h
/-- a table of known calls of one def -/
def tabq (k0 : Nat) (t : List (List AV × Rs AV)) : Nat → List AV → Option (Rs AV) := fun k vs => if Nat.beq k k0 then (t.find? fun p => sameL vs p.1).map Prod.snd else none
theorem tabq_ok {f : Nat → List AV → AH → Rs AV} {k0 : Nat} {t : List (List AV × Rs AV)} (h : ∀ p ∈ t, f k0 p.1 [] = p.2) : ∀ k vs r, tabq k0 t k vs = some r → f k vs [] = r := by
  intro k vs r e
  unfold tabq at e
  by_cases c : Nat.beq k k0 = true
  · rw [if_pos c] at e
    obtain ⟨p, h1, h2⟩ := Option.map_eq_some_iff.mp e
    have h3 := List.find?_some h1
    rw [Nat.eq_of_beq_eq_true c, sameL_eq _ _ h3, ← h2]
    exact h p (List.mem_of_find?_eq_some h1)
  · rw [if_neg c] at e; cases e
/-- map, by another name -/
def mapB {α β : Type} (g : α → β) : List α → List β
  | [] => []
  | x :: xs => g x :: mapB g xs
theorem mapB_eq {α β : Type} (g : α → β) : ∀ l : List α, mapB g l = l.map g
  | [] => rfl
  | x :: xs => by rw [mapB, mapB_eq g xs, List.map_cons]
/-- row by row -/
theorem allR {β : Type} {n : Nat} {f g : Nat → β} (h : (List.range n).map f = mapB g (List.range n)) : ∀ i, i < n → f i = g i := fun i hi => (List.map_inj_left.mp (h.trans (mapB_eq g _))) i (List.mem_range.mpr hi)

theorem sem_at {Ds : List Df} {wf n k : Nat} {vs : List AV} {m : AH} {d : Df} {b : A} {s : ASt} {tp : Bool} (h : Ds[k]? = some d) (hi : d.ini = none) (htp : d.top = false) (hl : vs.length = d.np) (hb : d.body = b) (hs : vs.map some ++ List.replicate (d.N.length - vs.length) none = s) : sem Ds wf (n + 5) tp k vs m = ((den b).b (ftN (sem Ds wf) wf n) s m).fin := by
  rw [sem_succ Ds wf n k tp vs m d h hi htp hl, hb, hs]
/-! ### dice -/
def Dc (e : Nat) (a b c : Int) : AO := .lst e [.int a, .int b, .int c]
def IsD (n : Nat) (o : AO) : Prop := ∃ e a b c, o = Dc e a b c ∧ 0 ≤ c ∧ c ≤ n
theorem callV_dice {fr : Bool} {F : FT} {k : Nat} {o o' : AO} {vs : List AV} {v : AV} (hp : pureO o = true) (hp' : pureO o' = true) (hv : pureL vs = true) (hw : pureV v = true) (h : F.call k (.ref 0 :: vs) [o] = .ok v [o']) : callV fr F k (.ref 0 :: vs) [o] = .ok v [o'] := by
  unfold callV
  have e1 : refsL (.ref 0 :: vs) = [0] := by show [0] ++ refsL vs = _; rw [refsL_pure vs hv]; rfl
  have e2 : renL (fun r => posN r [0]) (.ref 0 :: vs) = some (.ref 0 :: vs) := by
    show (match renV _ (.ref 0), renL _ vs with | some y, some ys => some (y :: ys) | _, _ => none) = _
    rw [renL_pure _ vs hv]
    rfl
  have e3 : subH [o] [0] = some [o] := by
    show optM (fun r => match ([o] : AH)[r]? with | some o => if pureO o = true then some o else none | none => none) [0] = _
    simp [optM, hp]
  have e4 : putH [o] [0] [o'] = some [o'] := by
    show (if pureO o' = true then putH ([o].set 0 o') [] [] else none) = _
    rw [if_pos hp']
    rfl
  rw [e1, show uniq [0] = [0] from rfl]
  dsimp only
  rw [e3, e2]
  simp only [h, e4, hw, if_true]
theorem dc_pure (e : Nat) (a b c : Int) : pureO (Dc e a b c) = true := rfl
theorem IsD.pure {n : Nat} {o : AO} (h : IsD n o) : pureO o = true := by
  obtain ⟨e, a, b, c, rfl, _⟩ := h
  rfl
theorem bcons_nx {a b : A} {F : FT} {s s1 : ASt} {m m1 : AH} (h : (den a).s F s m = .nx s1 m1) : (den (.cons a b)).b F s m = (den b).b F s1 m1 := by
  rw [q_bcons, u_bcons, h]
  rfl
/-- the text of _law_roll (q: the number in it) -/
def rollB (q : Int) : A := (.cons (.sIf (.cmp .gt (.idx (.var 0) (.int 0)) (.int 0)) (.cons (.sA 2 (.bin .mod (.idx (.var 0) (.int 0)) (.var 1))) (.cons (.sI (.var 0) (.int 0) (.bin .fdiv (.idx (.var 0) (.int 0)) (.var 1))) (.cons (.sR (.fz (.bi .int (.cons (.var 2) .nil)))) .nil))) .nil) (.cons (.sI (.var 0) (.int 2) (.fz (.bin .add (.idx (.var 0) (.int 2)) (.int 1)))) (.cons (.sA 3 (.bin .mod (.bin .add (.idx (.var 0) (.int 1)) (.bin .mul (.int 86028157) (.idx (.var 0) (.int 2)))) (.int 2305843009213693951))) (.cons (.sA 4 (.fz (.bin .add (.bin .mul (.bin .mod (.bin .add (.bin .mul (.var 3) (.var 3)) (.bin .mul (.int q) (.idx (.var 0) (.int 2)))) (.int 2305843009213693907)) (.int 15485867)) (.var 3)))) (.cons (.sR (.bin .mod (.bi .int (.cons (.bin .fdiv (.var 4) (.int 65579)) .nil)) (.var 1))) .nil)))))
theorem roll_ok {Ds : List Df} {wf n k : Nat} {q : Int} {d : Df} {tp : Bool} (hk : Ds[k]? = some d) (hi : d.ini = none) (htp : d.top = false) (hb : d.body = rollB q) (hN : d.N.length = 5) (hp : d.np = 2) (hq : q = 179 ∨ q = 193) {t : Nat} (ht : 0 < t) (ht2 : t < 1073741824) {N : Nat} {o : AO} (ho : IsD N o) (hn : N < 1000000) :
    ∃ i o', i < t ∧ IsD (N + 1) o' ∧ sem Ds wf (n + 5) tp k [.ref 0, .int (t : Int)] [o] = .ok (.int (i : Int)) [o'] := by
  obtain ⟨e, a, b, c, rfl, c1, c2⟩ := ho
  have ht' : (0 : Int) < (t : Int) := by omega
  have key : ∀ r : Int, 0 ≤ r → r < (t : Int) → ∃ i : Nat, i < t ∧ r = (i : Int) := fun r h1 h2 => ⟨r.toNat, by omega, by omega⟩
  have hsem : sem Ds wf (n + 5) tp k [.ref 0, .int (t : Int)] [Dc e a b c] = ((den (rollB q)).b (ftN (sem Ds wf) wf n) [some (.ref 0), some (.int (t : Int)), none, none, none] [.lst e [.int a, .int b, .int c]]).fin := by
    rw [sem_succ Ds wf n k tp _ _ d hk hi htp (by rw [hp]; rfl), hb, hN]
    rfl
  by_cases ha : 0 < a
  · obtain ⟨i, h1, h2⟩ := key _ (fmod_range ht').1 (fmod_range (i := a) ht').2
    refine ⟨i, Dc (e + 1) (a.fdiv t) b c, h1, ⟨_, _, _, _, rfl, c1, by omega⟩, ?_⟩
    have r := roll_hi (ftN (sem Ds wf) wf n) (t : Int) a b c e ha ht' (by omega) (.cons (.sI (.var 0) (.int 2) (.fz (.bin .add (.idx (.var 0) (.int 2)) (.int 1)))) (.cons (.sA 3 (.bin .mod (.bin .add (.idx (.var 0) (.int 1)) (.bin .mul (.int 86028157) (.idx (.var 0) (.int 2)))) (.int 2305843009213693951))) (.cons (.sA 4 (.fz (.bin .add (.bin .mul (.bin .mod (.bin .add (.bin .mul (.var 3) (.var 3)) (.bin .mul (.int q) (.idx (.var 0) (.int 2)))) (.int 2305843009213693907)) (.int 15485867)) (.var 3)))) (.cons (.sR (.bin .mod (.bi .int (.cons (.bin .fdiv (.var 4) (.int 65579)) .nil)) (.var 1))) .nil)))) none none none
    rw [hsem]
    unfold rollB
    rw [r, h2]
    rfl
  · obtain ⟨r, h1, h2, h3⟩ := roll_lo (ftN (sem Ds wf) wf n) (t : Int) a b c e N ha ht' c1 c2 hn q hq none none none (.cons (.sA 2 (.bin .mod (.idx (.var 0) (.int 0)) (.var 1))) (.cons (.sI (.var 0) (.int 0) (.bin .fdiv (.idx (.var 0) (.int 0)) (.var 1))) (.cons (.sR (.fz (.bi .int (.cons (.var 2) .nil)))) .nil))) .nil .nil
    obtain ⟨i, h4, h5⟩ := key r h1 h2
    refine ⟨i, Dc (e + 1) a b (c + 1), h4, ⟨_, _, _, _, rfl, by omega, by omega⟩, ?_⟩
    rw [hsem]
    unfold rollB
    rw [h3, h5]
    rfl
/-- the text of _law_dice -/
def diceB (k1 k2 k3 k4 k5 k6 : Int) : A := (.cons (.sA 2 (.fz (.ite (.cmp .lt (.var 1) (.bi .len (.cons (.var 0) .nil))) (.bi .int (.cons (.idx (.var 0) (.var 1)) .nil)) (.bin .add (.bin .mul (.int k1) (.var 1)) (.int k2))))) (.cons (.sA 3 (.bin .mod (.bi .int (.cons (.fz (.bi .abs (.cons (.var 2) .nil))) .nil)) (.bin .pow (.bin .pow (.int 10) (.int 54)) (.int 6)))) (.cons (.sA 4 (.fz (.bin .add (.bin .add (.bin .add (.bin .mul (.bin .mod (.var 3) (.int 2305843009213693921)) (.int k3)) (.bin .mul (.int k4) (.var 1))) (.bin .mul (.int k5) (.bi .int (.cons (.cmp .lt (.var 2) (.int 0)) .nil)))) (.int k6)))) (.cons (.sR (.lst (.cons (.fz (.bi .max2 (.cons (.int 0) (.cons (.bin .sub (.var 3) (.bin .pow (.int 10) (.int 16))) .nil)))) (.cons (.var 4) (.cons (.int 0) .nil))))) .nil))))
theorem p_max {fr : Bool} {i j : Int} {m : AH} : biV fr .max2 [.int i, .int j] m = some (.int (if j > i then j else i), m) := rfl
theorem p_pow54 {fr : Bool} {m : AH} : binV fr .pow (.int 10) (.int 54) m = some (.int 1000000000000000000000000000000000000000000000000000000, m) := by kernel_rfl
theorem p_pow6 {fr : Bool} {m : AH} : binV fr .pow (.int 1000000000000000000000000000000000000000000000000000000) (.int 6) m = some (.int (1000000000000000000000000000000000000000000000000000000 ^ 6), m) := by kernel_rfl
theorem p_pow16 {fr : Bool} {m : AH} : binV fr .pow (.int 10) (.int 16) m = some (.int 10000000000000000, m) := by kernel_rfl
theorem p_len {fr : Bool} {xs : List AV} {m : AH} : biV fr .len [.sc xs] m = some (.int (xs.length : Nat), m) := rfl
theorem ix_sc {ns : List Int} {i : Nat} {x : Int} {m : AH} (h : ns[i]? = some x) : idxV (.sc (ns.map AV.int)) (.int (i : Int)) m = some (.int x) := by
  show ixA (ns.map AV.int) (i : Int) = _
  exact L2.atI_nat (by rw [List.getElem?_map, h]; rfl)
theorem nat_of_lt (n : Nat) : okN 3 = true := by decide +kernel
theorem dice_ok {Ds : List Df} {wf n k : Nat} {k1 k2 k3 k4 k5 k6 : Int} {d : Df} {tp : Bool} (hk : Ds[k]? = some d) (hi : d.ini = none) (htp : d.top = false) (hb : d.body = diceB k1 k2 k3 k4 k5 k6) (hN : d.N.length = 5) (hp : d.np = 2) (b1 : k1.natAbs ≤ 1000) (b3 : k3.natAbs ≤ 1000) (b4 : k4.natAbs ≤ 1000) (b5 : k5.natAbs ≤ 1000) (ns : List Int) (spot : Nat) (hs : spot < 100) :
    ∃ a b, sem Ds wf (n + 5) tp k [.sc (ns.map AV.int), .int (spot : Int)] [] = .ok (.ref 0) [Dc 0 a b 0] := by
  obtain ⟨F, hF⟩ : ∃ F : FT, F = (ftN (sem Ds wf) wf n) := ⟨_, rfl⟩
  have hsem : sem Ds wf (n + 5) tp k [.sc (ns.map AV.int), .int (spot : Int)] [] = ((den (diceB k1 k2 k3 k4 k5 k6)).b F [some (.sc (ns.map AV.int)), some (.int (spot : Int)), none, none, none] []).fin := by
    rw [sem_succ Ds wf n k tp _ _ d hk hi htp (by rw [hp]; rfl), hb, hN, hF]
    rfl
  obtain ⟨cell, hcell⟩ : ∃ cell : Int, (den (.sA 2 (.fz (.ite (.cmp .lt (.var 1) (.bi .len (.cons (.var 0) .nil))) (.bi .int (.cons (.idx (.var 0) (.var 1)) .nil)) (.bin .add (.bin .mul (.int k1) (.var 1)) (.int k2)))))).s F [some (.sc (ns.map AV.int)), some (.int (spot : Int)), none, none, none] [] = .nx [some (.sc (ns.map AV.int)), some (.int (spot : Int)), some (.int cell), none, none] [] := by
    by_cases c : spot < ns.length
    · have hx : ns[spot]? = some ns[spot] := List.getElem?_eq_getElem c
      refine ⟨ns[spot], ?_⟩
      have c' : (spot : Int) < (ns.length : Int) := by omega
      simp [p_len, p_lt, c', truV, ix_sc hx, p_int, setS]
    · refine ⟨k1 * (spot : Int) + k2, ?_⟩
      have c' : ¬ (spot : Int) < (ns.length : Int) := by omega
      have m1 : mulOk k1 (spot : Int) = true := mulOk_of (a := 1000) (b := 1000) b1 (by omega) (by decide +kernel) (by decide +kernel)
      simp [p_len, p_lt, c', truV, p_mul m1, p_add, setS]
  rw [hsem]
  unfold diceB
  rw [bcons_nx hcell]
  obtain ⟨G, hG⟩ : ∃ G, G = (1000000000000000000000000000000000000000000000000000000 : Int) ^ 6 := ⟨_, rfl⟩
  have nz1 : G ≠ 0 := by rw [hG]; decide +kernel
  have p6 : ∀ fr m, binV fr .pow (.int 1000000000000000000000000000000000000000000000000000000) (.int 6) m = some (.int G, m) := fun fr m => by rw [hG]; exact p_pow6
  have nz2 : (2305843009213693921 : Int) ≠ 0 := by decide
  obtain ⟨g, hg⟩ : ∃ g, g = (if cell < 0 then -cell else cell).fmod G := ⟨_, rfl⟩
  obtain ⟨u, hu⟩ : ∃ u, u = g.fmod 2305843009213693921 := ⟨_, rfl⟩
  have ru := fmod_range (i := g) (j := 2305843009213693921) (by decide)
  rw [← hu] at ru
  have m3 : mulOk u k3 = true := mulOk_of (a := 2305843009213693921) (b := 1000) (by omega) b3 (by decide +kernel) (by decide +kernel)
  have m4 : mulOk k4 (spot : Int) = true := mulOk_of (a := 1000) (b := 1000) b4 (by omega) (by decide +kernel) (by decide +kernel)
  have m5 : mulOk k5 (b2i (decide (cell < 0))) = true := mulOk_of (a := 1000) (b := 1000) b5 (by unfold b2i; split <;> decide) (by decide +kernel) (by decide +kernel)
  have ok3 : okN 3 = true := by decide +kernel
  obtain ⟨A, hA⟩ : ∃ A, biV true .max2 [.int 0, .int (g - 10000000000000000)] [] = some (.int A, []) := ⟨_, rfl⟩
  refine ⟨A, u * k3 + k4 * (spot : Int) + k5 * b2i (decide (cell < 0)) + k6, ?_⟩
  simp [p_abs, p_int, p_pow54, p6, p_mod nz1, p_mod nz2, ← hg, ← hu, p_mul m3, p_mul m4, p_mul m5, p_add, p_sub, p_pow16, hA, p_lt, p_intb, setS, newL, ok3]
  rfl
end Mi
set_option Elab.async false
set_option linter.all false
set_option maxRecDepth 100000
set_option maxHeartbeats 4000000
/-! Mini: what the errors laws have in common: _law_pick, _law_one -/
namespace Mi
/-- _law_roll, as it is called -/
def RollF (F : FT) (kr : Nat) : Prop := ∀ (t n : Nat) (o : AO), 0 < t → t < 1073741824 → IsD n o → n < 900000 → ∃ i o', i < t ∧ IsD (n + 1) o' ∧ F.call kr [.ref 0, .int (t : Int)] [o] = .ok (.int (i : Int)) [o']
def pickB (kr : Nat) : A := .cons (.sR (.idx (.var 1) (.call kr (.cons (.var 0) (.cons (.fz (.bi .len (.cons (.var 1) .nil))) .nil))))) .nil
def oneB (kr kp : Nat) : A := .cons (.sIf (.cmp .gt (.call kr (.cons (.var 0) (.cons (.int 3) .nil))) (.int 0)) (.cons (.sR (.tup (.cons (.var 1) (.cons (.bl false) .nil)))) .nil) .nil) (.cons (.sR (.tup (.cons (.fz (.call kp (.cons (.var 0) (.cons (.var 2) .nil)))) (.cons (.bl true) .nil)))) .nil)
theorem p_lenf {fr : Bool} {xs : List AV} {m : AH} : biV fr .len [.fl xs] m = some (.int (xs.length : Nat), m) := rfl
theorem ix_fl {xs : List AV} {i : Nat} {x : AV} {m : AH} (h : xs[i]? = some x) : idxV (.fl xs) (.int (i : Int)) m = some x := by
  show ixA xs (i : Int) = _
  exact L2.atI_nat h
theorem pureL_mem : ∀ {xs : List AV} {x : AV}, pureL xs = true → x ∈ xs → pureV x = true
  | y :: ys, x, h, hx => by
    have h' := Bool.and_eq_true_iff.mp (show (pureV y && pureL ys) = true from h)
    rcases List.mem_cons.mp hx with rfl | hx
    · exact h'.1
    · exact pureL_mem h'.2 hx
theorem pick_body {F : FT} {kr n : Nat} {xs : List AV} {o : AO} (hr : RollF F kr) (h0 : 0 < xs.length) (h1 : xs.length < 1000) (ho : IsD n o) (hn : n < 900000) : ∃ x o', x ∈ xs ∧ IsD (n + 1) o' ∧ (den (pickB kr)).b F [some (.ref 0), some (.fl xs)] [o] = .rt x [o'] := by
  obtain ⟨i, o', hi, ho', hc⟩ := hr xs.length n o h0 (by omega) ho hn
  have hx : xs[i]? = some xs[i] := List.getElem?_eq_getElem hi
  have cd := callV_dice (fr := true) (F := F) (k := kr) (vs := [.int (xs.length : Int)]) ho.pure ho'.pure rfl rfl hc
  refine ⟨xs[i], o', List.getElem_mem hi, ho', ?_⟩
  unfold pickB
  simp [p_lenf, cd, ix_fl hx]
theorem one_body {F : FT} {kr kp n : Nat} {v : AV} {xs : List AV} {o : AO} (hr : RollF F kr) (hp : ∀ n o, IsD n o → n < 800000 → ∃ x o', x ∈ xs ∧ IsD (n + 1) o' ∧ F.call kp [.ref 0, .fl xs] [o] = .ok x [o']) (hx : pureL xs = true) (ho : IsD n o) (hn : n < 700000) :
    ∃ w o', (w = .tup [v, .bl false] ∨ ∃ x ∈ xs, w = .tup [x, .bl true]) ∧ IsD (n + 2) o' ∧ (den (oneB kr kp)).b F [some (.ref 0), some v, some (.fl xs)] [o] = .rt w [o'] := by
  obtain ⟨i, o1, hi, h1, hc⟩ := hr 3 n o (by omega) (by omega) ho (by omega)
  have cd := callV_dice (fr := true) (F := F) (k := kr) (vs := [.int 3]) ho.pure h1.pure rfl rfl hc
  have ok2 : ∀ a b : AV, ∀ m : AH, mkT [a, b] m = some (.tup [a, b], m) := fun a b m => by
    show (if okN 2 = true then some (AV.tup [a, b], m) else none) = _
    rw [if_pos (by decide +kernel)]
  by_cases c : 0 < (i : Int)
  · refine ⟨.tup [v, .bl false], o1, .inl rfl, ?_, ?_⟩
    · obtain ⟨e, a, b, c, rfl, q1, q2⟩ := h1
      exact ⟨e, a, b, c, rfl, q1, by omega⟩
    · have c' : 0 < i := by omega
      unfold oneB
      simp [cd, p_gt, c', truV, ok2]
  · obtain ⟨x, o2, hx2, h2, hc2⟩ := hp (n + 1) o1 h1 (by omega)
    have cd2 := callV_dice (fr := true) (F := F) (k := kp) (vs := [.fl xs]) h1.pure h2.pure (by show (pureL xs && true) = true; rw [hx]; rfl) (pureL_mem hx hx2) hc2
    refine ⟨.tup [x, .bl true], o2, .inr ⟨x, hx2, rfl⟩, h2, ?_⟩
    have c' : i = 0 := by omega
    subst c'
    unfold oneB
    simp [cd, p_gt, truV, ok2, cd2]
def PickF (F : FT) (kp : Nat) : Prop := ∀ (xs : List AV) (n : Nat) (o : AO), pureL xs = true → 0 < xs.length → xs.length < 1000 → IsD n o → n < 800000 → ∃ x o', x ∈ xs ∧ IsD (n + 1) o' ∧ F.call kp [.ref 0, .fl xs] [o] = .ok x [o']
def OneF (F : FT) (k1 : Nat) : Prop := ∀ (v : AV) (xs : List AV) (n : Nat) (o : AO), pureV v = true → pureL xs = true → 0 < xs.length → xs.length < 1000 → IsD n o → n < 700000 →
  ∃ w o', (w = .tup [v, .bl false] ∨ ∃ x ∈ xs, w = .tup [x, .bl true]) ∧ IsD (n + 2) o' ∧ F.call k1 [.ref 0, v, .fl xs] [o] = .ok w [o']
section
variable {Ds : List Df} {wf n : Nat} {tp : Bool} {F : FT}
theorem rollF_of {kr : Nat} {q : Int} {d : Df} (hF : F.call = sem Ds wf (n + 5) tp) (hk : Ds[kr]? = some d) (hi : d.ini = none) (ht : d.top = false) (hb : d.body = rollB q) (hN : d.N.length = 5) (hp : d.np = 2) (hq : q = 179 ∨ q = 193) : RollF F kr := fun t N o h0 h1 ho hn => by
  rw [hF]
  exact roll_ok hk hi ht hb hN hp hq h0 h1 ho (by omega)
theorem pickF_of {kr kp : Nat} {d : Df} (hF : F.call = sem Ds wf (n + 5) tp) (hk : Ds[kp]? = some d) (hi : d.ini = none) (ht : d.top = false) (hb : d.body = pickB kr) (hN : d.N.length = 2) (hp : d.np = 2) (hr : RollF (ftN (sem Ds wf) wf n) kr) : PickF F kp := fun xs N o hx h0 h1 ho hn => by
  obtain ⟨x, o', hx2, ho', e⟩ := pick_body hr h0 h1 ho (by omega)
  refine ⟨x, o', hx2, ho', ?_⟩
  rw [hF, sem_at hk hi ht (by rw [hp]; rfl) hb (s := [some (.ref 0), some (.fl xs)]) (by rw [hN]; rfl), e]
  rfl
theorem oneF_of {kr kp k1 : Nat} {d : Df} (hF : F.call = sem Ds wf (n + 5) tp) (hk : Ds[k1]? = some d) (hi : d.ini = none) (ht : d.top = false) (hb : d.body = oneB kr kp) (hN : d.N.length = 3) (hp : d.np = 3) (hr : RollF (ftN (sem Ds wf) wf n) kr) (hpk : PickF (ftN (sem Ds wf) wf n) kp) : OneF F k1 := fun v xs N o hv hx h0 h1 ho hn => by
  obtain ⟨w, o', hw, ho', e⟩ := one_body (v := v) hr (fun n o h1' h2' => hpk xs n o hx h0 h1 h1' h2') hx ho hn
  refine ⟨w, o', hw, ho', ?_⟩
  rw [hF, sem_at hk hi ht (by rw [hp]; rfl) hb (s := [some (.ref 0), some v, some (.fl xs)]) (by rw [hN]; rfl), e]
  rfl
end
/-! ### x, y = _law_one(dice, R, W) -/
def drawS (k1 i j : Nat) (R W : A) : A := .sG (.gt (.cons (.gn i) (.cons (.gn j) .nil))) (.fz (.call k1 (.cons (.var 0) (.cons R (.cons W .nil)))))
theorem draw_ok {F : FT} {k1 i j n : Nat} {R W : A} {s : ASt} {o o1 : AO} {v : AV} {xs : List AV} (h1 : OneF F k1) (hs : s[0]? = some (some (.ref 0))) (hR : (den R).e false F s [o] = .ok v [o1]) (hW : (den W).e false F s [o1] = .ok (.fl xs) [o1]) (hv : pureV v = true) (hx : pureL xs = true) (h0 : 0 < xs.length) (hl : xs.length < 1000) (ho : IsD n o1) (hn : n < 700000) :
    ∃ w b o', ((w = v ∧ b = false) ∨ (w ∈ xs ∧ b = true)) ∧ IsD (n + 2) o' ∧ (den (drawS k1 i j R W)).s F s [o] = .nx (setS (setS s i w) j (.bl b)) [o'] := by
  obtain ⟨w, o', hw, ho', e⟩ := h1 v xs n o1 hv hx h0 hl ho hn
  have hp : pureV w = true := by
    rcases hw with rfl | ⟨x, hx2, rfl⟩
    · show (pureV v && (pureV (.bl false) && true)) = true
      rw [hv]; rfl
    · show (pureV x && (pureV (.bl true) && true)) = true
      rw [pureL_mem hx hx2]; rfl
  have cd := callV_dice (fr := true) (F := F) (k := k1) (vs := [v, .fl xs]) ho.pure ho'.pure (by show (pureV v && (pureL xs && true)) = true; rw [hv, hx]; rfl) hp e
  have g : ∀ x b, w = .tup [x, .bl b] → (den (drawS k1 i j R W)).s F s [o] = .nx (setS (setS s i x) j (.bl b)) [o'] := fun x b e2 => by
    subst e2
    unfold drawS
    simp [hs, hR, hW, cd]
    rfl
  rcases hw with rfl | ⟨x, hx2, rfl⟩
  · exact ⟨v, false, o', .inl ⟨rfl, rfl⟩, ho', g _ _ rfl⟩
  · exact ⟨x, true, o', .inr ⟨hx2, rfl⟩, ho', g _ _ rfl⟩
/-- _law_pick(dice, ys), as a right value -/
def pickE (kp : Nat) (Y : A) : A := .fz (.call kp (.cons (.var 0) (.cons Y .nil)))
theorem pickE_ok {F : FT} {kp n : Nat} {Y : A} {s : ASt} {o : AO} {ys : List AV} (hp : PickF F kp) (hs : s[0]? = some (some (.ref 0))) (hY : (den Y).e false F s [o] = .ok (.fl ys) [o]) (hx : pureL ys = true) (h0 : 0 < ys.length) (hl : ys.length < 1000) (ho : IsD n o) (hn : n < 800000) :
    ∃ x o', x ∈ ys ∧ IsD (n + 1) o' ∧ (den (pickE kp Y)).e false F s [o] = .ok x [o'] := by
  obtain ⟨x, o', hx2, ho', e⟩ := hp ys n o hx h0 hl ho hn
  have cd := callV_dice (fr := true) (F := F) (k := kp) (vs := [.fl ys]) ho.pure ho'.pure (by show (pureL ys && true) = true; rw [hx]; rfl) (pureL_mem hx hx2) e
  refine ⟨x, o', hx2, ho', ?_⟩
  unfold pickE
  simp [hs, hY, cd]
end Mi
set_option Elab.async false
set_option linter.all false
set_option maxRecDepth 100000
set_option maxHeartbeats 4000000
/-! Mini: what the errors laws have in common: draws as members of lists; the law's loops -/
namespace Mi
theorem allM {α β : Type} {l : List α} {f g : α → β} (h : l.map f = mapB g l) : ∀ x ∈ l, f x = g x := fun x hx => (List.map_inj_left.mp (h.trans (mapB_eq g l))) x hx
/-- all pairs -/
def pr {α β : Type} (l : List α) (r : List β) : List (α × β) := l.flatMap fun x => r.map fun y => (x, y)
theorem pr_mem {α β : Type} {l : List α} {r : List β} {x : α} {y : β} (hx : x ∈ l) (hy : y ∈ r) : (x, y) ∈ pr l r := List.mem_flatMap.mpr ⟨x, hx, List.mem_map.mpr ⟨y, hy, rfl⟩⟩
/-- right ones, wrong ones -/
def tbl (vs ws : List AV) : List (AV × Bool) := vs.map (fun v => (v, false)) ++ ws.map fun v => (v, true)
theorem tbl_l {vs ws : List AV} {v : AV} (h : v ∈ vs) : (v, false) ∈ tbl vs ws := List.mem_append_left _ (List.mem_map.mpr ⟨v, h, rfl⟩)
theorem tbl_r {vs ws : List AV} {v : AV} (h : v ∈ ws) : (v, true) ∈ tbl vs ws := List.mem_append_right _ (List.mem_map.mpr ⟨v, h, rfl⟩)
theorem IsD.mono {n n' : Nat} {o : AO} (h : IsD n o) (l : n ≤ n') : IsD n' o := by
  obtain ⟨e, a, b, c, rfl, h1, h2⟩ := h
  exact ⟨e, a, b, c, rfl, h1, by omega⟩
theorem drawA {F : FT} {k1 i j n : Nat} {R W : A} {s : ASt} {v : AV} {ws : List AV} {o : AO} (h1 : OneF F k1) (hs : s[0]? = some (some (.ref 0))) (hR : ∀ o : AO, (den R).e false F s [o] = .ok v [o]) (hW : ∀ o : AO, (den W).e false F s [o] = .ok (.fl ws) [o]) (hv : pureV v = true) (hx : pureL ws = true) (h0 : Nat.blt 0 ws.length = true) (hl : Nat.blt ws.length 1000 = true) (ho : IsD n o) (hn : n < 600000) :
    ∃ p ∈ tbl [v] ws, ∃ o', IsD (n + 3) o' ∧ (den (drawS k1 i j R W)).s F s [o] = .nx (setS (setS s i p.1) j (.bl p.2)) [o'] := by
  obtain ⟨w, b, o', h, h2, h3⟩ := draw_ok (i := i) (j := j) h1 hs (hR o) (hW o) hv hx (Nat.blt_eq.mp h0) (Nat.blt_eq.mp hl) ho (by omega)
  refine ⟨(w, b), ?_, o', h2.mono (by omega), h3⟩
  rcases h with ⟨rfl, rfl⟩ | ⟨h, rfl⟩
  · exact tbl_l List.mem_cons_self
  · exact tbl_r h
theorem drawP {F : FT} {k1 kp i j n : Nat} {Y W : A} {s : ASt} {vs ws : List AV} {o : AO} (h1 : OneF F k1) (hp : PickF F kp) (hs : s[0]? = some (some (.ref 0))) (hY : ∀ o : AO, (den Y).e false F s [o] = .ok (.fl vs) [o]) (hW : ∀ o : AO, (den W).e false F s [o] = .ok (.fl ws) [o]) (hv : pureL vs = true) (hv0 : Nat.blt 0 vs.length = true) (hv1 : Nat.blt vs.length 1000 = true) (hx : pureL ws = true) (h0 : Nat.blt 0 ws.length = true) (hl : Nat.blt ws.length 1000 = true) (ho : IsD n o) (hn : n < 600000) :
    ∃ p ∈ tbl vs ws, ∃ o', IsD (n + 3) o' ∧ (den (drawS k1 i j (pickE kp Y) W)).s F s [o] = .nx (setS (setS s i p.1) j (.bl p.2)) [o'] := by
  obtain ⟨x, o1, hx1, ho1, e1⟩ := pickE_ok hp hs (hY o) hv (Nat.blt_eq.mp hv0) (Nat.blt_eq.mp hv1) ho (by omega)
  obtain ⟨w, b, o', h, h2, h3⟩ := draw_ok (i := i) (j := j) h1 hs e1 (hW o1) (pureL_mem hv hx1) hx (Nat.blt_eq.mp h0) (Nat.blt_eq.mp hl) ho1 (by omega)
  refine ⟨(w, b), ?_, o', h2.mono (by omega), h3⟩
  rcases h with ⟨rfl, rfl⟩ | ⟨h, rfl⟩
  · exact tbl_l hx1
  · exact tbl_r h
/-- x = _law_pick(dice, Y) -/
theorem pickS {F : FT} {kp i n : Nat} {Y : A} {s : ASt} {vs : List AV} {o : AO} (hp : PickF F kp) (hs : s[0]? = some (some (.ref 0))) (hY : ∀ o : AO, (den Y).e false F s [o] = .ok (.fl vs) [o]) (hv : pureL vs = true) (hv0 : Nat.blt 0 vs.length = true) (hv1 : Nat.blt vs.length 1000 = true) (ho : IsD n o) (hn : n < 600000) :
    ∃ p ∈ vs, ∃ o', IsD (n + 3) o' ∧ (den (.sA i (pickE kp Y))).s F s [o] = .nx (setS s i p) [o'] := by
  obtain ⟨x, o1, hx1, ho1, e1⟩ := pickE_ok hp hs (hY o) hv (Nat.blt_eq.mp hv0) (Nat.blt_eq.mp hv1) ho (by omega)
  refine ⟨x, hx1, o1, ho1.mono (by omega), ?_⟩
  rw [q_sA, u_sA, e1]
  rfl
/-! ### the law's turns -/
theorem callV_ref {fr : Bool} {F : FT} {k r : Nat} {o o' : AO} {v : AV} {m mt : AH} (hm : m[r]? = some o) (hp : pureO o = true) (hp' : pureO o' = true) (hw : pureV v = true) (h : F.call k [.ref 0] [o] = .ok v (o' :: mt)) : callV fr F k [.ref r] m = .ok v (m.set r o') := by
  unfold callV
  have e2 : renL (fun q => posN q [r]) [.ref r] = some [.ref 0] := by
    show (match renV _ (.ref r), renL _ [] with | some y, some ys => some (y :: ys) | _, _ => none) = _
    have : renV (fun q => posN q [r]) (.ref r) = some (.ref 0) := by
      show (posN r [r]).map AV.ref = _
      show (if Nat.beq r r then some 0 else (posN r []).map (· + 1)).map AV.ref = _
      rw [Nat.beq_refl]
      rfl
    rw [this]
    rfl
  have e3 : subH m [r] = some [o] := by
    show optM (fun r => match m[r]? with | some o => if pureO o = true then some o else none | none => none) [r] = _
    simp [optM, hm, hp]
  have e4 : putH m [r] (o' :: mt) = some (m.set r o') := by
    show (if pureO o' = true then putH (m.set r o') [] mt else none) = _
    rw [if_pos hp']
    cases mt <;> rfl
  rw [show refsL [.ref r] = [r] from rfl, show uniq [r] = [r] from rfl]
  dsimp only
  rw [e3, e2]
  simp only [h, e4, hw, if_true]
theorem callV_new {F : FT} {k : Nat} {o : AO} {vs : List AV} {m : AH} (hv : pureL vs = true) (hp : pureO o = true) (h : F.call k vs [] = .ok (.ref 0) [o]) : callV false F k vs m = .ok (.ref m.length) (m ++ [o]) := by
  unfold callV
  rw [refsL_pure vs hv, show uniq [] = [] from rfl]
  dsimp only
  rw [show subH m [] = some [] from rfl, renL_pure _ vs hv]
  simp only [h]
  have e3 : subH [o] [0] = some [o] := by
    show optM (fun r => match ([o] : AH)[r]? with | some o => if pureO o = true then some o else none | none => none) [0] = _
    simp [optM, hp]
  have e5 : newH [o] m [0] = some (m ++ [o]) := by
    show (match subH [o] [0] with | some os => some (m ++ os) | none => none) = _
    rw [e3]
  rw [show putH m [] [o] = some m from rfl]
  dsimp only
  rw [if_neg (show ¬ pureV (.ref 0) = true from Bool.false_ne_true), if_neg Bool.false_ne_true, show uniq (List.filter (fun j => Nat.ble ([] : List Nat).length j) (refsV (.ref 0))) = [0] from rfl, e5, show renV (fun j => if Nat.blt j ([] : List Nat).length = true then ([] : List Nat)[j]? else Option.map (fun x => x + m.length) (posN j [0])) (.ref 0) = some (.ref (0 + m.length)) from rfl, Nat.zero_add]
/-- a def of the law's that says True, whatever the dice -/
def RightF (F : FT) (k K : Nat) : Prop := ∀ (n : Nat) (o : AO), IsD n o → n < 500000 → ∃ o' mt, IsD (n + K) o' ∧ F.call k [.ref 0] [o] = .ok (.bl true) (o' :: mt)
def TurnOk (F : FT) (st : A) (K : Nat) : Prop := ∀ (sc z1 z3 : Option AV) (zs : ASt) (m : AH) (r : Nat) (o : AO) (n : Nat), m[r]? = some o → IsD n o → n < 400000 →
  ∃ o', IsD (n + K) o' ∧ (den st).s F (sc :: z1 :: some (.ref r) :: z3 :: zs) m = .nx (sc :: z1 :: some (.ref r) :: z3 :: zs) (m.set r o')
def turn1 (k : Nat) : A := .sIf (.not (.call k (.cons (.var 2) .nil))) (.cons (.sR (.bl false)) .nil) .nil
def turn2 (k k' : Nat) : A := .sIf (.or (.not (.call k (.cons (.var 2) .nil))) (.one (.not (.call k' (.cons (.var 2) .nil))))) (.cons (.sR (.bl false)) .nil) .nil
theorem turn1_ok {F : FT} {k K : Nat} (h : RightF F k K) : TurnOk F (turn1 k) K := fun sc z1 z3 zs m r o n hm ho hn => by
  obtain ⟨o', mt, h1, h2⟩ := h n o ho (by omega)
  refine ⟨o', h1, ?_⟩
  have c := callV_ref (fr := true) hm ho.pure h1.pure rfl h2
  unfold turn1
  simp only [q_sIf, u_sIf, q_not, u_not, q_call, u_call, q_acons, u_acons, q_var, u_var, q_anil, r_bok, List.getElem?_cons_zero, List.getElem?_cons_succ, c, Bool.not_true, r_toRS, truV, q_bnil]
theorem turn2_ok {F : FT} {k k' K K' : Nat} (h : RightF F k K) (h' : RightF F k' K') (hK : K < 1000) : TurnOk F (turn2 k k') (K + K') := fun sc z1 z3 zs m r o n hm ho hn => by
  obtain ⟨o1, mt, h1, h2⟩ := h n o ho (by omega)
  obtain ⟨o2, mt2, h3, h4⟩ := h' (n + K) o1 h1 (by omega)
  have lt : r < m.length := by
    rcases Nat.lt_or_ge r m.length with l | l
    · exact l
    · rw [List.getElem?_eq_none l] at hm; cases hm
  refine ⟨o2, h3.mono (by omega), ?_⟩
  have c := callV_ref (fr := true) hm ho.pure h1.pure rfl h2
  have c2 := callV_ref (fr := true) (m := m.set r o1) (r := r) (by rw [List.getElem?_set_self lt]) h1.pure h3.pure rfl h4
  rw [List.set_set] at c2
  unfold turn2
  simp only [q_sIf, u_sIf, q_or, u_or, q_not, u_not, q_call, u_call, q_acons, u_acons, q_var, u_var, q_anil, r_bok, q_one, List.getElem?_cons_zero, List.getElem?_cons_succ, c, c2, Bool.not_true, r_toRS, truV, q_bnil]
theorem set_same {m : AH} {r : Nat} {o : AO} (h : m[r]? = some o) : m.set r o = m := by
  apply List.ext_getElem?
  intro i
  by_cases c : i = r
  · subst c
    have lt : i < m.length := by
      rcases Nat.lt_or_ge i m.length with l | l
      · exact l
      · rw [List.getElem?_eq_none l] at h; cases h
    rw [List.getElem?_set_self lt, h]
  · rw [List.getElem?_set_ne (Ne.symm c)]
theorem turns_ok {F : FT} {st : A} {K : Nat} (ht : TurnOk F st K) (sc z1 : Option AV) (zs : ASt) (r : Nat) : ∀ (k lo f i : Nat) (z3 : Option AV) (m : AH) (o : AO) (n : Nat), k < f → m[r]? = some o → IsD n o → n + k * K < 400000 →
    ∃ y3 o', IsD (n + k * K) o' ∧ forGo F (den (.gn 3)).g (den (.cons st .nil)).b none f i [] (rngI (lo : Int) 1 k) (sc :: z1 :: some (.ref r) :: z3 :: zs) m = .nx (sc :: z1 :: some (.ref r) :: y3 :: zs) (m.set r o')
  | k, lo, 0, i, z3, m, o, n, h, _, _, _ => by omega
  | 0, lo, f + 1, i, z3, m, o, n, h, hm, ho, hn => ⟨z3, o, ho.mono (by omega), by rw [set_same hm]; rfl⟩
  | k + 1, lo, f + 1, i, z3, m, o, n, h, hm, ho, hn => by
    have hk : (k + 1) * K = k * K + K := by rw [Nat.add_mul, Nat.one_mul]
    obtain ⟨o1, h1, e1⟩ := ht sc z1 (some (.int (lo : Int))) zs m r o n hm ho (by omega)
    have lt : r < m.length := by
      rcases Nat.lt_or_ge r m.length with l | l
      · exact l
      · rw [List.getElem?_eq_none l] at hm; cases hm
    obtain ⟨y3, o2, h2, e2⟩ := turns_ok ht sc z1 zs r k (lo + 1) f (i + 1) (some (.int (lo : Int))) (m.set r o1) o1 (n + K) (by omega) (by rw [List.getElem?_set_self lt]) h1 (by omega)
    rw [List.set_set] at e2
    refine ⟨y3, o2, h2.mono (by omega), ?_⟩
    have hg : (den (.gn 3)).g (.int (lo : Int)) (sc :: z1 :: some (.ref r) :: z3 :: zs) = some (sc :: z1 :: some (.ref r) :: some (.int (lo : Int)) :: zs) := rfl
    have hb : (den (.cons st .nil)).b F (sc :: z1 :: some (.ref r) :: some (.int (lo : Int)) :: zs) m = .nx (sc :: z1 :: some (.ref r) :: some (.int (lo : Int)) :: zs) (m.set r o1) := by
      rw [bcons_nx e1]; rfl
    show forGo F (den (.gn 3)).g (den (.cons st .nil)).b none (f + 1) i [] (.int (lo : Int) :: rngI ((lo : Int) + 1) 1 k) _ m = _
    unfold forGo
    simp only [hg, hb]
    rw [show still [] (m.set r o1) = true from rfl, if_pos rfl]
    exact e2
def lawI (t : Nat) (st : A) : A := .sFor (.gn 3) (.iter .rng1 (.cons (.int (t : Int)) .nil)) (.cons st .nil)
def lawO (kd : Nat) (t : Nat) (st : A) : A := .cons (.sA 2 (.call kd (.cons (.var 0) (.cons (.var 1) .nil)))) (.cons (lawI t st) .nil)
def lawR (L : Nat) : A := .iter .rng1 (.cons (.fz (.bi .max2 (.cons (.int 1) (.cons (.fz (.bi .min2 (.cons (.int (L : Int)) (.cons (.fz (.bi .len (.cons (.var 0) .nil))) .nil)))) .nil)))) .nil)
def lawB (kd L t : Nat) (st rest : A) : A := .cons (.sFor (.gn 1) (lawR L) (lawO kd t st)) rest
def DiceF (F : FT) (kd : Nat) : Prop := ∀ (ns : List Int) (spot : Nat), spot < 100 → ∃ a b, F.call kd [.sc (ns.map AV.int), .int (spot : Int)] [] = .ok (.ref 0) [Dc 0 a b 0]
theorem s62_of : ∀ t : Nat, t < 10 → small62 (t : Int) = true := by decide +kernel
theorem i_iter (k : It) (es : A) (F : FT) (s : ASt) (m : AH) : (den (.iter k es)).i F s m = ((den es).a F s m).bind fun vs m1 => .of (iterV k vs m1) m1 := rfl
theorem i_it1 (j : Int) (F : FT) (s : ASt) (m : AH)  : (den (.iter .rng1 (.cons (.int j) .nil))).i F s m = .of (iterV .rng1 [.int j] m) m := by
  rw [i_iter]
  have h : (den (.cons (.int j) .nil)).a F s m = .ok [.int j] m := rfl
  rw [h, r_bok]
theorem it1 (j : Int) (m : AH) : iterV .rng1 [.int j] m = if small62 j then some ⟨rngI 0 1 j.toNat, [], none⟩ else none := rfl
theorem hz_of (t : Nat) (m : AH) (s62 : small62 (t : Int) = true) : iterV .rng1 [.int (t : Int)] m = some ⟨rngI 0 1 t, [], none⟩ := by
  rw [it1, if_pos s62, Int.toNat_natCast]
theorem u_sForOk {t it b : A} {F : FT} {s : ASt} {m : AH} {its : List AV} (h : (den it).i F s m = .ok ⟨its, [], none⟩ m) : (den (.sFor t it b)).s F s m = forGo F (den t).g (den b).b none F.wf 0 [] its s m := by
  rw [q_sFor]
  unfold sFor
  rw [h]
  rfl
theorem spots_ok {F : FT} {st : A} {K kd t : Nat} (hwf : 200 < F.wf) (hd : DiceF F kd) (ht : TurnOk F st K) (hK : t * K < 400000) (h0 : t < 10) (ns : List Int) (zs : ASt) : ∀ (k lo f i : Nat) (z1 z2 z3 : Option AV) (m : AH), k < f → lo + k ≤ 100 →
    ∃ y1 y2 y3 m', m'.length = m.length + k ∧ forGo F (den (.gn 1)).g (den (lawO kd t st)).b none f i [] (rngI (lo : Int) 1 k) (some (.sc (ns.map AV.int)) :: z1 :: z2 :: z3 :: zs) m = .nx (some (.sc (ns.map AV.int)) :: y1 :: y2 :: y3 :: zs) m'
  | k, lo, 0, i, z1, z2, z3, m, h, _ => by omega
  | 0, lo, f + 1, i, z1, z2, z3, m, h, _ => ⟨z1, z2, z3, m, rfl, rfl⟩
  | k + 1, lo, f + 1, i, z1, z2, z3, m, h, h2 => by
    obtain ⟨a, b, hdc⟩ := hd ns lo (by omega)
    have hps : pureL [AV.sc (ns.map AV.int), AV.int (lo : Int)] = true := by simp [pureL, pureV, pureL_ints]
    have c1 := callV_new (m := m) hps (dc_pure 0 a b 0) hdc
    have i0 : IsD 0 (Dc 0 a b 0) := ⟨_, _, _, _, rfl, by omega, by omega⟩
    obtain ⟨y3, o', h3, e3⟩ := turns_ok ht (some (.sc (ns.map AV.int))) (some (.int (lo : Int))) zs m.length t 0 F.wf 0 z3 (m ++ [Dc 0 a b 0]) (Dc 0 a b 0) 0 (by omega) (by simp) i0 (by omega)
    have q1 : (den (.sA 2 (.call kd (.cons (.var 0) (.cons (.var 1) .nil))))).s F (some (.sc (ns.map AV.int)) :: some (.int (lo : Int)) :: z2 :: z3 :: zs) m = .nx (some (.sc (ns.map AV.int)) :: some (.int (lo : Int)) :: some (.ref m.length) :: z3 :: zs) (m ++ [Dc 0 a b 0]) := by
      simp [c1, setS]
    have s62 : small62 (t : Int) = true := s62_of t h0
    have q2 : (den (lawI t st)).s F (some (.sc (ns.map AV.int)) :: some (.int (lo : Int)) :: some (.ref m.length) :: z3 :: zs) (m ++ [Dc 0 a b 0]) = .nx (some (.sc (ns.map AV.int)) :: some (.int (lo : Int)) :: some (.ref m.length) :: y3 :: zs) ((m ++ [Dc 0 a b 0]).set m.length o') := by
      have hi : ∀ s m, (den (.iter .rng1 (.cons (.int (t : Int)) .nil))).i F s m = .ok ⟨rngI 0 1 t, [], none⟩ m := fun s m => by
        rw [i_it1, hz_of t m s62, r_of]
      rw [Int.natCast_zero] at e3
      exact (u_sForOk (hi _ _)).trans e3
    obtain ⟨y1, y2, y4, m2, hm2, e2⟩ := spots_ok hwf hd ht hK h0 ns zs k (lo + 1) f (i + 1) (some (.int (lo : Int))) (some (.ref m.length)) y3 ((m ++ [Dc 0 a b 0]).set m.length o') (by omega) (by omega)
    refine ⟨y1, y2, y4, m2, ?_, ?_⟩
    · rw [hm2, List.length_set, List.length_append]
      simp only [List.length_cons, List.length_nil]
      omega
    have hg : (den (.gn 1)).g (.int (lo : Int)) (some (.sc (ns.map AV.int)) :: z1 :: z2 :: z3 :: zs) = some (some (.sc (ns.map AV.int)) :: some (.int (lo : Int)) :: z2 :: z3 :: zs) := rfl
    have hb : (den (lawO kd t st)).b F (some (.sc (ns.map AV.int)) :: some (.int (lo : Int)) :: z2 :: z3 :: zs) m = .nx (some (.sc (ns.map AV.int)) :: some (.int (lo : Int)) :: some (.ref m.length) :: y3 :: zs) ((m ++ [Dc 0 a b 0]).set m.length o') := by
      unfold lawO
      rw [bcons_nx q1, bcons_nx q2]; rfl
    show forGo F (den (.gn 1)).g (den (lawO kd t st)).b none (f + 1) i [] (.int (lo : Int) :: rngI ((lo : Int) + 1) 1 k) _ m = _
    unfold forGo
    simp only [hg, hb]
    rw [show still [] ((m ++ [Dc 0 a b 0]).set m.length o' : AH) = true from rfl, if_pos rfl]
    exact e2
theorem lawR_ok {F : FT} {L : Nat} {ns : List Int} (h1 : 1 ≤ L) (h2 : L ≤ 8) (zs : ASt) : ∃ j : Nat, 1 ≤ j ∧ j ≤ L ∧ (den (lawR L)).i F (some (.sc (ns.map AV.int)) :: zs) [] = .ok ⟨rngI 0 1 j, [], none⟩ [] := by
  have e1 : ∀ z y : Int, biV true .min2 [.int y, .int z] [] = some (.int (if z < y then z else y), []) := fun z y => rfl
  have e2 : ∀ z : Int, biV true .max2 [.int 1, .int z] [] = some (.int (if z > 1 then z else 1), []) := fun z => rfl
  have key : ∀ j : Nat, 1 ≤ j → j ≤ 8 → (if (if (ns.length : Int) < (L : Int) then (ns.length : Int) else (L : Int)) > 1 then (if (ns.length : Int) < (L : Int) then (ns.length : Int) else (L : Int)) else 1) = (j : Int) → (den (lawR L)).i F (some (.sc (ns.map AV.int)) :: zs) [] = .ok ⟨rngI 0 1 j, [], none⟩ [] := by
    intro j h1 h2 h3
    have ha : (den (.cons (.fz (.bi .max2 (.cons (.int 1) (.cons (.fz (.bi .min2 (.cons (.int (L : Int)) (.cons (.fz (.bi .len (.cons (.var 0) .nil))) .nil)))) .nil)))) .nil)).a F (some (.sc (ns.map AV.int)) :: zs) [] = .ok [.int (j : Int)] [] := by
      simp only [q_acons, u_acons, q_fz, q_bi, u_bi, q_int, u_lit, q_var, u_var, q_anil, r_bok, List.getElem?_cons_zero, p_len, r_op, e1, e2, List.length_map, h3]
    unfold lawR
    rw [i_iter, ha, r_bok]
    have : j = 1 ∨ j = 2 ∨ j = 3 ∨ j = 4 ∨ j = 5 ∨ j = 6 ∨ j = 7 ∨ j = 8 := by omega
    rcases this with rfl | rfl | rfl | rfl | rfl | rfl | rfl | rfl <;> rfl
  by_cases c : ns.length < L
  · by_cases c2 : 1 < ns.length
    · exact ⟨ns.length, by omega, by omega, key _ (by omega) (by omega) (by rw [if_pos (show (ns.length : Int) < (L : Int) by omega), if_pos (by omega)])⟩
    · exact ⟨1, by omega, by omega, key _ (by omega) (by omega) (by rw [if_pos (show (ns.length : Int) < (L : Int) by omega), if_neg (by omega)]; rfl)⟩
  · by_cases c2 : 1 < L
    · exact ⟨L, by omega, by omega, key _ (by omega) (by omega) (by rw [if_neg (show ¬ (ns.length : Int) < (L : Int) by omega), if_pos (by omega)])⟩
    · exact ⟨1, by omega, by omega, key _ (by omega) (by omega) (by rw [if_neg (show ¬ (ns.length : Int) < (L : Int) by omega), if_neg (by omega)]; rfl)⟩
theorem law_says {Ds : List Df} {n i kd L t K q : Nat} {st rest : A} {d : Df} (hk : Ds[i]? = some d) (hi : d.ini = none) (ht : d.top = true) (hb : d.body = lawB kd L t st rest) (hN : d.N.length = q + 4) (hp : d.np = 1) (h1 : 1 ≤ L) (h2 : L ≤ 8) (h3 : t < 10) (h4 : t * K < 400000)
    (hd : DiceF (ftT (sem Ds 10000) 10000 n) kd) (htn : TurnOk (ftT (sem Ds 10000) 10000 n) st K)
    (hr : ∀ (sc z1 z2 z3 : Option AV) (m : AH), 1 ≤ m.length → m.length ≤ 8 → ∃ m', (den rest).b (ftT (sem Ds 10000) 10000 n) (sc :: z1 :: z2 :: z3 :: List.replicate q none) m = .rt (.bl true) m') : Says Ds 10000 (n + 5) i := by
  intro ns _
  obtain ⟨F, hF⟩ : ∃ F : FT, F = ftT (sem Ds 10000) 10000 n := ⟨_, rfl⟩
  have hs : sem Ds 10000 (n + 5) true i [.sc (ns.map AV.int)] [] = ((den (lawB kd L t st rest)).b F (some (.sc (ns.map AV.int)) :: none :: none :: none :: List.replicate q none) []).fin := by
    rw [sem_top Ds 10000 n i _ _ d hk hi ht (by rw [hp]; rfl), hb, hN, hF]
    rfl
  rw [hs]
  obtain ⟨j, hj1, hj2, hj⟩ := lawR_ok (F := F) (ns := ns) h1 h2 (none :: none :: none :: List.replicate q none)
  have hwf : 200 < F.wf := by
    have e : F.wf = 10000 := by rw [hF]; rfl
    omega
  rw [← hF] at hd htn hr
  obtain ⟨y1, y2, y3, m', hm, e⟩ := spots_ok hwf hd htn h4 h3 ns (List.replicate q none) j 0 F.wf 0 none none none [] (by omega) (by omega)
  have q1 : (den (.sFor (.gn 1) (lawR L) (lawO kd t st))).s F (some (.sc (ns.map AV.int)) :: none :: none :: none :: List.replicate q none) [] = .nx (some (.sc (ns.map AV.int)) :: y1 :: y2 :: y3 :: List.replicate q none) m' := by
    exact (u_sForOk hj).trans e
  have hm' : m'.length = j := by rw [hm]; simp
  obtain ⟨m2, h⟩ := hr (some (.sc (ns.map AV.int))) y1 y2 y3 m' (by omega) (by omega)
  refine ⟨m2, ?_⟩
  unfold lawB
  rw [bcons_nx q1, h]
  rfl
/-- heaps of one to eight -/
theorem len8 {P : AH → Prop} (h1 : ∀ a, P [a]) (h2 : ∀ a b, P [a, b]) (h3 : ∀ a b c, P [a, b, c]) (h4 : ∀ a b c d, P [a, b, c, d]) (h5 : ∀ a b c d e, P [a, b, c, d, e]) (h6 : ∀ a b c d e f, P [a, b, c, d, e, f]) (h7 : ∀ a b c d e f g, P [a, b, c, d, e, f, g]) (h8 : ∀ a b c d e f g h, P [a, b, c, d, e, f, g, h]) : ∀ m : AH, 1 ≤ m.length → m.length ≤ 8 → P m
  | [], h, _ => by simp at h
  | [a], _, _ => h1 a
  | [a, b], _, _ => h2 a b
  | [a, b, c], _, _ => h3 a b c
  | [a, b, c, d], _, _ => h4 a b c d
  | [a, b, c, d, e], _, _ => h5 a b c d e
  | [a, b, c, d, e, f], _, _ => h6 a b c d e f
  | [a, b, c, d, e, f, g], _, _ => h7 a b c d e f g
  | [a, b, c, d, e, f, g, h], _, _ => h8 a b c d e f g h
  | _ :: _ :: _ :: _ :: _ :: _ :: _ :: _ :: _ :: _, _, h => by simp only [List.length_cons] at h; omega
section
variable {Ds : List Df} {n : Nat}
theorem rightF_of {k K : Nat} {d : Df} {q : Nat} {F : FT} (hF : F.call = sem Ds 10000 (n + 5) true) (hk : Ds[k]? = some d) (hi : d.ini = none) (ht : d.top = true) (hN : d.N.length = q + 1) (hp : d.np = 1) (h : ∀ (N : Nat) (o : AO), IsD N o → N < 500000 → ∃ o' mt, IsD (N + K) o' ∧ (den d.body).b (ftT (sem Ds 10000) 10000 n) (some (.ref 0) :: List.replicate q none) [o] = .rt (.bl true) (o' :: mt)) : RightF F k K := fun N o ho hn => by
  obtain ⟨o', mt, h1, h2⟩ := h N o ho hn
  refine ⟨o', mt, h1, ?_⟩
  rw [hF, sem_top Ds 10000 n k _ _ d hk hi ht (by rw [hp]; rfl), hN]
  show ((den d.body).b (ftT (sem Ds 10000) 10000 n) (some (.ref 0) :: List.replicate q none) [o]).fin = _
  rw [h2]
  rfl
end
end Mi
set_option Elab.async false
set_option linter.all false
set_option maxRecDepth 100000
set_option maxHeartbeats 4000000
namespace Hc72
open PySem PySem.Spec PyProof.Rows L2 Mi
def tp (i : Nat) : Stmt := PySem.Challenge.pw_heedcells_k72_errors_of_nets.main.body.getD i (.Pass ⟨0, 0, 0, 0⟩)
def cb (i j : Nat) : Stmt := match tp i with | .ClassDef _ _ _ b _ _ _ _ _ _ _ => b.getD j (.Pass ⟨0, 0, 0, 0⟩) | s => s
abbrev Z : A := A.nil
def hs : List (Nat × Str × Bool) := [(3, "net", false), (1, "state", false), (2, "rule", false), (4, "room", false), (5, "operation", false), (6, "count ", true), (7, "many ", true)]
def b0 : A := (.cons (.sR (.fz (.and (.isi .isInt (.var 0)) (.one (.not (.isi .isBool (.var 0))))))) Z)
def f0 : Df := ⟨"is_integer", ["value"], 1, b0, false, none⟩
def b1 : A := (.cons (.sR (.fz (.and (.call 0 (.cons (.var 0) Z)) (.one (.chn .le .le (.var 1) (.var 0) (.var 2)))))) Z)
def f1 : Df := ⟨"is_within", ["value", "low", "most"], 3, b1, false, none⟩
def b2 : A := (.cons (.sR (.fz (.and (.isi .isTuple (.var 0)) (.one (.bi .all (.cons (.fz (.lc [1] (.gn 1) (.itE (.var 0)) Z (.fz (.call 1 (.cons (.var 1) (.cons (.int 0) (.cons (.int 1) Z))))))) Z)))))) Z)
def f2 : Df := ⟨"are_bits", ["value", "bit"], 1, b2, false, none⟩
def b3 : A := (.cons (.sR (.fz (.and (.call 2 (.cons (.var 1) Z)) (.one (.cmp .eq (.lenO 8 20 (.var 1)) (.var 0)))))) Z)
def f3 : Df := ⟨"is_state_of", ["cells", "value"], 2, b3, false, none⟩
def b4 : A := (.cons (.sIf (.or (.not (.isi .isTuple (.var 1))) (.one (.not (.bi .all (.cons (.fz (.lc [2] (.gn 2) (.itE (.var 1)) Z (.fz (.call 1 (.cons (.var 2) (.cons (.int 0) (.cons (.bin .sub (.var 0) (.int 1)) Z))))))) Z))))) (.cons (.sR (.bl false)) Z) Z) (.cons (.sR (.fz (.bi .all (.cons (.fz (.lc [3, 4] (.gt (.cons (.gn 3) (.cons (.gn 4) Z))) (.iter .zip (.cons (.var 1) (.cons (.fz (.slc (.var 1) (.int 1) Z)) Z))) Z (.cmp .lt (.var 3) (.var 4)))) Z)))) Z))
def f4 : Df := ⟨"are_cells_of", ["cells", "value", "cell", "one", "other"], 2, b4, false, none⟩
def b5 : A := (.cons (.sA 1 (.int 1)) (.cons (.sFor (.gn 2) (.iter .rng1 (.cons (.var 0) Z)) (.cons (.sA 1 (.fz (.bin .mul (.int 2) (.var 1)))) Z)) (.cons (.sR (.var 1)) Z)))
def f5 : Df := ⟨"count_of", ["cells", "found", "_"], 1, b5, false, none⟩
def b6 : A := (.cons (.sA 1 (.int 0)) (.cons (.sFor (.gn 2) (.itE (.var 0)) (.cons (.sA 1 (.fz (.bin .add (.bin .mul (.int 2) (.var 1)) (.var 2)))) Z)) (.cons (.sR (.var 1)) Z)))
def f6 : Df := ⟨"index_in", ["state", "found", "bit"], 1, b6, false, none⟩
def b7 : A := (.cons (.sA 1 (.fz (.lst (.cons (.tup Z) Z)))) (.cons (.sFor (.gn 2) (.iter .rng1 (.cons (.var 0) Z)) (.cons (.sAl 1 (.fz (.lc2 [3, 4] [4] (.gn 3) (.itE (.var 1)) Z (.gn 4) (.itE (.tup (.cons (.int 0) (.cons (.int 1) Z)))) Z (.tup (.stc (.var 3) (.cons (.var 4) Z)))))) Z)) (.cons (.sR (.var 1)) Z)))
def f7 : Df := ⟨"states_of", ["cells", "found", "_", "state", "bit"], 1, b7, false, none⟩
def b8 : A := (.cons (.sIf (.not (.call 1 (.cons (.var 0) (.cons (.var 1) (.cons (.var 2) Z))))) (.cons (.sRaise 6 (.var 0)) Z) Z) Z)
def f8 : Df := ⟨"require_count", ["value", "low", "most"], 3, b8, false, none⟩
def b9 : A := (.cons (.sIf (.or (.not (.isi .isTuple (.var 0))) (.or (.cmp .ne (.lenO 8 20 (.var 0)) (.int 2)) (.or (.not (.isi .isTuple (.idx (.var 0) (.int 0)))) (.one (.not (.call 2 (.cons (.idx (.var 0) (.int 1)) Z))))))) (.cons (.sR (.bl false)) Z) Z) (.cons (.sA 1 (.idx (.var 0) (.int 0))) (.cons (.sIf (.or (.cmp .gt (.lenO 8 20 (.var 1)) (.gi "MOST_HEEDED" 10)) (.one (.not (.bi .all (.cons (.fz (.lc [2] (.gn 2) (.itE (.var 1)) Z (.fz (.call 1 (.cons (.var 2) (.cons (.int 0) (.cons (.gi "LAST_CELL" 63) Z))))))) Z))))) (.cons (.sR (.bl false)) Z) Z) (.cons (.sR (.fz (.and (.bi .all (.cons (.fz (.lc [3, 4] (.gt (.cons (.gn 3) (.cons (.gn 4) Z))) (.iter .zip (.cons (.var 1) (.cons (.fz (.slc (.var 1) (.int 1) Z)) Z))) Z (.cmp .lt (.var 3) (.var 4)))) Z)) (.one (.cmp .eq (.lenO 8 20 (.idx (.var 0) (.int 1))) (.call 5 (.cons (.fz (.lenO 8 20 (.var 1))) Z))))))) Z))))
def f9 : Df := ⟨"is_rule_in", ["value", "heeds", "cell", "one", "other"], 1, b9, false, none⟩
def b10 : A := (.cons (.sG (.gt (.cons (.gn 3) (.cons (.gn 4) Z))) (.var 0)) (.cons (.sA 5 (.fz (.call 5 (.cons (.bin .sub (.bin .sub (.lenO 8 20 (.var 3)) (.var 1)) (.int 1)) Z)))) (.cons (.sAl 6 (.fz (.lc [7, 8] (.gt (.cons (.gn 7) (.cons (.gn 8) Z))) (.iter .enum (.cons (.var 4) Z)) (.cons (.cmp .eq (.bin .mod (.bin .fdiv (.var 7) (.var 5)) (.int 2)) (.var 2)) Z) (.var 8)))) (.cons (.sR (.tup (.cons (.fz (.bin .add (.slc (.var 3) Z (.var 1)) (.slc (.var 3) (.bin .add (.var 1) (.int 1)) Z))) (.cons (.fz (.bi .tuple (.cons (.var 6) Z))) Z)))) Z))))
def f10 : Df := ⟨"without", ["rule", "place", "bit", "heeds", "table", "size", "found", "at", "one"], 3, b10, false, none⟩
def b11 : A := (.cons (.sR (.cmp .ne (.call 10 (.cons (.var 0) (.cons (.var 1) (.cons (.int 0) Z)))) (.call 10 (.cons (.var 0) (.cons (.var 1) (.cons (.int 1) Z)))))) Z)
def f11 : Df := ⟨"does_matter", ["rule", "place"], 2, b11, false, none⟩
def b12 : A := (.cons (.sFor (.gn 1) (.iter .rng3 (.cons (.bin .sub (.lenO 8 20 (.idx (.var 0) (.int 0))) (.int 1)) (.cons (.neg (.int 1)) (.cons (.neg (.int 1)) Z)))) (.cons (.sIf (.not (.call 11 (.cons (.var 0) (.cons (.var 1) Z)))) (.cons (.sA 0 (.fz (.call 10 (.cons (.var 0) (.cons (.var 1) (.cons (.int 0) Z)))))) Z) Z) Z)) (.cons (.sR (.var 0)) Z))
def f12 : Df := ⟨"lean_in", ["rule", "place"], 1, b12, false, none⟩
def b13 : A := (.cons (.sR (.idx (.idx (.var 0) (.int 1)) (.call 6 (.cons (.fz (.lc [2] (.gn 2) (.itE (.idx (.var 0) (.int 0))) Z (.idx (.var 1) (.var 2)))) Z)))) Z)
def f13 : Df := ⟨"at_state", ["rule", "state", "cell"], 2, b13, false, none⟩
def b14 : A := (.cons (.sIf (.or (.not (.isi .isTuple (.var 0))) (.one (.not (.chn .le .le (.int 1) (.lenO 8 20 (.var 0)) (.gi "MAX_CELLS" 10))))) (.cons (.sR (.bl false)) Z) Z) (.cons (.sR (.fz (.bi .all (.cons (.fz (.lc [1] (.gn 1) (.itE (.var 0)) Z (.fz (.and (.call 9 (.cons (.var 1) Z)) (.one (.or (.cmp .eq (.idx (.var 1) (.int 0)) (.tup Z)) (.one (.cmp .lt (.idx (.idx (.var 1) (.int 0)) (.neg (.int 1))) (.lenO 8 20 (.var 0)))))))))) Z)))) Z))
def f14 : Df := ⟨"are_rules", ["value", "rule"], 1, b14, false, none⟩
def b15 : A := (.cons (.sIf (.not (.call 14 (.cons (.var 1) Z))) (.cons (.sRz 3) Z) Z) (.cons (.sR (.fz (.bi .tuple (.cons (.fz (.lc [2] (.gn 2) (.itE (.var 1)) Z (.fz (.call 12 (.cons (.var 2) Z))))) Z)))) Z))
def f15 : Df := ⟨"__init__", ["self", "rules", "rule"], 1, b15, false, some 8⟩
def b16 : A := (.cons (.sR (.fz (.bi .tuple (.cons (.fz (.lc [2] (.gn 2) (.itE (.get 8 0 (.var 0))) Z (.fz (.call 13 (.cons (.var 2) (.cons (.var 1) Z)))))) Z)))) Z)
def f16 : Df := ⟨"led_in", ["self", "state", "rule"], 2, b16, false, none⟩
def b17 : A := (.cons (.sE (.call 36 (.cons (.var 0) (.cons (.var 1) Z)))) (.cons (.sR (.fz (.meth 8 16 (.var 0) (.cons (.var 1) Z)))) Z))
def f17 : Df := ⟨"led", ["self", "state"], 2, b17, false, none⟩
def b18 : A := (.cons (.sE (.call 37 (.cons (.var 0) (.cons (.var 1) Z)))) (.cons (.sE (.call 36 (.cons (.var 0) (.cons (.var 2) Z)))) (.cons (.sR (.fz (.call 13 (.cons (.idx (.get 8 0 (.var 0)) (.var 1)) (.cons (.var 2) Z))))) Z)))
def f18 : Df := ⟨"value", ["self", "cell", "state"], 3, b18, false, none⟩
def b19 : A := (.cons (.sE (.call 37 (.cons (.var 0) (.cons (.var 1) Z)))) (.cons (.sR (.idx (.idx (.get 8 0 (.var 0)) (.var 1)) (.int 0))) Z))
def f19 : Df := ⟨"heeds", ["self", "cell"], 2, b19, false, none⟩
def b20 : A := (.cons (.sR (.fz (.lenO 8 20 (.get 8 0 (.var 0))))) Z)
def f20 : Df := ⟨"__len__", ["self"], 1, b20, false, none⟩
def b21 : A := (.cons (.sR (.fz (.lc [1] (.gn 1) (.itE (.fz (.call 7 (.cons (.fz (.lenO 8 20 (.var 0))) Z)))) Z (.fz (.meth 8 16 (.var 0) (.cons (.var 1) Z)))))) Z)
def f21 : Df := ⟨"table_in", ["net", "state"], 1, b21, false, none⟩
def b22 : A := (.cons (.sA 1 (.fz (.bir1 .tuple (.lenO 8 20 (.idx (.var 0) (.int 0)))))) (.cons (.sR (.fz (.call 15 (.cons (.fz (.bi .tuple (.cons (.fz (.lc [2] (.gn 2) (.itE (.var 1)) Z (.tup (.cons (.var 1) (.cons (.fz (.bi .tuple (.cons (.fz (.lc [3] (.gn 3) (.itE (.var 0)) Z (.idx (.var 3) (.var 2)))) Z))) Z))))) Z))) Z)))) Z))
def f22 : Df := ⟨"net_from", ["table", "cells", "cell", "state"], 1, b22, false, none⟩
def b23 : A := (.cons (.sAl 2 (.fz (.lc [3] (.gn 3) (.itE (.idx (.var 0) (.int 0))) Z (.idx (.var 1) (.var 3))))) (.cons (.sA 4 (.fz (.bi .sorted (.cons (.var 2) Z)))) (.cons (.sAl 5 (.fz (.lc [3] (.gn 3) (.itE (.var 2)) Z (.fz (.index (.var 4) (.var 3)))))) (.cons (.sAl 6 (.fz (.lc [7] (.gn 7) (.itE (.fz (.call 7 (.cons (.fz (.lenO 8 20 (.var 4))) Z)))) Z (.idx (.idx (.var 0) (.int 1)) (.call 6 (.cons (.fz (.lc [8] (.gn 8) (.itE (.var 5)) Z (.idx (.var 7) (.var 8)))) Z)))))) (.cons (.sR (.tup (.cons (.fz (.bi .tuple (.cons (.var 4) Z))) (.cons (.fz (.bi .tuple (.cons (.var 6) Z))) Z)))) Z)))))
def f23 : Df := ⟨"renamed_rule", ["rule", "names", "heeds", "cell", "order", "places", "table", "state", "place"], 2, b23, false, none⟩
def b24 : A := (.cons (.sA 2 (.bin .mul (.lst (.cons .non Z)) (.lenO 8 20 (.var 0)))) (.cons (.sFor (.gt (.cons (.gn 3) (.cons (.gn 4) Z))) (.iter .enum (.cons (.var 0) Z)) (.cons (.sI (.var 2) (.idx (.var 1) (.var 3)) (.fz (.call 23 (.cons (.var 4) (.cons (.var 1) Z))))) Z)) (.cons (.sR (.fz (.bi .tuple (.cons (.var 2) Z)))) Z)))
def f24 : Df := ⟨"renamed_rules", ["rules", "names", "found", "cell", "rule"], 2, b24, false, none⟩
def b25 : A := (.cons (.sA 3 (.fz (.call 6 (.cons (.fz (.lc [4] (.gn 4) (.itE (.idx (.var 0) (.int 0))) Z (.fz (.bi .int (.cons (.cmp .inn (.var 4) (.var 1)) Z))))) Z)))) (.cons (.sR (.tup (.cons (.idx (.var 0) (.int 0)) (.cons (.fz (.bi .tuple (.cons (.fz (.lc [5] (.gn 5) (.iter .rng1 (.cons (.fz (.lenO 8 20 (.idx (.var 0) (.int 1)))) Z)) Z (.bin .xor (.idx (.idx (.var 0) (.int 1)) (.bin .xor (.var 5) (.var 3))) (.var 2)))) Z))) Z)))) Z))
def f25 : Df := ⟨"switched_rule", ["rule", "cells", "side", "mask", "cell", "at"], 3, b25, false, none⟩
def b26 : A := (.cons (.sR (.fz (.bi .tuple (.cons (.fz (.lc [2, 3] (.gt (.cons (.gn 2) (.cons (.gn 3) Z))) (.iter .enum (.cons (.var 0) Z)) Z (.fz (.call 25 (.cons (.var 3) (.cons (.var 1) (.cons (.fz (.bi .int (.cons (.cmp .inn (.var 2) (.var 1)) Z))) Z))))))) Z)))) Z)
def f26 : Df := ⟨"switched_rules", ["rules", "cells", "cell", "rule"], 2, b26, false, none⟩
def b27 : A := (.cons (.sA 1 (.fz (.lst (.cons (.tup Z) Z)))) (.cons (.sFor (.gn 2) (.itE (.var 0)) (.cons (.sAl 1 (.fz (.lc2 [3, 4] [4] (.gn 3) (.itE (.var 1)) Z (.gn 4) (.itE (.var 0)) (.cons (.cmp .nin (.var 4) (.var 3)) Z) (.tup (.stc (.var 3) (.cons (.var 4) Z)))))) Z)) (.cons (.sR (.var 1)) Z)))
def f27 : Df := ⟨"sequences", ["items", "found", "_", "one", "item"], 1, b27, false, none⟩
def b28 : A := (.cons (.sR (.fz (.lc [1] (.gn 1) (.itE (.fz (.call 7 (.cons (.var 0) Z)))) Z (.fz (.bi .tuple (.cons (.fz (.lc [2, 3] (.gt (.cons (.gn 2) (.cons (.gn 3) Z))) (.iter .enum (.cons (.var 1) Z)) (.cons (.cmp .eq (.var 3) (.int 1)) Z) (.var 2))) Z)))))) Z)
def f28 : Df := ⟨"lots_of", ["cells", "state", "cell", "bit"], 1, b28, false, none⟩
def b29 : A := (.cons (.sP [1, 2] (.cons (.fz (.call 28 (.cons (.fz (.lenO 8 20 (.var 0))) Z))) (.cons (.lst Z) Z))) (.cons (.sFor (.gn 3) (.itE (.fz (.call 27 (.cons (.fz (.bir1 .list (.lenO 8 20 (.var 0)))) Z)))) (.cons (.sA 4 (.fz (.call 24 (.cons (.var 0) (.cons (.var 3) Z))))) (.cons (.sFor (.gn 5) (.itE (.var 1)) (.cons (.sE (.app (.var 2) (.tup (.cons (.fz (.call 26 (.cons (.var 4) (.cons (.var 5) Z)))) (.cons (.var 3) (.cons (.var 5) Z)))))) Z)) Z))) (.cons (.sR (.var 2)) Z)))
def f29 : Df := ⟨"turned_rules", ["rules", "lots", "found", "names", "named", "cells"], 1, b29, false, none⟩
def b30 : A := (.cons (.sR (.fz (.bi .min1 (.cons (.fz (.lc [1] (.gn 1) (.itE (.fz (.call 29 (.cons (.get 8 0 (.var 0)) Z)))) Z (.idx (.var 1) (.int 0)))) Z)))) Z)
def f30 : Df := ⟨"least_rules", ["net", "told"], 1, b30, false, none⟩
def b31 : A := (.cons (.sIf (.or (.not (.isi .isTuple (.var 1))) (.or (.cmp .ne (.lenO 8 20 (.var 1)) (.var 0)) (.one (.not (.bi .all (.cons (.fz (.lc [2] (.gn 2) (.itE (.var 1)) Z (.fz (.call 1 (.cons (.var 2) (.cons (.int 0) (.cons (.bin .sub (.var 0) (.int 1)) Z))))))) Z)))))) (.cons (.sR (.bl false)) Z) Z) (.cons (.sR (.cmp .eq (.lset (.var 1)) (.var 0))) Z))
def f31 : Df := ⟨"is_names", ["cells", "value", "one"], 2, b31, false, none⟩
def b32 : A := (.cons (.sA 4 (.fz (.lenO 8 20 (.var 0)))) (.cons (.sIf (.or (.cmp .ne (.lenO 8 20 (.var 1)) (.var 4)) (.or (.not (.call 31 (.cons (.var 4) (.cons (.var 2) Z)))) (.one (.not (.call 4 (.cons (.var 4) (.cons (.var 3) Z))))))) (.cons (.sR (.bl false)) Z) Z) (.cons (.sR (.cmp .eq (.call 26 (.cons (.fz (.call 24 (.cons (.get 8 0 (.var 0)) (.cons (.var 2) Z)))) (.cons (.var 3) Z))) (.get 8 0 (.var 1)))) Z)))
def f32 : Df := ⟨"is_turning", ["net", "other", "names", "cells", "many"], 4, b32, false, none⟩
def b33 : A := (.cons (.sR (.fz (.lc [2] (.gn 2) (.itE (.var 0)) Z (.idx (.var 1) (.var 2))))) Z)
def f33 : Df := ⟨"composed", ["one", "other", "index"], 2, b33, false, none⟩
def b34 : A := (.cons (.sR (.fz (.lc [1] (.gn 1) (.itE (.fz (.call 21 (.cons (.var 0) Z)))) Z (.fz (.call 6 (.cons (.var 1) Z)))))) Z)
def f34 : Df := ⟨"index_table", ["net", "state"], 1, b34, false, none⟩
def b35 : A := (.cons (.sIf (.not (.isO 8 (.var 0))) (.cons (.sRz 3) Z) Z) Z)
def f35 : Df := ⟨"require_net", ["net"], 1, b35, false, none⟩
def b36 : A := (.cons (.sIf (.not (.call 3 (.cons (.fz (.lenO 8 20 (.var 0))) (.cons (.var 1) Z)))) (.cons (.sRz 1) Z) Z) Z)
def f36 : Df := ⟨"require_own_state", ["net", "state"], 2, b36, false, none⟩
def b37 : A := (.cons (.sE (.call 8 (.cons (.var 1) (.cons (.int 0) (.cons (.bin .sub (.lenO 8 20 (.var 0)) (.int 1)) Z))))) Z)
def f37 : Df := ⟨"require_own_cell", ["net", "cell"], 2, b37, false, none⟩
def b38 : A := (.cons (.sIf (.not (.call 4 (.cons (.fz (.lenO 8 20 (.var 0))) (.cons (.var 1) Z)))) (.cons (.sRz 5) Z) Z) Z)
def f38 : Df := ⟨"require_own_cells", ["net", "cells"], 2, b38, false, none⟩
def b39 : A := (.cons (.sIf (.cmp .gt (.lenO 8 20 (.var 0)) (.gi "MOST_LEAST" 5)) (.cons (.sRaise 7 (.gi "MOST_LEAST" 5)) Z) Z) Z)
def f39 : Df := ⟨"require_few", ["net"], 1, b39, false, none⟩
def b40 : A := (.cons (.sE (.call 35 (.cons (.var 0) Z))) (.cons (.sR (.fz (.bi .tuple (.cons (.fz (.call 21 (.cons (.var 0) Z))) Z)))) Z))
def f40 : Df := ⟨"table_of", ["net"], 1, b40, false, none⟩
def b41 : A := (.cons (.sIf (.or (.not (.isi .isTuple (.var 0))) (.or (.cmp .eq (.var 0) (.tup Z)) (.one (.not (.isi .isTuple (.idx (.var 0) (.int 0))))))) (.cons (.sR (.bl false)) Z) Z) (.cons (.sA 1 (.fz (.lenO 8 20 (.idx (.var 0) (.int 0))))) (.cons (.sIf (.or (.not (.chn .le .le (.int 1) (.var 1) (.gi "MAX_CELLS" 10))) (.one (.cmp .ne (.lenO 8 20 (.var 0)) (.lenO 8 20 (.call 7 (.cons (.var 1) Z)))))) (.cons (.sR (.bl false)) Z) Z) (.cons (.sR (.fz (.bi .all (.cons (.fz (.lc [2] (.gn 2) (.itE (.var 0)) Z (.fz (.call 3 (.cons (.var 1) (.cons (.var 2) Z)))))) Z)))) Z))))
def f41 : Df := ⟨"is_table", ["value", "many", "state"], 1, b41, false, none⟩
def b42 : A := (.cons (.sIf (.not (.call 41 (.cons (.var 0) Z))) (.cons (.sRz 5) Z) Z) (.cons (.sR (.fz (.call 22 (.cons (.var 0) Z)))) Z))
def f42 : Df := ⟨"net_of_table", ["states"], 1, b42, false, none⟩
def b43 : A := (.cons (.sE (.call 35 (.cons (.var 0) Z))) (.cons (.sIf (.not (.call 31 (.cons (.fz (.lenO 8 20 (.var 0))) (.cons (.var 1) Z)))) (.cons (.sRz 5) Z) Z) (.cons (.sR (.fz (.call 15 (.cons (.fz (.call 24 (.cons (.get 8 0 (.var 0)) (.cons (.var 1) Z)))) Z)))) Z)))
def f43 : Df := ⟨"renamed", ["net", "names"], 2, b43, false, none⟩
def b44 : A := (.cons (.sE (.call 35 (.cons (.var 0) Z))) (.cons (.sE (.call 38 (.cons (.var 0) (.cons (.var 1) Z)))) (.cons (.sR (.fz (.call 15 (.cons (.fz (.call 26 (.cons (.get 8 0 (.var 0)) (.cons (.var 1) Z)))) Z)))) Z)))
def f44 : Df := ⟨"switched", ["net", "cells"], 2, b44, false, none⟩
def b45 : A := (.cons (.sE (.call 35 (.cons (.var 0) Z))) (.cons (.sE (.call 39 (.cons (.var 0) Z))) (.cons (.sR (.fz (.call 15 (.cons (.fz (.call 30 (.cons (.var 0) Z))) Z)))) Z)))
def f45 : Df := ⟨"least_net", ["net"], 1, b45, false, none⟩
def b46 : A := (.cons (.sE (.call 35 (.cons (.var 0) Z))) (.cons (.sE (.call 35 (.cons (.var 1) Z))) (.cons (.sE (.call 39 (.cons (.var 0) Z))) (.cons (.sE (.call 39 (.cons (.var 1) Z))) Z))))
def f46 : Df := ⟨"require_two_few", ["net", "other"], 2, b46, false, none⟩
def b47 : A := (.cons (.sIf (.cmp .ne (.lenO 8 20 (.var 0)) (.lenO 8 20 (.var 1))) (.cons (.sR .non) Z) Z) (.cons (.sFor (.gt (.cons (.gn 2) (.cons (.gn 3) (.cons (.gn 4) Z)))) (.itE (.fz (.call 29 (.cons (.get 8 0 (.var 0)) Z)))) (.cons (.sIf (.cmp .eq (.var 2) (.get 8 0 (.var 1))) (.cons (.sR (.tup (.cons (.var 3) (.cons (.var 4) Z)))) Z) Z) Z)) (.cons (.sR .non) Z)))
def f47 : Df := ⟨"alike_in", ["net", "other", "rules", "names", "cells"], 2, b47, false, none⟩
def b48 : A := (.cons (.sE (.call 46 (.cons (.var 0) (.cons (.var 1) Z)))) (.cons (.sR (.fz (.call 47 (.cons (.var 0) (.cons (.var 1) Z))))) Z))
def f48 : Df := ⟨"alike_by", ["net", "other"], 2, b48, false, none⟩
def b49 : A := (.cons (.sE (.call 46 (.cons (.var 0) (.cons (.var 1) Z)))) (.cons (.sA 2 (.fz (.call 47 (.cons (.var 0) (.cons (.var 1) Z))))) (.cons (.sIf (.cmp .isnot (.var 2) .non) (.cons (.sR (.tup (.cons (.gs "TURNED" "turned") (.cons (.idx (.var 2) (.int 0)) (.cons (.idx (.var 2) (.int 1)) Z))))) Z) Z) (.cons (.sR (.tup (.cons (.gs "UNLIKE" "unlike") (.cons (.fz (.call 30 (.cons (.var 0) Z))) (.cons (.fz (.call 30 (.cons (.var 1) Z))) Z))))) Z))))
def f49 : Df := ⟨"alike_paper", ["net", "other", "found"], 2, b49, false, none⟩
def b50 : A := (.cons (.sE (.call 46 (.cons (.var 0) (.cons (.var 1) Z)))) (.cons (.sIf (.or (.not (.isi .isTuple (.var 2))) (.or (.cmp .ne (.lenO 8 20 (.var 2)) (.int 3)) (.one (.not (.isi .isStr (.idx (.var 2) (.int 0))))))) (.cons (.sR (.bl false)) Z) Z) (.cons (.sIf (.cmp .eq (.idx (.var 2) (.int 0)) (.gs "TURNED" "turned")) (.cons (.sR (.fz (.call 32 (.cons (.var 0) (.cons (.var 1) (.cons (.idx (.var 2) (.int 1)) (.cons (.idx (.var 2) (.int 2)) Z))))))) Z) Z) (.cons (.sIf (.or (.cmp .ne (.idx (.var 2) (.int 0)) (.gs "UNLIKE" "unlike")) (.or (.not (.call 14 (.cons (.idx (.var 2) (.int 1)) Z))) (.one (.not (.call 14 (.cons (.idx (.var 2) (.int 2)) Z)))))) (.cons (.sR (.bl false)) Z) Z) (.cons (.sR (.fz (.and (.cmp .ne (.idx (.var 2) (.int 1)) (.idx (.var 2) (.int 2))) (.and (.cmp .eq (.idx (.var 2) (.int 1)) (.call 30 (.cons (.var 0) Z))) (.one (.cmp .eq (.idx (.var 2) (.int 2)) (.call 30 (.cons (.var 1) Z)))))))) Z)))))
def f50 : Df := ⟨"is_alike_paper", ["net", "other", "value"], 3, b50, false, none⟩
def b51 : A := (.cons (.sE (.call 35 (.cons (.var 0) Z))) (.cons (.sE (.call 39 (.cons (.var 0) Z))) (.cons (.sAl 1 (.fz (.lc [2, 3, 4] (.gt (.cons (.gn 2) (.cons (.gn 3) (.cons (.gn 4) Z)))) (.itE (.fz (.call 29 (.cons (.get 8 0 (.var 0)) Z)))) (.cons (.cmp .eq (.var 2) (.get 8 0 (.var 0))) Z) (.tup (.cons (.var 3) (.cons (.var 4) Z)))))) (.cons (.sR (.fz (.bi .tuple (.cons (.fz (.bi .sorted (.cons (.var 1) Z))) Z)))) Z))))
def f51 : Df := ⟨"likenesses", ["net", "found", "rules", "names", "cells"], 1, b51, false, none⟩
def b52 : A := (.cons (.sE (.call 35 (.cons (.var 0) Z))) (.cons (.sE (.call 35 (.cons (.var 1) Z))) (.cons (.sIf (.cmp .ne (.lenO 8 20 (.var 0)) (.lenO 8 20 (.var 1))) (.cons (.sRz 5) Z) Z) (.cons (.sR (.fz (.call 22 (.cons (.fz (.lc [2] (.gn 2) (.itE (.fz (.call 21 (.cons (.var 0) Z)))) Z (.fz (.meth 8 16 (.var 1) (.cons (.var 2) Z))))) Z)))) Z))))
def f52 : Df := ⟨"net_behind", ["one", "other", "state"], 2, b52, false, none⟩
def b53 : A := (.cons (.sE (.call 35 (.cons (.var 0) Z))) (.cons (.sE (.call 8 (.cons (.var 1) (.cons (.int 0) (.cons (.gi "MOST_TIMES" 1000000) Z))))) (.cons (.sG (.gt (.cons (.gn 2) (.cons (.gn 3) Z))) (.tup (.cons (.fz (.call 34 (.cons (.var 0) Z))) (.cons (.fz (.call 7 (.cons (.fz (.lenO 8 20 (.var 0))) Z))) Z)))) (.cons (.sA 4 (.fz (.bir1 .list (.lenO 8 20 (.var 3))))) (.cons (.sWh (.cmp .gt (.var 1) (.int 0)) (.cons (.sIf (.cmp .eq (.bin .mod (.var 1) (.int 2)) (.int 1)) (.cons (.sA 4 (.fz (.call 33 (.cons (.var 4) (.cons (.var 2) Z))))) Z) Z) (.cons (.sP [2, 1] (.cons (.fz (.call 33 (.cons (.var 2) (.cons (.var 2) Z)))) (.cons (.bin .fdiv (.var 1) (.int 2)) Z))) Z))) (.cons (.sR (.fz (.call 22 (.cons (.fz (.lc [5] (.gn 5) (.itE (.var 4)) Z (.idx (.var 3) (.var 5)))) Z)))) Z))))))
def f53 : Df := ⟨"net_power", ["net", "many", "square", "states", "found", "index"], 2, b53, false, none⟩
def b54 : A := (.cons (.sA 2 (.fz (.ite (.cmp .lt (.var 1) (.bi .len (.cons (.var 0) Z))) (.bi .int (.cons (.idx (.var 0) (.var 1)) Z)) (.bin .add (.bin .mul (.int 149) (.var 1)) (.int 53))))) (.cons (.sA 3 (.bin .mod (.bi .int (.cons (.fz (.bi .abs (.cons (.var 2) Z))) Z)) (.bin .pow (.bin .pow (.int 10) (.int 54)) (.int 6)))) (.cons (.sA 4 (.fz (.bin .add (.bin .add (.bin .add (.bin .mul (.bin .mod (.var 3) (.int 2305843009213693921)) (.int 67)) (.bin .mul (.int 743) (.var 1))) (.bin .mul (.int 37) (.bi .int (.cons (.cmp .lt (.var 2) (.int 0)) Z)))) (.int 29)))) (.cons (.sR (.lst (.cons (.fz (.bi .max2 (.cons (.int 0) (.cons (.bin .sub (.var 3) (.bin .pow (.int 10) (.int 16))) Z)))) (.cons (.var 4) (.cons (.int 0) Z))))) Z))))
def f54 : Df := ⟨"_law_dice", ["script", "spot", "cell", "great", "seed"], 2, b54, false, none⟩
def b55 : A := (.cons (.sIf (.cmp .gt (.idx (.var 0) (.int 0)) (.int 0)) (.cons (.sA 2 (.bin .mod (.idx (.var 0) (.int 0)) (.var 1))) (.cons (.sI (.var 0) (.int 0) (.bin .fdiv (.idx (.var 0) (.int 0)) (.var 1))) (.cons (.sR (.fz (.bi .int (.cons (.var 2) Z)))) Z))) Z) (.cons (.sI (.var 0) (.int 2) (.fz (.bin .add (.idx (.var 0) (.int 2)) (.int 1)))) (.cons (.sA 3 (.bin .mod (.bin .add (.idx (.var 0) (.int 1)) (.bin .mul (.int 86028157) (.idx (.var 0) (.int 2)))) (.int 2305843009213693951))) (.cons (.sA 4 (.fz (.bin .add (.bin .mul (.bin .mod (.bin .add (.bin .mul (.var 3) (.var 3)) (.bin .mul (.int 179) (.idx (.var 0) (.int 2)))) (.int 2305843009213693907)) (.int 15485867)) (.var 3)))) (.cons (.sR (.bin .mod (.bi .int (.cons (.bin .fdiv (.var 4) (.int 65579)) Z)) (.var 1))) Z)))))
def f55 : Df := ⟨"_law_roll", ["dice", "total", "found", "one", "two"], 2, b55, false, none⟩
def b56 : A := (.cons (.sR (.idx (.var 1) (.call 55 (.cons (.var 0) (.cons (.fz (.bi .len (.cons (.var 1) Z))) Z))))) Z)
def f56 : Df := ⟨"_law_pick", ["dice", "items"], 2, b56, false, none⟩
def b57 : A := (.cons (.sIf (.cmp .gt (.call 55 (.cons (.var 0) (.cons (.int 3) Z))) (.int 0)) (.cons (.sR (.tup (.cons (.var 1) (.cons (.bl false) Z)))) Z) Z) (.cons (.sR (.tup (.cons (.fz (.call 56 (.cons (.var 0) (.cons (.var 2) Z)))) (.cons (.bl true) Z)))) Z))
def f57 : Df := ⟨"_law_one", ["dice", "right", "wrong"], 3, b57, false, none⟩
def b58 : A := (.cons (.sAl 1 (.fz (.lc [2, 3] (.gt (.cons (.gn 2) (.cons (.gn 3) Z))) (.itE (.var 0)) (.cons (.var 3) Z) (.var 2)))) (.cons (.sR (.fz (.ite (.cmp .ne (.var 1) (.lst Z)) (.idx (.var 1) (.int 0)) (.str "none")))) Z))
def f58 : Df := ⟨"_law_first", ["rows", "some", "word", "is_wrong"], 1, b58, false, none⟩
def b59 : A := (.cons (.sA 1 (.fz (.lst (.cons .non (.cons (.tup Z) (.cons (.fz (.lst (.cons (.tup (.cons (.tup Z) (.cons (.tup (.cons (.int 0) Z)) Z))) Z))) (.cons (.tup (.cons (.tup (.cons (.tup (.cons (.int 1) Z)) (.cons (.tup (.cons (.int 0) (.cons (.int 1) Z))) Z))) Z)) (.cons (.tup (.cons (.tup (.cons (.tup (.cons (.int 0) Z)) (.cons (.tup (.cons (.int 0) (.cons (.int 2) Z))) Z))) Z)) (.cons (.tup (.cons (.tup (.cons (.tup (.cons (.int 0) Z)) (.cons (.tup (.cons (.int 0) Z)) Z))) Z)) (.cons (.tup (.cons (.tup (.cons (.tup (.cons (.int 0) (.cons (.int 0) Z))) (.cons (.tup (.cons (.int 0) (.cons (.int 1) (.cons (.int 1) (.cons (.int 0) Z))))) Z))) Z)) Z)))))))))) (.cons (.sA 1 (.fz (.bin .add (.var 1) (.lst (.cons (.fz (.bin .mul (.tup (.cons (.tup (.cons (.tup Z) (.cons (.tup (.cons (.int 0) Z)) Z))) Z)) (.int 11))) (.cons (.tup (.cons (.tup (.cons (.tup (.cons (.int 0) Z)) (.cons (.tup (.cons (.int 0) (.cons (.bl true) Z))) Z))) Z)) (.cons (.tup (.cons (.tup (.cons (.tup (.cons (.int 0) Z)) (.cons (.fz (.lst (.cons (.int 0) (.cons (.int 1) Z)))) Z))) Z)) (.cons (.tup (.cons (.tup (.cons (.tup (.cons (.neg (.int 1)) Z)) (.cons (.tup (.cons (.int 0) (.cons (.int 1) Z))) Z))) Z)) (.cons (.tup (.cons (.tup (.cons (.int 0) (.cons (.int 1) Z))) Z)) (.cons (.str "net") (.cons (.tup (.cons (.tup Z) Z)) Z))))))))))) (.cons (.sG (.gt (.cons (.gn 2) (.cons (.gn 3) Z))) (.fz (.call 57 (.cons (.var 0) (.cons (.fz (.call 56 (.cons (.var 0) (.cons (.fz (.lst (.cons (.tup (.cons (.tup (.cons (.tup Z) (.cons (.tup (.cons (.int 1) Z)) Z))) Z)) (.cons (.tup (.cons (.tup (.cons (.tup (.cons (.int 0) Z)) (.cons (.tup (.cons (.int 0) (.cons (.int 1) Z))) Z))) (.cons (.tup (.cons (.tup (.cons (.int 0) (.cons (.int 1) Z))) (.cons (.tup (.cons (.int 0) (.cons (.int 1) (.cons (.int 1) (.cons (.int 0) Z))))) Z))) Z))) Z)))) Z)))) (.cons (.var 1) Z)))))) (.cons (.sIf (.cmp .ne (.met hs (.call 15 (.cons (.var 2) Z))) (.call 58 (.cons (.fz (.lst (.cons (.tup (.cons (.str "net") (.cons (.var 3) Z))) Z))) Z))) (.cons (.sR (.bl false)) Z) Z) (.cons (.sA 1 (.fz (.lst (.cons .non (.cons (.tup Z) (.cons (.tup (.cons (.tup (.cons (.int 0) Z)) Z)) (.cons (.tup (.cons (.tup (.cons (.int 0) Z)) (.cons (.tup (.cons (.int 1) Z)) (.cons (.tup (.cons (.int 0) Z)) Z)))) (.cons (.tup (.cons (.tup (.cons (.int 0) Z)) (.cons (.tup (.cons (.int 2) Z)) Z))) (.cons (.tup (.cons (.tup (.cons (.int 0) Z)) (.cons (.fz (.lst (.cons (.int 1) Z))) Z))) (.cons (.tup (.cons (.tup (.cons (.int 0) (.cons (.int 0) Z))) (.cons (.tup (.cons (.int 0) (.cons (.int 1) Z))) Z))) (.cons (.fz (.lst (.cons (.tup (.cons (.int 0) Z)) (.cons (.tup (.cons (.int 1) Z)) Z)))) (.cons (.tup (.cons (.tup (.cons (.bl true) Z)) (.cons (.tup (.cons (.int 0) Z)) Z))) Z)))))))))))) (.cons (.sG (.gt (.cons (.gn 4) (.cons (.gn 5) Z))) (.fz (.call 57 (.cons (.var 0) (.cons (.fz (.call 56 (.cons (.var 0) (.cons (.fz (.lst (.cons (.tup (.cons (.tup (.cons (.int 0) Z)) (.cons (.tup (.cons (.int 0) Z)) Z))) (.cons (.fz (.bin .mul (.tup (.cons (.tup (.cons (.int 0) (.cons (.int 1) Z))) Z)) (.int 4))) Z)))) Z)))) (.cons (.var 1) Z)))))) (.cons (.sR (.cmp .eq (.met hs (.call 42 (.cons (.var 4) Z))) (.call 58 (.cons (.fz (.lst (.cons (.tup (.cons (.str "operation") (.cons (.var 5) Z))) Z))) Z)))) Z)))))))
def f59 : Df := ⟨"_law_made_right", ["dice", "bad", "rules", "no_rules", "states", "no_states"], 1, b59, true, none⟩
def b60 : A := (.cons (.sA 1 (.fz (.call 15 (.cons (.tup (.cons (.tup (.cons (.tup (.cons (.int 1) Z)) (.cons (.tup (.cons (.int 0) (.cons (.int 1) Z))) Z))) (.cons (.tup (.cons (.tup (.cons (.int 0) Z)) (.cons (.tup (.cons (.int 1) (.cons (.int 0) Z))) Z))) Z))) Z)))) (.cons (.sA 2 (.fz (.lst (.cons .non (.cons (.int 0) (.cons (.tup Z) (.cons (.tup (.cons (.tup (.cons (.tup (.cons (.int 1) Z)) (.cons (.tup (.cons (.int 0) (.cons (.int 1) Z))) Z))) Z)) (.cons (.str "net") (.cons .dnil Z))))))))) (.cons (.sG (.gt (.cons (.gn 3) (.cons (.gn 4) Z))) (.fz (.call 57 (.cons (.var 0) (.cons (.var 1) (.cons (.var 2) Z)))))) (.cons (.sG (.gt (.cons (.gn 5) (.cons (.gn 6) Z))) (.fz (.call 57 (.cons (.var 0) (.cons (.fz (.call 56 (.cons (.var 0) (.cons (.fz (.lst (.cons (.var 1) (.cons (.fz (.call 15 (.cons (.tup (.cons (.tup (.cons (.tup Z) (.cons (.tup (.cons (.int 1) Z)) Z))) Z)) Z))) Z)))) Z)))) (.cons (.var 2) Z)))))) (.cons (.sP [7, 8] (.cons (.tup (.cons (.str "net") (.cons (.var 4) Z))) (.cons (.tup (.cons (.str "net") (.cons (.var 6) Z))) Z))) (.cons (.sFor (.gn 9) (.itE (.tup (.cons (.fnm 40) (.cons (.fnm 45) (.cons (.fnm 51) Z))))) (.cons (.sIf (.cmp .ne (.met hs (.calv 9 (.cons (.var 3) Z))) (.call 58 (.cons (.fz (.lst (.cons (.var 7) Z))) Z))) (.cons (.sR (.bl false)) Z) Z) Z)) (.cons (.sG (.gt (.cons (.gn 10) (.cons (.gn 11) Z))) (.fz (.call 57 (.cons (.var 0) (.cons (.tup (.cons (.int 1) (.cons (.int 0) Z))) (.cons (.fz (.lst (.cons .non (.cons (.tup (.cons (.int 0) Z)) (.cons (.tup (.cons (.int 0) (.cons (.int 0) Z))) (.cons (.tup (.cons (.int 0) (.cons (.int 2) Z))) (.cons (.fz (.lst (.cons (.int 0) (.cons (.int 1) Z)))) (.cons (.tup (.cons (.int 0) (.cons (.bl true) Z))) (.cons (.tup (.cons (.int 0) (.cons (.int 1) (.cons (.int 2) Z)))) Z))))))))) Z)))))) (.cons (.sIf (.cmp .ne (.met hs (.call 43 (.cons (.var 3) (.cons (.var 10) Z)))) (.call 58 (.cons (.fz (.lst (.cons (.var 7) (.cons (.tup (.cons (.str "operation") (.cons (.var 11) Z))) Z)))) Z))) (.cons (.sR (.bl false)) Z) Z) (.cons (.sG (.gt (.cons (.gn 12) (.cons (.gn 13) Z))) (.fz (.call 57 (.cons (.var 0) (.cons (.fz (.call 56 (.cons (.var 0) (.cons (.fz (.lst (.cons (.tup Z) (.cons (.tup (.cons (.int 0) Z)) (.cons (.tup (.cons (.int 0) (.cons (.int 1) Z))) Z))))) Z)))) (.cons (.fz (.lst (.cons .non (.cons (.tup (.cons (.int 1) (.cons (.int 0) Z))) (.cons (.tup (.cons (.int 0) (.cons (.int 0) Z))) (.cons (.tup (.cons (.int 2) Z)) (.cons (.fz (.lst (.cons (.int 0) Z))) (.cons (.tup (.cons (.bl true) Z)) (.cons (.int 0) Z))))))))) Z)))))) (.cons (.sIf (.cmp .ne (.met hs (.call 44 (.cons (.var 3) (.cons (.var 12) Z)))) (.call 58 (.cons (.fz (.lst (.cons (.var 7) (.cons (.tup (.cons (.str "operation") (.cons (.var 13) Z))) Z)))) Z))) (.cons (.sR (.bl false)) Z) Z) (.cons (.sFor (.gn 9) (.itE (.tup (.cons (.fnm 48) (.cons (.fnm 49) Z)))) (.cons (.sIf (.cmp .ne (.met hs (.calv 9 (.cons (.var 3) (.cons (.var 5) Z)))) (.call 58 (.cons (.fz (.lst (.cons (.var 7) (.cons (.var 8) Z)))) Z))) (.cons (.sR (.bl false)) Z) Z) Z)) (.cons (.sIf (.cmp .ne (.met hs (.call 50 (.cons (.var 3) (.cons (.var 5) (.cons (.var 2) Z))))) (.call 58 (.cons (.fz (.lst (.cons (.var 7) (.cons (.var 8) Z)))) Z))) (.cons (.sR (.bl false)) Z) Z) (.cons (.sA 14 (.fz (.and (.not (.var 4)) (.and (.not (.var 6)) (.one (.cmp .ne (.lenO 8 20 (.var 3)) (.lenO 8 20 (.var 5)))))))) (.cons (.sIf (.cmp .ne (.met hs (.call 52 (.cons (.var 3) (.cons (.var 5) Z)))) (.call 58 (.cons (.fz (.lst (.cons (.var 7) (.cons (.var 8) (.cons (.tup (.cons (.str "operation") (.cons (.var 14) Z))) Z))))) Z))) (.cons (.sR (.bl false)) Z) Z) (.cons (.sG (.gt (.cons (.gn 15) (.cons (.gn 16) Z))) (.fz (.call 57 (.cons (.var 0) (.cons (.fz (.call 56 (.cons (.var 0) (.cons (.fz (.lst (.cons (.int 0) (.cons (.int 3) (.cons (.bin .pow (.int 10) (.int 6)) Z))))) Z)))) (.cons (.fz (.lst (.cons (.neg (.int 1)) (.cons (.fz (.bin .add (.bin .pow (.int 10) (.int 6)) (.int 1))) (.cons (.bl true) (.cons .non (.cons (.str "1") Z))))))) Z)))))) (.cons (.sIf (.cmp .ne (.met hs (.call 53 (.cons (.var 3) (.cons (.var 15) Z)))) (.call 58 (.cons (.fz (.lst (.cons (.var 7) (.cons (.tup (.cons (.fz (.bin .add (.str "count ") (.repr (.var 15)))) (.cons (.var 16) Z))) Z)))) Z))) (.cons (.sR (.bl false)) Z) Z) (.cons (.sG (.gt (.cons (.gn 17) (.cons (.gn 18) Z))) (.fz (.call 57 (.cons (.var 0) (.cons (.tup (.cons (.int 0) (.cons (.int 1) Z))) (.cons (.fz (.lst (.cons .non (.cons (.tup (.cons (.int 0) Z)) (.cons (.tup (.cons (.int 0) (.cons (.int 2) Z))) (.cons (.fz (.lst (.cons (.int 0) (.cons (.int 1) Z)))) (.cons (.tup (.cons (.int 0) (.cons (.int 1) (.cons (.int 0) Z)))) (.cons (.tup (.cons (.int 0) (.cons (.bl true) Z))) (.cons (.str "01") Z))))))))) Z)))))) (.cons (.sG (.gt (.cons (.gn 19) (.cons (.gn 20) Z))) (.fz (.call 57 (.cons (.var 0) (.cons (.fz (.call 56 (.cons (.var 0) (.cons (.fz (.lst (.cons (.int 0) (.cons (.int 1) Z)))) Z)))) (.cons (.fz (.lst (.cons (.neg (.int 1)) (.cons (.int 2) (.cons (.bl true) (.cons .non (.cons (.str "0") Z))))))) Z)))))) (.cons (.sIf (.cmp .ne (.met hs (.meth 8 17 (.var 1) (.cons (.var 17) Z))) (.call 58 (.cons (.fz (.lst (.cons (.tup (.cons (.str "state") (.cons (.var 18) Z))) Z))) Z))) (.cons (.sR (.bl false)) Z) Z) (.cons (.sA 21 (.tup (.cons (.fz (.bin .add (.str "count ") (.repr (.var 19)))) (.cons (.var 20) Z)))) (.cons (.sIf (.cmp .ne (.met hs (.meth 8 19 (.var 1) (.cons (.var 19) Z))) (.call 58 (.cons (.fz (.lst (.cons (.var 21) Z))) Z))) (.cons (.sR (.bl false)) Z) Z) (.cons (.sR (.cmp .eq (.met hs (.meth 8 18 (.var 1) (.cons (.var 19) (.cons (.var 17) Z)))) (.call 58 (.cons (.fz (.lst (.cons (.var 21) (.cons (.tup (.cons (.str "state") (.cons (.var 18) Z))) Z)))) Z)))) Z))))))))))))))))))))))
def f60 : Df := ⟨"_law_right", ["dice", "right", "odd", "net", "no_net", "other", "no_other", "first", "second", "call", "names", "no_names", "some", "no_some", "unlike", "many", "no_many", "state", "no_state", "cell", "no_cell", "third"], 1, b60, true, none⟩
def b61 : A := (.cons (.sFor (.gn 1) (.iter .rng1 (.cons (.fz (.bi .max2 (.cons (.int 1) (.cons (.fz (.bi .min2 (.cons (.int 8) (.cons (.fz (.bi .len (.cons (.var 0) Z))) Z)))) Z)))) Z)) (.cons (.sA 2 (.call 54 (.cons (.var 0) (.cons (.var 1) Z)))) (.cons (.sFor (.gn 3) (.iter .rng1 (.cons (.int 3) Z)) (.cons (.sIf (.or (.not (.call 60 (.cons (.var 2) Z))) (.one (.not (.call 59 (.cons (.var 2) Z))))) (.cons (.sR (.bl false)) Z) Z) Z)) Z))) (.cons (.sA 4 (.fz (.call 15 (.cons (.fz (.bin .mul (.tup (.cons (.tup (.cons (.tup Z) (.cons (.tup (.cons (.int 1) Z)) Z))) Z)) (.int 6))) Z)))) (.cons (.sA 5 (.lst Z)) (.cons (.sFor (.gn 6) (.itE (.tup (.cons (.fnm 45) (.cons (.fnm 51) Z)))) (.cons (.sE (.app (.var 5) (.fz (.met hs (.calv 6 (.cons (.var 4) Z)))))) Z)) (.cons (.sFor (.gn 6) (.itE (.tup (.cons (.fnm 48) (.cons (.fnm 49) Z)))) (.cons (.sE (.app (.var 5) (.fz (.met hs (.calv 6 (.cons (.var 4) (.cons (.var 4) Z))))))) Z)) (.cons (.sE (.app (.var 5) (.fz (.met hs (.call 50 (.cons (.var 4) (.cons (.var 4) (.cons .non Z)))))))) (.cons (.sR (.cmp .eq (.var 5) (.bin .mul (.lst (.cons (.str "many 5") Z)) (.int 5)))) Z)))))))
def f61 : Df := ⟨"law", ["script", "spot", "dice", "turn", "six", "told", "call"], 1, b61, true, none⟩
def Ds : List Df := [f0, f1, f2, f3, f4, f5, f6, f7, f8, f9, f10, f11, f12, f13, f14, f15, f16, f17, f18, f19, f20, f21, f22, f23, f24, f25, f26, f27, f28, f29, f30, f31, f32, f33, f34, f35, f36, f37, f38, f39, f40, f41, f42, f43, f44, f45, f46, f47, f48, f49, f50, f51, f52, f53, f54, f55, f56, f57, f58, f59, f60, f61]
def kx : Kx where
  N := []
  gn := [(("is_integer" : Str), 0), (("is_within" : Str), 1), (("are_bits" : Str), 2), (("is_state_of" : Str), 3), (("are_cells_of" : Str), 4), (("count_of" : Str), 5), (("index_in" : Str), 6), (("states_of" : Str), 7), (("require_count" : Str), 8), (("is_rule_in" : Str), 9), (("without" : Str), 10), (("does_matter" : Str), 11), (("lean_in" : Str), 12), (("at_state" : Str), 13), (("are_rules" : Str), 14), (("Net" : Str), 15), (("table_in" : Str), 21), (("net_from" : Str), 22), (("renamed_rule" : Str), 23), (("renamed_rules" : Str), 24), (("switched_rule" : Str), 25), (("switched_rules" : Str), 26), (("sequences" : Str), 27), (("lots_of" : Str), 28), (("turned_rules" : Str), 29), (("least_rules" : Str), 30), (("is_names" : Str), 31), (("is_turning" : Str), 32), (("composed" : Str), 33), (("index_table" : Str), 34), (("require_net" : Str), 35), (("require_own_state" : Str), 36), (("require_own_cell" : Str), 37), (("require_own_cells" : Str), 38), (("require_few" : Str), 39), (("table_of" : Str), 40), (("is_table" : Str), 41), (("net_of_table" : Str), 42), (("renamed" : Str), 43), (("switched" : Str), 44), (("least_net" : Str), 45), (("require_two_few" : Str), 46), (("alike_in" : Str), 47), (("alike_by" : Str), 48), (("alike_paper" : Str), 49), (("is_alike_paper" : Str), 50), (("likenesses" : Str), 51), (("net_behind" : Str), 52), (("net_power" : Str), 53), (("_law_dice" : Str), 54), (("_law_roll" : Str), 55), (("_law_pick" : Str), 56), (("_law_one" : Str), 57), (("_law_first" : Str), 58), (("_law_made_right" : Str), 59), (("_law_right" : Str), 60), (("law" : Str), 61)]
  cs := [(("MOST_HEEDED" : Str), 10), (("LAST_CELL" : Str), 63), (("MAX_CELLS" : Str), 10), (("MOST_LEAST" : Str), 5), (("MOST_TIMES" : Str), 1000000)]
  ss := [(("TURNED" : Str), ("turned" : Str)), (("UNLIKE" : Str), ("unlike" : Str))]
  bn := ["len", "tuple", "list", "all", "int", "abs", "sorted", "max", "min", "isinstance", "bool", "range", "zip", "enumerate", "repr", "set", "str"]
  met := [(("_law_met" : Str), hs)]
  ec := [(("InvalidState" : Str), 1, false), (("InvalidRule" : Str), 2, false), (("InvalidNet" : Str), 3, false), (("InvalidRoom" : Str), 4, false), (("InvalidOperation" : Str), 5, false), (("InvalidCount" : Str), 6, true), (("TooMany" : Str), 7, true)]
  cl := [(("Net" : Str), 8)]
  fl := [(("own_rules" : Str), 8, 0)]
  ms := [(("led_in" : Str), 8, 16), (("led" : Str), 8, 17), (("value" : Str), 8, 18), (("heeds" : Str), 8, 19), (("__len__" : Str), 8, 20)]
  lm := some (8, 20)
abbrev TT (K : PySem.W.Frag) (as cas : List Addr) (ts : List (Addr × Addr × Str)) : Tb := ⟨K, fun i => as[i]?, fun c => cas.getD c 0, fun c => ([none, none, none, none, none, none, some "given", some "limit", none] : List (Option Str)).getD c none, fun _ => False, ts.map fun t => (t.2.1, t.2.2)⟩
theorem c0 : C8.scC f0.N ["value"] (defScope (tp 10)) = true := by decide +kernel
theorem o0 : (chk { kx with N := f0.N } f0.body).b ⟨defScope (tp 10), fun _ => true, f0.top, true⟩ (defBody (tp 10)) = true := by decide +kernel
theorem d0 {T : Tb} {base : Heap} {mg : Str → Option Value} {a : Addr} {oc kV dc pm cd ct : Value} {od an : Option Addr} {sl : Array (Option Value)} (l : T.K.lookup a = some ⟨oc, od, .func (fo "is_integer" "is_integer" (tp 10) kV dc pm an cd ct), sl⟩) (c : PySem.W.codeIn T.K cd "is_integer" = true) (kf : PySem.W.keepIn T.K (.ref a) = true) : DfOk T base mg kx f0 a :=
  ⟨kf, show DfN T base mg kx f0 a from ⟨"is_integer", "is_integer", (tp 10), ["value"], _, _, _, _, _, _, _, _, _, l, c, C8.fnScope_by c0, rfl, (fun_mk l c kf).binds (fun _ _ _ _ _ _ us hl => match us, hl with | [_], _ => rfl), o0, fun h => nomatch (show false = true from h)⟩⟩
theorem c1 : C8.scC f1.N ["value", "low", "most"] (defScope (tp 11)) = true := by decide +kernel
theorem o1 : (chk { kx with N := f1.N } f1.body).b ⟨defScope (tp 11), fun _ => true, f1.top, true⟩ (defBody (tp 11)) = true := by decide +kernel
theorem d1 {T : Tb} {base : Heap} {mg : Str → Option Value} {a : Addr} {oc kV dc pm cd ct : Value} {od an : Option Addr} {sl : Array (Option Value)} (l : T.K.lookup a = some ⟨oc, od, .func (fo "is_within" "is_within" (tp 11) kV dc pm an cd ct), sl⟩) (c : PySem.W.codeIn T.K cd "is_within" = true) (kf : PySem.W.keepIn T.K (.ref a) = true) : DfOk T base mg kx f1 a :=
  ⟨kf, show DfN T base mg kx f1 a from ⟨"is_within", "is_within", (tp 11), ["value", "low", "most"], _, _, _, _, _, _, _, _, _, l, c, C8.fnScope_by c1, rfl, (fun_mk l c kf).binds (fun _ _ _ _ _ _ us hl => match us, hl with | [_, _, _], _ => rfl), o1, fun h => nomatch (show false = true from h)⟩⟩
theorem c2 : C8.scC f2.N ["value"] (defScope (tp 12)) = true := by decide +kernel
theorem o2 : (chk { kx with N := f2.N } f2.body).b ⟨defScope (tp 12), fun _ => true, f2.top, true⟩ (defBody (tp 12)) = true := by decide +kernel
theorem d2 {T : Tb} {base : Heap} {mg : Str → Option Value} {a : Addr} {oc kV dc pm cd ct : Value} {od an : Option Addr} {sl : Array (Option Value)} (l : T.K.lookup a = some ⟨oc, od, .func (fo "are_bits" "are_bits" (tp 12) kV dc pm an cd ct), sl⟩) (c : PySem.W.codeIn T.K cd "are_bits" = true) (kf : PySem.W.keepIn T.K (.ref a) = true) : DfOk T base mg kx f2 a :=
  ⟨kf, show DfN T base mg kx f2 a from ⟨"are_bits", "are_bits", (tp 12), ["value"], _, _, _, _, _, _, _, _, _, l, c, C8.fnScope_by c2, rfl, (fun_mk l c kf).binds (fun _ _ _ _ _ _ us hl => match us, hl with | [_], _ => rfl), o2, fun h => nomatch (show false = true from h)⟩⟩
theorem c3 : C8.scC f3.N ["cells", "value"] (defScope (tp 13)) = true := by decide +kernel
theorem o3 : (chk { kx with N := f3.N } f3.body).b ⟨defScope (tp 13), fun _ => true, f3.top, true⟩ (defBody (tp 13)) = true := by decide +kernel
theorem d3 {T : Tb} {base : Heap} {mg : Str → Option Value} {a : Addr} {oc kV dc pm cd ct : Value} {od an : Option Addr} {sl : Array (Option Value)} (l : T.K.lookup a = some ⟨oc, od, .func (fo "is_state_of" "is_state_of" (tp 13) kV dc pm an cd ct), sl⟩) (c : PySem.W.codeIn T.K cd "is_state_of" = true) (kf : PySem.W.keepIn T.K (.ref a) = true) : DfOk T base mg kx f3 a :=
  ⟨kf, show DfN T base mg kx f3 a from ⟨"is_state_of", "is_state_of", (tp 13), ["cells", "value"], _, _, _, _, _, _, _, _, _, l, c, C8.fnScope_by c3, rfl, (fun_mk l c kf).binds (fun _ _ _ _ _ _ us hl => match us, hl with | [_, _], _ => rfl), o3, fun h => nomatch (show false = true from h)⟩⟩
theorem c4 : C8.scC f4.N ["cells", "value"] (defScope (tp 14)) = true := by decide +kernel
theorem o4 : (chk { kx with N := f4.N } f4.body).b ⟨defScope (tp 14), fun _ => true, f4.top, true⟩ (defBody (tp 14)) = true := by decide +kernel
theorem d4 {T : Tb} {base : Heap} {mg : Str → Option Value} {a : Addr} {oc kV dc pm cd ct : Value} {od an : Option Addr} {sl : Array (Option Value)} (l : T.K.lookup a = some ⟨oc, od, .func (fo "are_cells_of" "are_cells_of" (tp 14) kV dc pm an cd ct), sl⟩) (c : PySem.W.codeIn T.K cd "are_cells_of" = true) (kf : PySem.W.keepIn T.K (.ref a) = true) : DfOk T base mg kx f4 a :=
  ⟨kf, show DfN T base mg kx f4 a from ⟨"are_cells_of", "are_cells_of", (tp 14), ["cells", "value"], _, _, _, _, _, _, _, _, _, l, c, C8.fnScope_by c4, rfl, (fun_mk l c kf).binds (fun _ _ _ _ _ _ us hl => match us, hl with | [_, _], _ => rfl), o4, fun h => nomatch (show false = true from h)⟩⟩
theorem c5 : C8.scC f5.N ["cells"] (defScope (tp 15)) = true := by decide +kernel
theorem o5 : (chk { kx with N := f5.N } f5.body).b ⟨defScope (tp 15), fun _ => true, f5.top, true⟩ (defBody (tp 15)) = true := by decide +kernel
theorem d5 {T : Tb} {base : Heap} {mg : Str → Option Value} {a : Addr} {oc kV dc pm cd ct : Value} {od an : Option Addr} {sl : Array (Option Value)} (l : T.K.lookup a = some ⟨oc, od, .func (fo "count_of" "count_of" (tp 15) kV dc pm an cd ct), sl⟩) (c : PySem.W.codeIn T.K cd "count_of" = true) (kf : PySem.W.keepIn T.K (.ref a) = true) : DfOk T base mg kx f5 a :=
  ⟨kf, show DfN T base mg kx f5 a from ⟨"count_of", "count_of", (tp 15), ["cells"], _, _, _, _, _, _, _, _, _, l, c, C8.fnScope_by c5, rfl, (fun_mk l c kf).binds (fun _ _ _ _ _ _ us hl => match us, hl with | [_], _ => rfl), o5, fun h => nomatch (show false = true from h)⟩⟩
theorem c6 : C8.scC f6.N ["state"] (defScope (tp 16)) = true := by decide +kernel
theorem o6 : (chk { kx with N := f6.N } f6.body).b ⟨defScope (tp 16), fun _ => true, f6.top, true⟩ (defBody (tp 16)) = true := by decide +kernel
theorem d6 {T : Tb} {base : Heap} {mg : Str → Option Value} {a : Addr} {oc kV dc pm cd ct : Value} {od an : Option Addr} {sl : Array (Option Value)} (l : T.K.lookup a = some ⟨oc, od, .func (fo "index_in" "index_in" (tp 16) kV dc pm an cd ct), sl⟩) (c : PySem.W.codeIn T.K cd "index_in" = true) (kf : PySem.W.keepIn T.K (.ref a) = true) : DfOk T base mg kx f6 a :=
  ⟨kf, show DfN T base mg kx f6 a from ⟨"index_in", "index_in", (tp 16), ["state"], _, _, _, _, _, _, _, _, _, l, c, C8.fnScope_by c6, rfl, (fun_mk l c kf).binds (fun _ _ _ _ _ _ us hl => match us, hl with | [_], _ => rfl), o6, fun h => nomatch (show false = true from h)⟩⟩
theorem c7 : C8.scC f7.N ["cells"] (defScope (tp 17)) = true := by decide +kernel
theorem o7 : (chk { kx with N := f7.N } f7.body).b ⟨defScope (tp 17), fun _ => true, f7.top, true⟩ (defBody (tp 17)) = true := by decide +kernel
theorem d7 {T : Tb} {base : Heap} {mg : Str → Option Value} {a : Addr} {oc kV dc pm cd ct : Value} {od an : Option Addr} {sl : Array (Option Value)} (l : T.K.lookup a = some ⟨oc, od, .func (fo "states_of" "states_of" (tp 17) kV dc pm an cd ct), sl⟩) (c : PySem.W.codeIn T.K cd "states_of" = true) (kf : PySem.W.keepIn T.K (.ref a) = true) : DfOk T base mg kx f7 a :=
  ⟨kf, show DfN T base mg kx f7 a from ⟨"states_of", "states_of", (tp 17), ["cells"], _, _, _, _, _, _, _, _, _, l, c, C8.fnScope_by c7, rfl, (fun_mk l c kf).binds (fun _ _ _ _ _ _ us hl => match us, hl with | [_], _ => rfl), o7, fun h => nomatch (show false = true from h)⟩⟩
theorem c8 : C8.scC f8.N ["value", "low", "most"] (defScope (tp 18)) = true := by decide +kernel
theorem o8 : (chk { kx with N := f8.N } f8.body).b ⟨defScope (tp 18), fun _ => true, f8.top, true⟩ (defBody (tp 18)) = true := by decide +kernel
theorem d8 {T : Tb} {base : Heap} {mg : Str → Option Value} {a : Addr} {oc kV dc pm cd ct : Value} {od an : Option Addr} {sl : Array (Option Value)} (l : T.K.lookup a = some ⟨oc, od, .func (fo "require_count" "require_count" (tp 18) kV dc pm an cd ct), sl⟩) (c : PySem.W.codeIn T.K cd "require_count" = true) (kf : PySem.W.keepIn T.K (.ref a) = true) : DfOk T base mg kx f8 a :=
  ⟨kf, show DfN T base mg kx f8 a from ⟨"require_count", "require_count", (tp 18), ["value", "low", "most"], _, _, _, _, _, _, _, _, _, l, c, C8.fnScope_by c8, rfl, (fun_mk l c kf).binds (fun _ _ _ _ _ _ us hl => match us, hl with | [_, _, _], _ => rfl), o8, fun h => nomatch (show false = true from h)⟩⟩
theorem c9 : C8.scC f9.N ["value"] (defScope (tp 22)) = true := by decide +kernel
theorem o9 : (chk { kx with N := f9.N } f9.body).b ⟨defScope (tp 22), fun _ => true, f9.top, true⟩ (defBody (tp 22)) = true := by decide +kernel
theorem d9 {T : Tb} {base : Heap} {mg : Str → Option Value} {a : Addr} {oc kV dc pm cd ct : Value} {od an : Option Addr} {sl : Array (Option Value)} (l : T.K.lookup a = some ⟨oc, od, .func (fo "is_rule_in" "is_rule_in" (tp 22) kV dc pm an cd ct), sl⟩) (c : PySem.W.codeIn T.K cd "is_rule_in" = true) (kf : PySem.W.keepIn T.K (.ref a) = true) : DfOk T base mg kx f9 a :=
  ⟨kf, show DfN T base mg kx f9 a from ⟨"is_rule_in", "is_rule_in", (tp 22), ["value"], _, _, _, _, _, _, _, _, _, l, c, C8.fnScope_by c9, rfl, (fun_mk l c kf).binds (fun _ _ _ _ _ _ us hl => match us, hl with | [_], _ => rfl), o9, fun h => nomatch (show false = true from h)⟩⟩
theorem c10 : C8.scC f10.N ["rule", "place", "bit"] (defScope (tp 23)) = true := by decide +kernel
theorem o10 : (chk { kx with N := f10.N } f10.body).b ⟨defScope (tp 23), fun _ => true, f10.top, true⟩ (defBody (tp 23)) = true := by decide +kernel
theorem d10 {T : Tb} {base : Heap} {mg : Str → Option Value} {a : Addr} {oc kV dc pm cd ct : Value} {od an : Option Addr} {sl : Array (Option Value)} (l : T.K.lookup a = some ⟨oc, od, .func (fo "without" "without" (tp 23) kV dc pm an cd ct), sl⟩) (c : PySem.W.codeIn T.K cd "without" = true) (kf : PySem.W.keepIn T.K (.ref a) = true) : DfOk T base mg kx f10 a :=
  ⟨kf, show DfN T base mg kx f10 a from ⟨"without", "without", (tp 23), ["rule", "place", "bit"], _, _, _, _, _, _, _, _, _, l, c, C8.fnScope_by c10, rfl, (fun_mk l c kf).binds (fun _ _ _ _ _ _ us hl => match us, hl with | [_, _, _], _ => rfl), o10, fun h => nomatch (show false = true from h)⟩⟩
theorem c11 : C8.scC f11.N ["rule", "place"] (defScope (tp 24)) = true := by decide +kernel
theorem o11 : (chk { kx with N := f11.N } f11.body).b ⟨defScope (tp 24), fun _ => true, f11.top, true⟩ (defBody (tp 24)) = true := by decide +kernel
theorem d11 {T : Tb} {base : Heap} {mg : Str → Option Value} {a : Addr} {oc kV dc pm cd ct : Value} {od an : Option Addr} {sl : Array (Option Value)} (l : T.K.lookup a = some ⟨oc, od, .func (fo "does_matter" "does_matter" (tp 24) kV dc pm an cd ct), sl⟩) (c : PySem.W.codeIn T.K cd "does_matter" = true) (kf : PySem.W.keepIn T.K (.ref a) = true) : DfOk T base mg kx f11 a :=
  ⟨kf, show DfN T base mg kx f11 a from ⟨"does_matter", "does_matter", (tp 24), ["rule", "place"], _, _, _, _, _, _, _, _, _, l, c, C8.fnScope_by c11, rfl, (fun_mk l c kf).binds (fun _ _ _ _ _ _ us hl => match us, hl with | [_, _], _ => rfl), o11, fun h => nomatch (show false = true from h)⟩⟩
theorem c12 : C8.scC f12.N ["rule"] (defScope (tp 25)) = true := by decide +kernel
theorem o12 : (chk { kx with N := f12.N } f12.body).b ⟨defScope (tp 25), fun _ => true, f12.top, true⟩ (defBody (tp 25)) = true := by decide +kernel
theorem d12 {T : Tb} {base : Heap} {mg : Str → Option Value} {a : Addr} {oc kV dc pm cd ct : Value} {od an : Option Addr} {sl : Array (Option Value)} (l : T.K.lookup a = some ⟨oc, od, .func (fo "lean_in" "lean_in" (tp 25) kV dc pm an cd ct), sl⟩) (c : PySem.W.codeIn T.K cd "lean_in" = true) (kf : PySem.W.keepIn T.K (.ref a) = true) : DfOk T base mg kx f12 a :=
  ⟨kf, show DfN T base mg kx f12 a from ⟨"lean_in", "lean_in", (tp 25), ["rule"], _, _, _, _, _, _, _, _, _, l, c, C8.fnScope_by c12, rfl, (fun_mk l c kf).binds (fun _ _ _ _ _ _ us hl => match us, hl with | [_], _ => rfl), o12, fun h => nomatch (show false = true from h)⟩⟩
theorem c13 : C8.scC f13.N ["rule", "state"] (defScope (tp 26)) = true := by decide +kernel
theorem o13 : (chk { kx with N := f13.N } f13.body).b ⟨defScope (tp 26), fun _ => true, f13.top, true⟩ (defBody (tp 26)) = true := by decide +kernel
theorem d13 {T : Tb} {base : Heap} {mg : Str → Option Value} {a : Addr} {oc kV dc pm cd ct : Value} {od an : Option Addr} {sl : Array (Option Value)} (l : T.K.lookup a = some ⟨oc, od, .func (fo "at_state" "at_state" (tp 26) kV dc pm an cd ct), sl⟩) (c : PySem.W.codeIn T.K cd "at_state" = true) (kf : PySem.W.keepIn T.K (.ref a) = true) : DfOk T base mg kx f13 a :=
  ⟨kf, show DfN T base mg kx f13 a from ⟨"at_state", "at_state", (tp 26), ["rule", "state"], _, _, _, _, _, _, _, _, _, l, c, C8.fnScope_by c13, rfl, (fun_mk l c kf).binds (fun _ _ _ _ _ _ us hl => match us, hl with | [_, _], _ => rfl), o13, fun h => nomatch (show false = true from h)⟩⟩
theorem c14 : C8.scC f14.N ["value"] (defScope (tp 33)) = true := by decide +kernel
theorem o14 : (chk { kx with N := f14.N } f14.body).b ⟨defScope (tp 33), fun _ => true, f14.top, true⟩ (defBody (tp 33)) = true := by decide +kernel
theorem d14 {T : Tb} {base : Heap} {mg : Str → Option Value} {a : Addr} {oc kV dc pm cd ct : Value} {od an : Option Addr} {sl : Array (Option Value)} (l : T.K.lookup a = some ⟨oc, od, .func (fo "are_rules" "are_rules" (tp 33) kV dc pm an cd ct), sl⟩) (c : PySem.W.codeIn T.K cd "are_rules" = true) (kf : PySem.W.keepIn T.K (.ref a) = true) : DfOk T base mg kx f14 a :=
  ⟨kf, show DfN T base mg kx f14 a from ⟨"are_rules", "are_rules", (tp 33), ["value"], _, _, _, _, _, _, _, _, _, l, c, C8.fnScope_by c14, rfl, (fun_mk l c kf).binds (fun _ _ _ _ _ _ us hl => match us, hl with | [_], _ => rfl), o14, fun h => nomatch (show false = true from h)⟩⟩
theorem c15 : C8.scC f15.N ["self", "rules"] (defScope (cb 34 1)) = true := by decide +kernel
theorem o15 : ChkI { kx with N := f15.N } ⟨defScope (cb 34 1), fun _ => true, false, true⟩ "self" "own_rules" f15.body (defBody (cb 34 1)) := by
  exact .guard (by decide +kernel) (by decide +kernel) (.last (by decide +kernel) (by decide +kernel))
theorem d15 {T : Tb} {base : Heap} {mg : Str → Option Value} {C fI p : Addr} {oc kV dc pm cd ct : Value} {od an : Option Addr} {sl : Array (Option Value)} (hC : T.ca 8 = C) (l : T.K.lookup fI = some ⟨oc, od, .func (fo "__init__" "Net.__init__" (cb 34 1) kV dc pm an cd ct), sl⟩) (c : PySem.W.codeIn T.K cd "Net.__init__" = true) (kf : PySem.W.keepIn T.K (.ref fI) = true) (kC : PySem.W.keepIn T.K (.ref C) = true) (h1 : mkB T.K C fI = true) (h2 : sclB T.K C = true) (h3 : slotB T.K C p "own_rules" 0 = true) : DfOk T base mg kx f15 C :=
  ⟨kC, show IniOk T kx f15 8 C from ⟨hC, fI, "__init__", "Net.__init__", "own_rules", "self", (cb 34 1), ["rules"], _, _, _, _, _, _, _, _, _, p, mk_ok h1, l, c, C8.fnScope_by c15, rfl, (fun_mk l c kf).binds (fun _ _ _ _ _ _ us hl => match us, hl with | [_, _], _ => rfl), o15, scl_ok h2, slot_ok h3, rfl, .inl (by decide +kernel), by decide +kernel⟩⟩
theorem c16 : C8.scC f16.N ["self", "state"] (defScope (cb 34 3)) = true := by decide +kernel
theorem o16 : (chk { kx with N := f16.N } f16.body).b ⟨defScope (cb 34 3), fun _ => true, f16.top, true⟩ (defBody (cb 34 3)) = true := by decide +kernel
theorem d16 {T : Tb} {base : Heap} {mg : Str → Option Value} {a : Addr} {oc kV dc pm cd ct : Value} {od an : Option Addr} {sl : Array (Option Value)} (l : T.K.lookup a = some ⟨oc, od, .func (fo "led_in" "Net.led_in" (cb 34 3) kV dc pm an cd ct), sl⟩) (c : PySem.W.codeIn T.K cd "Net.led_in" = true) (kf : PySem.W.keepIn T.K (.ref a) = true) : DfOk T base mg kx f16 a :=
  ⟨kf, show DfN T base mg kx f16 a from ⟨"led_in", "Net.led_in", (cb 34 3), ["self", "state"], _, _, _, _, _, _, _, _, _, l, c, C8.fnScope_by c16, rfl, (fun_mk l c kf).binds (fun _ _ _ _ _ _ us hl => match us, hl with | [_, _], _ => rfl), o16, fun h => nomatch (show false = true from h)⟩⟩
theorem c17 : C8.scC f17.N ["self", "state"] (defScope (cb 34 4)) = true := by decide +kernel
theorem o17 : (chk { kx with N := f17.N } f17.body).b ⟨defScope (cb 34 4), fun _ => true, f17.top, true⟩ (defBody (cb 34 4)) = true := by decide +kernel
theorem d17 {T : Tb} {base : Heap} {mg : Str → Option Value} {a : Addr} {oc kV dc pm cd ct : Value} {od an : Option Addr} {sl : Array (Option Value)} (l : T.K.lookup a = some ⟨oc, od, .func (fo "led" "Net.led" (cb 34 4) kV dc pm an cd ct), sl⟩) (c : PySem.W.codeIn T.K cd "Net.led" = true) (kf : PySem.W.keepIn T.K (.ref a) = true) : DfOk T base mg kx f17 a :=
  ⟨kf, show DfN T base mg kx f17 a from ⟨"led", "Net.led", (cb 34 4), ["self", "state"], _, _, _, _, _, _, _, _, _, l, c, C8.fnScope_by c17, rfl, (fun_mk l c kf).binds (fun _ _ _ _ _ _ us hl => match us, hl with | [_, _], _ => rfl), o17, fun h => nomatch (show false = true from h)⟩⟩
theorem c18 : C8.scC f18.N ["self", "cell", "state"] (defScope (cb 34 5)) = true := by decide +kernel
theorem o18 : (chk { kx with N := f18.N } f18.body).b ⟨defScope (cb 34 5), fun _ => true, f18.top, true⟩ (defBody (cb 34 5)) = true := by decide +kernel
theorem d18 {T : Tb} {base : Heap} {mg : Str → Option Value} {a : Addr} {oc kV dc pm cd ct : Value} {od an : Option Addr} {sl : Array (Option Value)} (l : T.K.lookup a = some ⟨oc, od, .func (fo "value" "Net.value" (cb 34 5) kV dc pm an cd ct), sl⟩) (c : PySem.W.codeIn T.K cd "Net.value" = true) (kf : PySem.W.keepIn T.K (.ref a) = true) : DfOk T base mg kx f18 a :=
  ⟨kf, show DfN T base mg kx f18 a from ⟨"value", "Net.value", (cb 34 5), ["self", "cell", "state"], _, _, _, _, _, _, _, _, _, l, c, C8.fnScope_by c18, rfl, (fun_mk l c kf).binds (fun _ _ _ _ _ _ us hl => match us, hl with | [_, _, _], _ => rfl), o18, fun h => nomatch (show false = true from h)⟩⟩
theorem c19 : C8.scC f19.N ["self", "cell"] (defScope (cb 34 6)) = true := by decide +kernel
theorem o19 : (chk { kx with N := f19.N } f19.body).b ⟨defScope (cb 34 6), fun _ => true, f19.top, true⟩ (defBody (cb 34 6)) = true := by decide +kernel
theorem d19 {T : Tb} {base : Heap} {mg : Str → Option Value} {a : Addr} {oc kV dc pm cd ct : Value} {od an : Option Addr} {sl : Array (Option Value)} (l : T.K.lookup a = some ⟨oc, od, .func (fo "heeds" "Net.heeds" (cb 34 6) kV dc pm an cd ct), sl⟩) (c : PySem.W.codeIn T.K cd "Net.heeds" = true) (kf : PySem.W.keepIn T.K (.ref a) = true) : DfOk T base mg kx f19 a :=
  ⟨kf, show DfN T base mg kx f19 a from ⟨"heeds", "Net.heeds", (cb 34 6), ["self", "cell"], _, _, _, _, _, _, _, _, _, l, c, C8.fnScope_by c19, rfl, (fun_mk l c kf).binds (fun _ _ _ _ _ _ us hl => match us, hl with | [_, _], _ => rfl), o19, fun h => nomatch (show false = true from h)⟩⟩
theorem c20 : C8.scC f20.N ["self"] (defScope (cb 34 7)) = true := by decide +kernel
theorem o20 : (chk { kx with N := f20.N } f20.body).b ⟨defScope (cb 34 7), fun _ => true, f20.top, true⟩ (defBody (cb 34 7)) = true := by decide +kernel
theorem d20 {T : Tb} {base : Heap} {mg : Str → Option Value} {a : Addr} {oc kV dc pm cd ct : Value} {od an : Option Addr} {sl : Array (Option Value)} (l : T.K.lookup a = some ⟨oc, od, .func (fo "__len__" "Net.__len__" (cb 34 7) kV dc pm an cd ct), sl⟩) (c : PySem.W.codeIn T.K cd "Net.__len__" = true) (kf : PySem.W.keepIn T.K (.ref a) = true) : DfOk T base mg kx f20 a :=
  ⟨kf, show DfN T base mg kx f20 a from ⟨"__len__", "Net.__len__", (cb 34 7), ["self"], _, _, _, _, _, _, _, _, _, l, c, C8.fnScope_by c20, rfl, (fun_mk l c kf).binds (fun _ _ _ _ _ _ us hl => match us, hl with | [_], _ => rfl), o20, fun h => nomatch (show false = true from h)⟩⟩
theorem c21 : C8.scC f21.N ["net"] (defScope (tp 35)) = true := by decide +kernel
theorem o21 : (chk { kx with N := f21.N } f21.body).b ⟨defScope (tp 35), fun _ => true, f21.top, true⟩ (defBody (tp 35)) = true := by decide +kernel
theorem d21 {T : Tb} {base : Heap} {mg : Str → Option Value} {a : Addr} {oc kV dc pm cd ct : Value} {od an : Option Addr} {sl : Array (Option Value)} (l : T.K.lookup a = some ⟨oc, od, .func (fo "table_in" "table_in" (tp 35) kV dc pm an cd ct), sl⟩) (c : PySem.W.codeIn T.K cd "table_in" = true) (kf : PySem.W.keepIn T.K (.ref a) = true) : DfOk T base mg kx f21 a :=
  ⟨kf, show DfN T base mg kx f21 a from ⟨"table_in", "table_in", (tp 35), ["net"], _, _, _, _, _, _, _, _, _, l, c, C8.fnScope_by c21, rfl, (fun_mk l c kf).binds (fun _ _ _ _ _ _ us hl => match us, hl with | [_], _ => rfl), o21, fun h => nomatch (show false = true from h)⟩⟩
theorem c22 : C8.scC f22.N ["table"] (defScope (tp 36)) = true := by decide +kernel
theorem o22 : (chk { kx with N := f22.N } f22.body).b ⟨defScope (tp 36), fun _ => true, f22.top, true⟩ (defBody (tp 36)) = true := by decide +kernel
theorem d22 {T : Tb} {base : Heap} {mg : Str → Option Value} {a : Addr} {oc kV dc pm cd ct : Value} {od an : Option Addr} {sl : Array (Option Value)} (l : T.K.lookup a = some ⟨oc, od, .func (fo "net_from" "net_from" (tp 36) kV dc pm an cd ct), sl⟩) (c : PySem.W.codeIn T.K cd "net_from" = true) (kf : PySem.W.keepIn T.K (.ref a) = true) : DfOk T base mg kx f22 a :=
  ⟨kf, show DfN T base mg kx f22 a from ⟨"net_from", "net_from", (tp 36), ["table"], _, _, _, _, _, _, _, _, _, l, c, C8.fnScope_by c22, rfl, (fun_mk l c kf).binds (fun _ _ _ _ _ _ us hl => match us, hl with | [_], _ => rfl), o22, fun h => nomatch (show false = true from h)⟩⟩
theorem c23 : C8.scC f23.N ["rule", "names"] (defScope (tp 37)) = true := by decide +kernel
theorem o23 : (chk { kx with N := f23.N } f23.body).b ⟨defScope (tp 37), fun _ => true, f23.top, true⟩ (defBody (tp 37)) = true := by decide +kernel
theorem d23 {T : Tb} {base : Heap} {mg : Str → Option Value} {a : Addr} {oc kV dc pm cd ct : Value} {od an : Option Addr} {sl : Array (Option Value)} (l : T.K.lookup a = some ⟨oc, od, .func (fo "renamed_rule" "renamed_rule" (tp 37) kV dc pm an cd ct), sl⟩) (c : PySem.W.codeIn T.K cd "renamed_rule" = true) (kf : PySem.W.keepIn T.K (.ref a) = true) : DfOk T base mg kx f23 a :=
  ⟨kf, show DfN T base mg kx f23 a from ⟨"renamed_rule", "renamed_rule", (tp 37), ["rule", "names"], _, _, _, _, _, _, _, _, _, l, c, C8.fnScope_by c23, rfl, (fun_mk l c kf).binds (fun _ _ _ _ _ _ us hl => match us, hl with | [_, _], _ => rfl), o23, fun h => nomatch (show false = true from h)⟩⟩
theorem c24 : C8.scC f24.N ["rules", "names"] (defScope (tp 38)) = true := by decide +kernel
theorem o24 : (chk { kx with N := f24.N } f24.body).b ⟨defScope (tp 38), fun _ => true, f24.top, true⟩ (defBody (tp 38)) = true := by decide +kernel
theorem d24 {T : Tb} {base : Heap} {mg : Str → Option Value} {a : Addr} {oc kV dc pm cd ct : Value} {od an : Option Addr} {sl : Array (Option Value)} (l : T.K.lookup a = some ⟨oc, od, .func (fo "renamed_rules" "renamed_rules" (tp 38) kV dc pm an cd ct), sl⟩) (c : PySem.W.codeIn T.K cd "renamed_rules" = true) (kf : PySem.W.keepIn T.K (.ref a) = true) : DfOk T base mg kx f24 a :=
  ⟨kf, show DfN T base mg kx f24 a from ⟨"renamed_rules", "renamed_rules", (tp 38), ["rules", "names"], _, _, _, _, _, _, _, _, _, l, c, C8.fnScope_by c24, rfl, (fun_mk l c kf).binds (fun _ _ _ _ _ _ us hl => match us, hl with | [_, _], _ => rfl), o24, fun h => nomatch (show false = true from h)⟩⟩
theorem c25 : C8.scC f25.N ["rule", "cells", "side"] (defScope (tp 39)) = true := by decide +kernel
theorem o25 : (chk { kx with N := f25.N } f25.body).b ⟨defScope (tp 39), fun _ => true, f25.top, true⟩ (defBody (tp 39)) = true := by decide +kernel
theorem d25 {T : Tb} {base : Heap} {mg : Str → Option Value} {a : Addr} {oc kV dc pm cd ct : Value} {od an : Option Addr} {sl : Array (Option Value)} (l : T.K.lookup a = some ⟨oc, od, .func (fo "switched_rule" "switched_rule" (tp 39) kV dc pm an cd ct), sl⟩) (c : PySem.W.codeIn T.K cd "switched_rule" = true) (kf : PySem.W.keepIn T.K (.ref a) = true) : DfOk T base mg kx f25 a :=
  ⟨kf, show DfN T base mg kx f25 a from ⟨"switched_rule", "switched_rule", (tp 39), ["rule", "cells", "side"], _, _, _, _, _, _, _, _, _, l, c, C8.fnScope_by c25, rfl, (fun_mk l c kf).binds (fun _ _ _ _ _ _ us hl => match us, hl with | [_, _, _], _ => rfl), o25, fun h => nomatch (show false = true from h)⟩⟩
theorem c26 : C8.scC f26.N ["rules", "cells"] (defScope (tp 40)) = true := by decide +kernel
theorem o26 : (chk { kx with N := f26.N } f26.body).b ⟨defScope (tp 40), fun _ => true, f26.top, true⟩ (defBody (tp 40)) = true := by decide +kernel
theorem d26 {T : Tb} {base : Heap} {mg : Str → Option Value} {a : Addr} {oc kV dc pm cd ct : Value} {od an : Option Addr} {sl : Array (Option Value)} (l : T.K.lookup a = some ⟨oc, od, .func (fo "switched_rules" "switched_rules" (tp 40) kV dc pm an cd ct), sl⟩) (c : PySem.W.codeIn T.K cd "switched_rules" = true) (kf : PySem.W.keepIn T.K (.ref a) = true) : DfOk T base mg kx f26 a :=
  ⟨kf, show DfN T base mg kx f26 a from ⟨"switched_rules", "switched_rules", (tp 40), ["rules", "cells"], _, _, _, _, _, _, _, _, _, l, c, C8.fnScope_by c26, rfl, (fun_mk l c kf).binds (fun _ _ _ _ _ _ us hl => match us, hl with | [_, _], _ => rfl), o26, fun h => nomatch (show false = true from h)⟩⟩
theorem c27 : C8.scC f27.N ["items"] (defScope (tp 41)) = true := by decide +kernel
theorem o27 : (chk { kx with N := f27.N } f27.body).b ⟨defScope (tp 41), fun _ => true, f27.top, true⟩ (defBody (tp 41)) = true := by decide +kernel
theorem d27 {T : Tb} {base : Heap} {mg : Str → Option Value} {a : Addr} {oc kV dc pm cd ct : Value} {od an : Option Addr} {sl : Array (Option Value)} (l : T.K.lookup a = some ⟨oc, od, .func (fo "sequences" "sequences" (tp 41) kV dc pm an cd ct), sl⟩) (c : PySem.W.codeIn T.K cd "sequences" = true) (kf : PySem.W.keepIn T.K (.ref a) = true) : DfOk T base mg kx f27 a :=
  ⟨kf, show DfN T base mg kx f27 a from ⟨"sequences", "sequences", (tp 41), ["items"], _, _, _, _, _, _, _, _, _, l, c, C8.fnScope_by c27, rfl, (fun_mk l c kf).binds (fun _ _ _ _ _ _ us hl => match us, hl with | [_], _ => rfl), o27, fun h => nomatch (show false = true from h)⟩⟩
theorem c28 : C8.scC f28.N ["cells"] (defScope (tp 42)) = true := by decide +kernel
theorem o28 : (chk { kx with N := f28.N } f28.body).b ⟨defScope (tp 42), fun _ => true, f28.top, true⟩ (defBody (tp 42)) = true := by decide +kernel
theorem d28 {T : Tb} {base : Heap} {mg : Str → Option Value} {a : Addr} {oc kV dc pm cd ct : Value} {od an : Option Addr} {sl : Array (Option Value)} (l : T.K.lookup a = some ⟨oc, od, .func (fo "lots_of" "lots_of" (tp 42) kV dc pm an cd ct), sl⟩) (c : PySem.W.codeIn T.K cd "lots_of" = true) (kf : PySem.W.keepIn T.K (.ref a) = true) : DfOk T base mg kx f28 a :=
  ⟨kf, show DfN T base mg kx f28 a from ⟨"lots_of", "lots_of", (tp 42), ["cells"], _, _, _, _, _, _, _, _, _, l, c, C8.fnScope_by c28, rfl, (fun_mk l c kf).binds (fun _ _ _ _ _ _ us hl => match us, hl with | [_], _ => rfl), o28, fun h => nomatch (show false = true from h)⟩⟩
theorem c29 : C8.scC f29.N ["rules"] (defScope (tp 43)) = true := by decide +kernel
theorem o29 : (chk { kx with N := f29.N } f29.body).b ⟨defScope (tp 43), fun _ => true, f29.top, true⟩ (defBody (tp 43)) = true := by decide +kernel
theorem d29 {T : Tb} {base : Heap} {mg : Str → Option Value} {a : Addr} {oc kV dc pm cd ct : Value} {od an : Option Addr} {sl : Array (Option Value)} (l : T.K.lookup a = some ⟨oc, od, .func (fo "turned_rules" "turned_rules" (tp 43) kV dc pm an cd ct), sl⟩) (c : PySem.W.codeIn T.K cd "turned_rules" = true) (kf : PySem.W.keepIn T.K (.ref a) = true) : DfOk T base mg kx f29 a :=
  ⟨kf, show DfN T base mg kx f29 a from ⟨"turned_rules", "turned_rules", (tp 43), ["rules"], _, _, _, _, _, _, _, _, _, l, c, C8.fnScope_by c29, rfl, (fun_mk l c kf).binds (fun _ _ _ _ _ _ us hl => match us, hl with | [_], _ => rfl), o29, fun h => nomatch (show false = true from h)⟩⟩
theorem c30 : C8.scC f30.N ["net"] (defScope (tp 44)) = true := by decide +kernel
theorem o30 : (chk { kx with N := f30.N } f30.body).b ⟨defScope (tp 44), fun _ => true, f30.top, true⟩ (defBody (tp 44)) = true := by decide +kernel
theorem d30 {T : Tb} {base : Heap} {mg : Str → Option Value} {a : Addr} {oc kV dc pm cd ct : Value} {od an : Option Addr} {sl : Array (Option Value)} (l : T.K.lookup a = some ⟨oc, od, .func (fo "least_rules" "least_rules" (tp 44) kV dc pm an cd ct), sl⟩) (c : PySem.W.codeIn T.K cd "least_rules" = true) (kf : PySem.W.keepIn T.K (.ref a) = true) : DfOk T base mg kx f30 a :=
  ⟨kf, show DfN T base mg kx f30 a from ⟨"least_rules", "least_rules", (tp 44), ["net"], _, _, _, _, _, _, _, _, _, l, c, C8.fnScope_by c30, rfl, (fun_mk l c kf).binds (fun _ _ _ _ _ _ us hl => match us, hl with | [_], _ => rfl), o30, fun h => nomatch (show false = true from h)⟩⟩
theorem c31 : C8.scC f31.N ["cells", "value"] (defScope (tp 45)) = true := by decide +kernel
theorem o31 : (chk { kx with N := f31.N } f31.body).b ⟨defScope (tp 45), fun _ => true, f31.top, true⟩ (defBody (tp 45)) = true := by decide +kernel
theorem d31 {T : Tb} {base : Heap} {mg : Str → Option Value} {a : Addr} {oc kV dc pm cd ct : Value} {od an : Option Addr} {sl : Array (Option Value)} (l : T.K.lookup a = some ⟨oc, od, .func (fo "is_names" "is_names" (tp 45) kV dc pm an cd ct), sl⟩) (c : PySem.W.codeIn T.K cd "is_names" = true) (kf : PySem.W.keepIn T.K (.ref a) = true) : DfOk T base mg kx f31 a :=
  ⟨kf, show DfN T base mg kx f31 a from ⟨"is_names", "is_names", (tp 45), ["cells", "value"], _, _, _, _, _, _, _, _, _, l, c, C8.fnScope_by c31, rfl, (fun_mk l c kf).binds (fun _ _ _ _ _ _ us hl => match us, hl with | [_, _], _ => rfl), o31, fun h => nomatch (show false = true from h)⟩⟩
theorem c32 : C8.scC f32.N ["net", "other", "names", "cells"] (defScope (tp 46)) = true := by decide +kernel
theorem o32 : (chk { kx with N := f32.N } f32.body).b ⟨defScope (tp 46), fun _ => true, f32.top, true⟩ (defBody (tp 46)) = true := by decide +kernel
theorem d32 {T : Tb} {base : Heap} {mg : Str → Option Value} {a : Addr} {oc kV dc pm cd ct : Value} {od an : Option Addr} {sl : Array (Option Value)} (l : T.K.lookup a = some ⟨oc, od, .func (fo "is_turning" "is_turning" (tp 46) kV dc pm an cd ct), sl⟩) (c : PySem.W.codeIn T.K cd "is_turning" = true) (kf : PySem.W.keepIn T.K (.ref a) = true) : DfOk T base mg kx f32 a :=
  ⟨kf, show DfN T base mg kx f32 a from ⟨"is_turning", "is_turning", (tp 46), ["net", "other", "names", "cells"], _, _, _, _, _, _, _, _, _, l, c, C8.fnScope_by c32, rfl, (fun_mk l c kf).binds (fun _ _ _ _ _ _ us hl => match us, hl with | [_, _, _, _], _ => rfl), o32, fun h => nomatch (show false = true from h)⟩⟩
theorem c33 : C8.scC f33.N ["one", "other"] (defScope (tp 47)) = true := by decide +kernel
theorem o33 : (chk { kx with N := f33.N } f33.body).b ⟨defScope (tp 47), fun _ => true, f33.top, true⟩ (defBody (tp 47)) = true := by decide +kernel
theorem d33 {T : Tb} {base : Heap} {mg : Str → Option Value} {a : Addr} {oc kV dc pm cd ct : Value} {od an : Option Addr} {sl : Array (Option Value)} (l : T.K.lookup a = some ⟨oc, od, .func (fo "composed" "composed" (tp 47) kV dc pm an cd ct), sl⟩) (c : PySem.W.codeIn T.K cd "composed" = true) (kf : PySem.W.keepIn T.K (.ref a) = true) : DfOk T base mg kx f33 a :=
  ⟨kf, show DfN T base mg kx f33 a from ⟨"composed", "composed", (tp 47), ["one", "other"], _, _, _, _, _, _, _, _, _, l, c, C8.fnScope_by c33, rfl, (fun_mk l c kf).binds (fun _ _ _ _ _ _ us hl => match us, hl with | [_, _], _ => rfl), o33, fun h => nomatch (show false = true from h)⟩⟩
theorem c34 : C8.scC f34.N ["net"] (defScope (tp 48)) = true := by decide +kernel
theorem o34 : (chk { kx with N := f34.N } f34.body).b ⟨defScope (tp 48), fun _ => true, f34.top, true⟩ (defBody (tp 48)) = true := by decide +kernel
theorem d34 {T : Tb} {base : Heap} {mg : Str → Option Value} {a : Addr} {oc kV dc pm cd ct : Value} {od an : Option Addr} {sl : Array (Option Value)} (l : T.K.lookup a = some ⟨oc, od, .func (fo "index_table" "index_table" (tp 48) kV dc pm an cd ct), sl⟩) (c : PySem.W.codeIn T.K cd "index_table" = true) (kf : PySem.W.keepIn T.K (.ref a) = true) : DfOk T base mg kx f34 a :=
  ⟨kf, show DfN T base mg kx f34 a from ⟨"index_table", "index_table", (tp 48), ["net"], _, _, _, _, _, _, _, _, _, l, c, C8.fnScope_by c34, rfl, (fun_mk l c kf).binds (fun _ _ _ _ _ _ us hl => match us, hl with | [_], _ => rfl), o34, fun h => nomatch (show false = true from h)⟩⟩
theorem c35 : C8.scC f35.N ["net"] (defScope (tp 49)) = true := by decide +kernel
theorem o35 : (chk { kx with N := f35.N } f35.body).b ⟨defScope (tp 49), fun _ => true, f35.top, true⟩ (defBody (tp 49)) = true := by decide +kernel
theorem d35 {T : Tb} {base : Heap} {mg : Str → Option Value} {a : Addr} {oc kV dc pm cd ct : Value} {od an : Option Addr} {sl : Array (Option Value)} (l : T.K.lookup a = some ⟨oc, od, .func (fo "require_net" "require_net" (tp 49) kV dc pm an cd ct), sl⟩) (c : PySem.W.codeIn T.K cd "require_net" = true) (kf : PySem.W.keepIn T.K (.ref a) = true) : DfOk T base mg kx f35 a :=
  ⟨kf, show DfN T base mg kx f35 a from ⟨"require_net", "require_net", (tp 49), ["net"], _, _, _, _, _, _, _, _, _, l, c, C8.fnScope_by c35, rfl, (fun_mk l c kf).binds (fun _ _ _ _ _ _ us hl => match us, hl with | [_], _ => rfl), o35, fun h => nomatch (show false = true from h)⟩⟩
theorem c36 : C8.scC f36.N ["net", "state"] (defScope (tp 50)) = true := by decide +kernel
theorem o36 : (chk { kx with N := f36.N } f36.body).b ⟨defScope (tp 50), fun _ => true, f36.top, true⟩ (defBody (tp 50)) = true := by decide +kernel
theorem d36 {T : Tb} {base : Heap} {mg : Str → Option Value} {a : Addr} {oc kV dc pm cd ct : Value} {od an : Option Addr} {sl : Array (Option Value)} (l : T.K.lookup a = some ⟨oc, od, .func (fo "require_own_state" "require_own_state" (tp 50) kV dc pm an cd ct), sl⟩) (c : PySem.W.codeIn T.K cd "require_own_state" = true) (kf : PySem.W.keepIn T.K (.ref a) = true) : DfOk T base mg kx f36 a :=
  ⟨kf, show DfN T base mg kx f36 a from ⟨"require_own_state", "require_own_state", (tp 50), ["net", "state"], _, _, _, _, _, _, _, _, _, l, c, C8.fnScope_by c36, rfl, (fun_mk l c kf).binds (fun _ _ _ _ _ _ us hl => match us, hl with | [_, _], _ => rfl), o36, fun h => nomatch (show false = true from h)⟩⟩
theorem c37 : C8.scC f37.N ["net", "cell"] (defScope (tp 51)) = true := by decide +kernel
theorem o37 : (chk { kx with N := f37.N } f37.body).b ⟨defScope (tp 51), fun _ => true, f37.top, true⟩ (defBody (tp 51)) = true := by decide +kernel
theorem d37 {T : Tb} {base : Heap} {mg : Str → Option Value} {a : Addr} {oc kV dc pm cd ct : Value} {od an : Option Addr} {sl : Array (Option Value)} (l : T.K.lookup a = some ⟨oc, od, .func (fo "require_own_cell" "require_own_cell" (tp 51) kV dc pm an cd ct), sl⟩) (c : PySem.W.codeIn T.K cd "require_own_cell" = true) (kf : PySem.W.keepIn T.K (.ref a) = true) : DfOk T base mg kx f37 a :=
  ⟨kf, show DfN T base mg kx f37 a from ⟨"require_own_cell", "require_own_cell", (tp 51), ["net", "cell"], _, _, _, _, _, _, _, _, _, l, c, C8.fnScope_by c37, rfl, (fun_mk l c kf).binds (fun _ _ _ _ _ _ us hl => match us, hl with | [_, _], _ => rfl), o37, fun h => nomatch (show false = true from h)⟩⟩
theorem c38 : C8.scC f38.N ["net", "cells"] (defScope (tp 52)) = true := by decide +kernel
theorem o38 : (chk { kx with N := f38.N } f38.body).b ⟨defScope (tp 52), fun _ => true, f38.top, true⟩ (defBody (tp 52)) = true := by decide +kernel
theorem d38 {T : Tb} {base : Heap} {mg : Str → Option Value} {a : Addr} {oc kV dc pm cd ct : Value} {od an : Option Addr} {sl : Array (Option Value)} (l : T.K.lookup a = some ⟨oc, od, .func (fo "require_own_cells" "require_own_cells" (tp 52) kV dc pm an cd ct), sl⟩) (c : PySem.W.codeIn T.K cd "require_own_cells" = true) (kf : PySem.W.keepIn T.K (.ref a) = true) : DfOk T base mg kx f38 a :=
  ⟨kf, show DfN T base mg kx f38 a from ⟨"require_own_cells", "require_own_cells", (tp 52), ["net", "cells"], _, _, _, _, _, _, _, _, _, l, c, C8.fnScope_by c38, rfl, (fun_mk l c kf).binds (fun _ _ _ _ _ _ us hl => match us, hl with | [_, _], _ => rfl), o38, fun h => nomatch (show false = true from h)⟩⟩
theorem c39 : C8.scC f39.N ["net"] (defScope (tp 53)) = true := by decide +kernel
theorem o39 : (chk { kx with N := f39.N } f39.body).b ⟨defScope (tp 53), fun _ => true, f39.top, true⟩ (defBody (tp 53)) = true := by decide +kernel
theorem d39 {T : Tb} {base : Heap} {mg : Str → Option Value} {a : Addr} {oc kV dc pm cd ct : Value} {od an : Option Addr} {sl : Array (Option Value)} (l : T.K.lookup a = some ⟨oc, od, .func (fo "require_few" "require_few" (tp 53) kV dc pm an cd ct), sl⟩) (c : PySem.W.codeIn T.K cd "require_few" = true) (kf : PySem.W.keepIn T.K (.ref a) = true) : DfOk T base mg kx f39 a :=
  ⟨kf, show DfN T base mg kx f39 a from ⟨"require_few", "require_few", (tp 53), ["net"], _, _, _, _, _, _, _, _, _, l, c, C8.fnScope_by c39, rfl, (fun_mk l c kf).binds (fun _ _ _ _ _ _ us hl => match us, hl with | [_], _ => rfl), o39, fun h => nomatch (show false = true from h)⟩⟩
theorem c40 : C8.scC f40.N ["net"] (defScope (tp 54)) = true := by decide +kernel
theorem o40 : (chk { kx with N := f40.N } f40.body).b ⟨defScope (tp 54), fun _ => true, f40.top, true⟩ (defBody (tp 54)) = true := by decide +kernel
theorem d40 {T : Tb} {base : Heap} {mg : Str → Option Value} {a : Addr} {oc kV dc pm cd ct : Value} {od an : Option Addr} {sl : Array (Option Value)} (l : T.K.lookup a = some ⟨oc, od, .func (fo "table_of" "table_of" (tp 54) kV dc pm an cd ct), sl⟩) (c : PySem.W.codeIn T.K cd "table_of" = true) (kf : PySem.W.keepIn T.K (.ref a) = true) : DfOk T base mg kx f40 a :=
  ⟨kf, show DfN T base mg kx f40 a from ⟨"table_of", "table_of", (tp 54), ["net"], _, _, _, _, _, _, _, _, _, l, c, C8.fnScope_by c40, rfl, (fun_mk l c kf).binds (fun _ _ _ _ _ _ us hl => match us, hl with | [_], _ => rfl), o40, fun h => nomatch (show false = true from h)⟩⟩
theorem c41 : C8.scC f41.N ["value"] (defScope (tp 55)) = true := by decide +kernel
theorem o41 : (chk { kx with N := f41.N } f41.body).b ⟨defScope (tp 55), fun _ => true, f41.top, true⟩ (defBody (tp 55)) = true := by decide +kernel
theorem d41 {T : Tb} {base : Heap} {mg : Str → Option Value} {a : Addr} {oc kV dc pm cd ct : Value} {od an : Option Addr} {sl : Array (Option Value)} (l : T.K.lookup a = some ⟨oc, od, .func (fo "is_table" "is_table" (tp 55) kV dc pm an cd ct), sl⟩) (c : PySem.W.codeIn T.K cd "is_table" = true) (kf : PySem.W.keepIn T.K (.ref a) = true) : DfOk T base mg kx f41 a :=
  ⟨kf, show DfN T base mg kx f41 a from ⟨"is_table", "is_table", (tp 55), ["value"], _, _, _, _, _, _, _, _, _, l, c, C8.fnScope_by c41, rfl, (fun_mk l c kf).binds (fun _ _ _ _ _ _ us hl => match us, hl with | [_], _ => rfl), o41, fun h => nomatch (show false = true from h)⟩⟩
theorem c42 : C8.scC f42.N ["states"] (defScope (tp 56)) = true := by decide +kernel
theorem o42 : (chk { kx with N := f42.N } f42.body).b ⟨defScope (tp 56), fun _ => true, f42.top, true⟩ (defBody (tp 56)) = true := by decide +kernel
theorem d42 {T : Tb} {base : Heap} {mg : Str → Option Value} {a : Addr} {oc kV dc pm cd ct : Value} {od an : Option Addr} {sl : Array (Option Value)} (l : T.K.lookup a = some ⟨oc, od, .func (fo "net_of_table" "net_of_table" (tp 56) kV dc pm an cd ct), sl⟩) (c : PySem.W.codeIn T.K cd "net_of_table" = true) (kf : PySem.W.keepIn T.K (.ref a) = true) : DfOk T base mg kx f42 a :=
  ⟨kf, show DfN T base mg kx f42 a from ⟨"net_of_table", "net_of_table", (tp 56), ["states"], _, _, _, _, _, _, _, _, _, l, c, C8.fnScope_by c42, rfl, (fun_mk l c kf).binds (fun _ _ _ _ _ _ us hl => match us, hl with | [_], _ => rfl), o42, fun h => nomatch (show false = true from h)⟩⟩
theorem c43 : C8.scC f43.N ["net", "names"] (defScope (tp 57)) = true := by decide +kernel
theorem o43 : (chk { kx with N := f43.N } f43.body).b ⟨defScope (tp 57), fun _ => true, f43.top, true⟩ (defBody (tp 57)) = true := by decide +kernel
theorem d43 {T : Tb} {base : Heap} {mg : Str → Option Value} {a : Addr} {oc kV dc pm cd ct : Value} {od an : Option Addr} {sl : Array (Option Value)} (l : T.K.lookup a = some ⟨oc, od, .func (fo "renamed" "renamed" (tp 57) kV dc pm an cd ct), sl⟩) (c : PySem.W.codeIn T.K cd "renamed" = true) (kf : PySem.W.keepIn T.K (.ref a) = true) : DfOk T base mg kx f43 a :=
  ⟨kf, show DfN T base mg kx f43 a from ⟨"renamed", "renamed", (tp 57), ["net", "names"], _, _, _, _, _, _, _, _, _, l, c, C8.fnScope_by c43, rfl, (fun_mk l c kf).binds (fun _ _ _ _ _ _ us hl => match us, hl with | [_, _], _ => rfl), o43, fun h => nomatch (show false = true from h)⟩⟩
theorem c44 : C8.scC f44.N ["net", "cells"] (defScope (tp 58)) = true := by decide +kernel
theorem o44 : (chk { kx with N := f44.N } f44.body).b ⟨defScope (tp 58), fun _ => true, f44.top, true⟩ (defBody (tp 58)) = true := by decide +kernel
theorem d44 {T : Tb} {base : Heap} {mg : Str → Option Value} {a : Addr} {oc kV dc pm cd ct : Value} {od an : Option Addr} {sl : Array (Option Value)} (l : T.K.lookup a = some ⟨oc, od, .func (fo "switched" "switched" (tp 58) kV dc pm an cd ct), sl⟩) (c : PySem.W.codeIn T.K cd "switched" = true) (kf : PySem.W.keepIn T.K (.ref a) = true) : DfOk T base mg kx f44 a :=
  ⟨kf, show DfN T base mg kx f44 a from ⟨"switched", "switched", (tp 58), ["net", "cells"], _, _, _, _, _, _, _, _, _, l, c, C8.fnScope_by c44, rfl, (fun_mk l c kf).binds (fun _ _ _ _ _ _ us hl => match us, hl with | [_, _], _ => rfl), o44, fun h => nomatch (show false = true from h)⟩⟩
theorem c45 : C8.scC f45.N ["net"] (defScope (tp 59)) = true := by decide +kernel
theorem o45 : (chk { kx with N := f45.N } f45.body).b ⟨defScope (tp 59), fun _ => true, f45.top, true⟩ (defBody (tp 59)) = true := by decide +kernel
theorem d45 {T : Tb} {base : Heap} {mg : Str → Option Value} {a : Addr} {oc kV dc pm cd ct : Value} {od an : Option Addr} {sl : Array (Option Value)} (l : T.K.lookup a = some ⟨oc, od, .func (fo "least_net" "least_net" (tp 59) kV dc pm an cd ct), sl⟩) (c : PySem.W.codeIn T.K cd "least_net" = true) (kf : PySem.W.keepIn T.K (.ref a) = true) : DfOk T base mg kx f45 a :=
  ⟨kf, show DfN T base mg kx f45 a from ⟨"least_net", "least_net", (tp 59), ["net"], _, _, _, _, _, _, _, _, _, l, c, C8.fnScope_by c45, rfl, (fun_mk l c kf).binds (fun _ _ _ _ _ _ us hl => match us, hl with | [_], _ => rfl), o45, fun h => nomatch (show false = true from h)⟩⟩
theorem c46 : C8.scC f46.N ["net", "other"] (defScope (tp 60)) = true := by decide +kernel
theorem o46 : (chk { kx with N := f46.N } f46.body).b ⟨defScope (tp 60), fun _ => true, f46.top, true⟩ (defBody (tp 60)) = true := by decide +kernel
theorem d46 {T : Tb} {base : Heap} {mg : Str → Option Value} {a : Addr} {oc kV dc pm cd ct : Value} {od an : Option Addr} {sl : Array (Option Value)} (l : T.K.lookup a = some ⟨oc, od, .func (fo "require_two_few" "require_two_few" (tp 60) kV dc pm an cd ct), sl⟩) (c : PySem.W.codeIn T.K cd "require_two_few" = true) (kf : PySem.W.keepIn T.K (.ref a) = true) : DfOk T base mg kx f46 a :=
  ⟨kf, show DfN T base mg kx f46 a from ⟨"require_two_few", "require_two_few", (tp 60), ["net", "other"], _, _, _, _, _, _, _, _, _, l, c, C8.fnScope_by c46, rfl, (fun_mk l c kf).binds (fun _ _ _ _ _ _ us hl => match us, hl with | [_, _], _ => rfl), o46, fun h => nomatch (show false = true from h)⟩⟩
theorem c47 : C8.scC f47.N ["net", "other"] (defScope (tp 61)) = true := by decide +kernel
theorem o47 : (chk { kx with N := f47.N } f47.body).b ⟨defScope (tp 61), fun _ => true, f47.top, true⟩ (defBody (tp 61)) = true := by decide +kernel
theorem d47 {T : Tb} {base : Heap} {mg : Str → Option Value} {a : Addr} {oc kV dc pm cd ct : Value} {od an : Option Addr} {sl : Array (Option Value)} (l : T.K.lookup a = some ⟨oc, od, .func (fo "alike_in" "alike_in" (tp 61) kV dc pm an cd ct), sl⟩) (c : PySem.W.codeIn T.K cd "alike_in" = true) (kf : PySem.W.keepIn T.K (.ref a) = true) : DfOk T base mg kx f47 a :=
  ⟨kf, show DfN T base mg kx f47 a from ⟨"alike_in", "alike_in", (tp 61), ["net", "other"], _, _, _, _, _, _, _, _, _, l, c, C8.fnScope_by c47, rfl, (fun_mk l c kf).binds (fun _ _ _ _ _ _ us hl => match us, hl with | [_, _], _ => rfl), o47, fun h => nomatch (show false = true from h)⟩⟩
theorem c48 : C8.scC f48.N ["net", "other"] (defScope (tp 62)) = true := by decide +kernel
theorem o48 : (chk { kx with N := f48.N } f48.body).b ⟨defScope (tp 62), fun _ => true, f48.top, true⟩ (defBody (tp 62)) = true := by decide +kernel
theorem d48 {T : Tb} {base : Heap} {mg : Str → Option Value} {a : Addr} {oc kV dc pm cd ct : Value} {od an : Option Addr} {sl : Array (Option Value)} (l : T.K.lookup a = some ⟨oc, od, .func (fo "alike_by" "alike_by" (tp 62) kV dc pm an cd ct), sl⟩) (c : PySem.W.codeIn T.K cd "alike_by" = true) (kf : PySem.W.keepIn T.K (.ref a) = true) : DfOk T base mg kx f48 a :=
  ⟨kf, show DfN T base mg kx f48 a from ⟨"alike_by", "alike_by", (tp 62), ["net", "other"], _, _, _, _, _, _, _, _, _, l, c, C8.fnScope_by c48, rfl, (fun_mk l c kf).binds (fun _ _ _ _ _ _ us hl => match us, hl with | [_, _], _ => rfl), o48, fun h => nomatch (show false = true from h)⟩⟩
theorem c49 : C8.scC f49.N ["net", "other"] (defScope (tp 63)) = true := by decide +kernel
theorem o49 : (chk { kx with N := f49.N } f49.body).b ⟨defScope (tp 63), fun _ => true, f49.top, true⟩ (defBody (tp 63)) = true := by decide +kernel
theorem d49 {T : Tb} {base : Heap} {mg : Str → Option Value} {a : Addr} {oc kV dc pm cd ct : Value} {od an : Option Addr} {sl : Array (Option Value)} (l : T.K.lookup a = some ⟨oc, od, .func (fo "alike_paper" "alike_paper" (tp 63) kV dc pm an cd ct), sl⟩) (c : PySem.W.codeIn T.K cd "alike_paper" = true) (kf : PySem.W.keepIn T.K (.ref a) = true) : DfOk T base mg kx f49 a :=
  ⟨kf, show DfN T base mg kx f49 a from ⟨"alike_paper", "alike_paper", (tp 63), ["net", "other"], _, _, _, _, _, _, _, _, _, l, c, C8.fnScope_by c49, rfl, (fun_mk l c kf).binds (fun _ _ _ _ _ _ us hl => match us, hl with | [_, _], _ => rfl), o49, fun h => nomatch (show false = true from h)⟩⟩
theorem c50 : C8.scC f50.N ["net", "other", "value"] (defScope (tp 64)) = true := by decide +kernel
theorem o50 : (chk { kx with N := f50.N } f50.body).b ⟨defScope (tp 64), fun _ => true, f50.top, true⟩ (defBody (tp 64)) = true := by decide +kernel
theorem d50 {T : Tb} {base : Heap} {mg : Str → Option Value} {a : Addr} {oc kV dc pm cd ct : Value} {od an : Option Addr} {sl : Array (Option Value)} (l : T.K.lookup a = some ⟨oc, od, .func (fo "is_alike_paper" "is_alike_paper" (tp 64) kV dc pm an cd ct), sl⟩) (c : PySem.W.codeIn T.K cd "is_alike_paper" = true) (kf : PySem.W.keepIn T.K (.ref a) = true) : DfOk T base mg kx f50 a :=
  ⟨kf, show DfN T base mg kx f50 a from ⟨"is_alike_paper", "is_alike_paper", (tp 64), ["net", "other", "value"], _, _, _, _, _, _, _, _, _, l, c, C8.fnScope_by c50, rfl, (fun_mk l c kf).binds (fun _ _ _ _ _ _ us hl => match us, hl with | [_, _, _], _ => rfl), o50, fun h => nomatch (show false = true from h)⟩⟩
theorem c51 : C8.scC f51.N ["net"] (defScope (tp 65)) = true := by decide +kernel
theorem o51 : (chk { kx with N := f51.N } f51.body).b ⟨defScope (tp 65), fun _ => true, f51.top, true⟩ (defBody (tp 65)) = true := by decide +kernel
theorem d51 {T : Tb} {base : Heap} {mg : Str → Option Value} {a : Addr} {oc kV dc pm cd ct : Value} {od an : Option Addr} {sl : Array (Option Value)} (l : T.K.lookup a = some ⟨oc, od, .func (fo "likenesses" "likenesses" (tp 65) kV dc pm an cd ct), sl⟩) (c : PySem.W.codeIn T.K cd "likenesses" = true) (kf : PySem.W.keepIn T.K (.ref a) = true) : DfOk T base mg kx f51 a :=
  ⟨kf, show DfN T base mg kx f51 a from ⟨"likenesses", "likenesses", (tp 65), ["net"], _, _, _, _, _, _, _, _, _, l, c, C8.fnScope_by c51, rfl, (fun_mk l c kf).binds (fun _ _ _ _ _ _ us hl => match us, hl with | [_], _ => rfl), o51, fun h => nomatch (show false = true from h)⟩⟩
theorem c52 : C8.scC f52.N ["one", "other"] (defScope (tp 66)) = true := by decide +kernel
theorem o52 : (chk { kx with N := f52.N } f52.body).b ⟨defScope (tp 66), fun _ => true, f52.top, true⟩ (defBody (tp 66)) = true := by decide +kernel
theorem d52 {T : Tb} {base : Heap} {mg : Str → Option Value} {a : Addr} {oc kV dc pm cd ct : Value} {od an : Option Addr} {sl : Array (Option Value)} (l : T.K.lookup a = some ⟨oc, od, .func (fo "net_behind" "net_behind" (tp 66) kV dc pm an cd ct), sl⟩) (c : PySem.W.codeIn T.K cd "net_behind" = true) (kf : PySem.W.keepIn T.K (.ref a) = true) : DfOk T base mg kx f52 a :=
  ⟨kf, show DfN T base mg kx f52 a from ⟨"net_behind", "net_behind", (tp 66), ["one", "other"], _, _, _, _, _, _, _, _, _, l, c, C8.fnScope_by c52, rfl, (fun_mk l c kf).binds (fun _ _ _ _ _ _ us hl => match us, hl with | [_, _], _ => rfl), o52, fun h => nomatch (show false = true from h)⟩⟩
theorem c53 : C8.scC f53.N ["net", "many"] (defScope (tp 67)) = true := by decide +kernel
theorem o53 : (chk { kx with N := f53.N } f53.body).b ⟨defScope (tp 67), fun _ => true, f53.top, true⟩ (defBody (tp 67)) = true := by decide +kernel
theorem d53 {T : Tb} {base : Heap} {mg : Str → Option Value} {a : Addr} {oc kV dc pm cd ct : Value} {od an : Option Addr} {sl : Array (Option Value)} (l : T.K.lookup a = some ⟨oc, od, .func (fo "net_power" "net_power" (tp 67) kV dc pm an cd ct), sl⟩) (c : PySem.W.codeIn T.K cd "net_power" = true) (kf : PySem.W.keepIn T.K (.ref a) = true) : DfOk T base mg kx f53 a :=
  ⟨kf, show DfN T base mg kx f53 a from ⟨"net_power", "net_power", (tp 67), ["net", "many"], _, _, _, _, _, _, _, _, _, l, c, C8.fnScope_by c53, rfl, (fun_mk l c kf).binds (fun _ _ _ _ _ _ us hl => match us, hl with | [_, _], _ => rfl), o53, fun h => nomatch (show false = true from h)⟩⟩
theorem c54 : C8.scC f54.N ["script", "spot"] (defScope (tp 69)) = true := by decide +kernel
theorem o54 : (chk { kx with N := f54.N } f54.body).b ⟨defScope (tp 69), fun _ => true, f54.top, true⟩ (defBody (tp 69)) = true := by decide +kernel
theorem d54 {T : Tb} {base : Heap} {mg : Str → Option Value} {a : Addr} {oc kV dc pm cd ct : Value} {od an : Option Addr} {sl : Array (Option Value)} (l : T.K.lookup a = some ⟨oc, od, .func (fo "_law_dice" "_law_dice" (tp 69) kV dc pm an cd ct), sl⟩) (c : PySem.W.codeIn T.K cd "_law_dice" = true) (kf : PySem.W.keepIn T.K (.ref a) = true) : DfOk T base mg kx f54 a :=
  ⟨kf, show DfN T base mg kx f54 a from ⟨"_law_dice", "_law_dice", (tp 69), ["script", "spot"], _, _, _, _, _, _, _, _, _, l, c, C8.fnScope_by c54, rfl, (fun_mk l c kf).binds (fun _ _ _ _ _ _ us hl => match us, hl with | [_, _], _ => rfl), o54, fun h => nomatch (show false = true from h)⟩⟩
theorem c55 : C8.scC f55.N ["dice", "total"] (defScope (tp 70)) = true := by decide +kernel
theorem o55 : (chk { kx with N := f55.N } f55.body).b ⟨defScope (tp 70), fun _ => true, f55.top, true⟩ (defBody (tp 70)) = true := by decide +kernel
theorem d55 {T : Tb} {base : Heap} {mg : Str → Option Value} {a : Addr} {oc kV dc pm cd ct : Value} {od an : Option Addr} {sl : Array (Option Value)} (l : T.K.lookup a = some ⟨oc, od, .func (fo "_law_roll" "_law_roll" (tp 70) kV dc pm an cd ct), sl⟩) (c : PySem.W.codeIn T.K cd "_law_roll" = true) (kf : PySem.W.keepIn T.K (.ref a) = true) : DfOk T base mg kx f55 a :=
  ⟨kf, show DfN T base mg kx f55 a from ⟨"_law_roll", "_law_roll", (tp 70), ["dice", "total"], _, _, _, _, _, _, _, _, _, l, c, C8.fnScope_by c55, rfl, (fun_mk l c kf).binds (fun _ _ _ _ _ _ us hl => match us, hl with | [_, _], _ => rfl), o55, fun h => nomatch (show false = true from h)⟩⟩
theorem c56 : C8.scC f56.N ["dice", "items"] (defScope (tp 71)) = true := by decide +kernel
theorem o56 : (chk { kx with N := f56.N } f56.body).b ⟨defScope (tp 71), fun _ => true, f56.top, true⟩ (defBody (tp 71)) = true := by decide +kernel
theorem d56 {T : Tb} {base : Heap} {mg : Str → Option Value} {a : Addr} {oc kV dc pm cd ct : Value} {od an : Option Addr} {sl : Array (Option Value)} (l : T.K.lookup a = some ⟨oc, od, .func (fo "_law_pick" "_law_pick" (tp 71) kV dc pm an cd ct), sl⟩) (c : PySem.W.codeIn T.K cd "_law_pick" = true) (kf : PySem.W.keepIn T.K (.ref a) = true) : DfOk T base mg kx f56 a :=
  ⟨kf, show DfN T base mg kx f56 a from ⟨"_law_pick", "_law_pick", (tp 71), ["dice", "items"], _, _, _, _, _, _, _, _, _, l, c, C8.fnScope_by c56, rfl, (fun_mk l c kf).binds (fun _ _ _ _ _ _ us hl => match us, hl with | [_, _], _ => rfl), o56, fun h => nomatch (show false = true from h)⟩⟩
theorem c57 : C8.scC f57.N ["dice", "right", "wrong"] (defScope (tp 72)) = true := by decide +kernel
theorem o57 : (chk { kx with N := f57.N } f57.body).b ⟨defScope (tp 72), fun _ => true, f57.top, true⟩ (defBody (tp 72)) = true := by decide +kernel
theorem d57 {T : Tb} {base : Heap} {mg : Str → Option Value} {a : Addr} {oc kV dc pm cd ct : Value} {od an : Option Addr} {sl : Array (Option Value)} (l : T.K.lookup a = some ⟨oc, od, .func (fo "_law_one" "_law_one" (tp 72) kV dc pm an cd ct), sl⟩) (c : PySem.W.codeIn T.K cd "_law_one" = true) (kf : PySem.W.keepIn T.K (.ref a) = true) : DfOk T base mg kx f57 a :=
  ⟨kf, show DfN T base mg kx f57 a from ⟨"_law_one", "_law_one", (tp 72), ["dice", "right", "wrong"], _, _, _, _, _, _, _, _, _, l, c, C8.fnScope_by c57, rfl, (fun_mk l c kf).binds (fun _ _ _ _ _ _ us hl => match us, hl with | [_, _, _], _ => rfl), o57, fun h => nomatch (show false = true from h)⟩⟩
theorem c58 : C8.scC f58.N ["rows"] (defScope (tp 73)) = true := by decide +kernel
theorem o58 : (chk { kx with N := f58.N } f58.body).b ⟨defScope (tp 73), fun _ => true, f58.top, true⟩ (defBody (tp 73)) = true := by decide +kernel
theorem d58 {T : Tb} {base : Heap} {mg : Str → Option Value} {a : Addr} {oc kV dc pm cd ct : Value} {od an : Option Addr} {sl : Array (Option Value)} (l : T.K.lookup a = some ⟨oc, od, .func (fo "_law_first" "_law_first" (tp 73) kV dc pm an cd ct), sl⟩) (c : PySem.W.codeIn T.K cd "_law_first" = true) (kf : PySem.W.keepIn T.K (.ref a) = true) : DfOk T base mg kx f58 a :=
  ⟨kf, show DfN T base mg kx f58 a from ⟨"_law_first", "_law_first", (tp 73), ["rows"], _, _, _, _, _, _, _, _, _, l, c, C8.fnScope_by c58, rfl, (fun_mk l c kf).binds (fun _ _ _ _ _ _ us hl => match us, hl with | [_], _ => rfl), o58, fun h => nomatch (show false = true from h)⟩⟩
theorem c59 : C8.scC f59.N ["dice"] (defScope (tp 75)) = true := by decide +kernel
theorem o59 : (chk { kx with N := f59.N } f59.body).b ⟨defScope (tp 75), fun _ => true, f59.top, true⟩ (defBody (tp 75)) = true := by decide +kernel
theorem d59 {T : Tb} {base : Heap} {mg : Str → Option Value} {a : Addr} {oc kV dc pm cd ct : Value} {od an : Option Addr} {sl : Array (Option Value)} (l : T.K.lookup a = some ⟨oc, od, .func (fo "_law_made_right" "_law_made_right" (tp 75) kV dc pm an cd ct), sl⟩) (c : PySem.W.codeIn T.K cd "_law_made_right" = true) (kf : PySem.W.keepIn T.K (.ref a) = true) (to : TopOk T base mg "_law_made_right" cd) : DfOk T base mg kx f59 a :=
  ⟨kf, show DfN T base mg kx f59 a from ⟨"_law_made_right", "_law_made_right", (tp 75), ["dice"], _, _, _, _, _, _, _, _, _, l, c, C8.fnScope_by c59, rfl, (fun_mk l c kf).binds (fun _ _ _ _ _ _ us hl => match us, hl with | [_], _ => rfl), o59, fun _ => to⟩⟩
theorem c60 : C8.scC f60.N ["dice"] (defScope (tp 76)) = true := by decide +kernel
theorem o60 : (chk { kx with N := f60.N } f60.body).b ⟨defScope (tp 76), fun _ => true, f60.top, true⟩ (defBody (tp 76)) = true := by decide +kernel
theorem d60 {T : Tb} {base : Heap} {mg : Str → Option Value} {a : Addr} {oc kV dc pm cd ct : Value} {od an : Option Addr} {sl : Array (Option Value)} (l : T.K.lookup a = some ⟨oc, od, .func (fo "_law_right" "_law_right" (tp 76) kV dc pm an cd ct), sl⟩) (c : PySem.W.codeIn T.K cd "_law_right" = true) (kf : PySem.W.keepIn T.K (.ref a) = true) (to : TopOk T base mg "_law_right" cd) : DfOk T base mg kx f60 a :=
  ⟨kf, show DfN T base mg kx f60 a from ⟨"_law_right", "_law_right", (tp 76), ["dice"], _, _, _, _, _, _, _, _, _, l, c, C8.fnScope_by c60, rfl, (fun_mk l c kf).binds (fun _ _ _ _ _ _ us hl => match us, hl with | [_], _ => rfl), o60, fun _ => to⟩⟩
theorem c61 : C8.scC f61.N ["script"] (defScope (tp 77)) = true := by decide +kernel
theorem o61 : (chk { kx with N := f61.N } f61.body).b ⟨defScope (tp 77), fun _ => true, f61.top, true⟩ (defBody (tp 77)) = true := by decide +kernel
theorem d61 {T : Tb} {base : Heap} {mg : Str → Option Value} {a : Addr} {oc kV dc pm cd ct : Value} {od an : Option Addr} {sl : Array (Option Value)} (l : T.K.lookup a = some ⟨oc, od, .func (fo "law" "law" (tp 77) kV dc pm an cd ct), sl⟩) (c : PySem.W.codeIn T.K cd "law" = true) (kf : PySem.W.keepIn T.K (.ref a) = true) (to : TopOk T base mg "law" cd) : DfOk T base mg kx f61 a :=
  ⟨kf, show DfN T base mg kx f61 a from ⟨"law", "law", (tp 77), ["script"], _, _, _, _, _, _, _, _, _, l, c, C8.fnScope_by c61, rfl, (fun_mk l c kf).binds (fun _ _ _ _ _ _ us hl => match us, hl with | [_], _ => rfl), o61, fun _ => to⟩⟩
theorem cm : C8.scC ["call", "error"] ["call"] (defScope (tp 74)) = true := by decide +kernel
theorem tm {T : Tb} {mg : Str → Option Value} {g : Addr} {oc kV dc pm cd ct : Value} {od an : Option Addr} {sl : Array (Option Value)} (gm : mg "_law_met" = some (.ref g)) (l : T.K.lookup g = some ⟨oc, od, .func (PySem.W.fnOf "_law_met" "_law_met" (defArgs (tp 74)) (defBody (tp 74)) (defScope (tp 74)) .none kV dc pm an cd ct), sl⟩) (c : PySem.W.codeIn T.K cd "_law_met" = true) (kf : PySem.W.keepIn T.K (.ref g) = true) (mr : mg "repr" = none) (ex : exmB T.K T.ca hs = true) (gx3 : mg "InvalidNet" = some (.ref (T.ca 3))) (gx1 : mg "InvalidState" = some (.ref (T.ca 1))) (gx2 : mg "InvalidRule" = some (.ref (T.ca 2))) (gx4 : mg "InvalidRoom" = some (.ref (T.ca 4))) (gx5 : mg "InvalidOperation" = some (.ref (T.ca 5))) (gx6 : mg "InvalidCount" = some (.ref (T.ca 6))) (xf6 : XfC T.K (T.ca 6)) (no6 : PySem.W.findIn T.K (.ref (T.ca 6)) "given" = some none) (fd6 : T.fld 6 = some "given") (gx7 : mg "TooMany" = some (.ref (T.ca 7))) (xf7 : XfC T.K (T.ca 7)) (no7 : PySem.W.findIn T.K (.ref (T.ca 7)) "limit" = some none) (fd7 : T.fld 7 = some "limit") : TellDef T T.K mg "_law_met" hs where
  ex := ⟨g, "call", ["call", "error"], _, _, _, _, _, _, _, _, _, defArgs (tp 74), defScope (tp 74), _, _, _, _, _, _, _, _, _, gm, kf, l, c, (fun_mk l c kf).binds (fun _ _ _ _ _ _ us hl => match us, hl with | [_], _ => rfl), C8.fnScope_by cm, rfl, .inl (by decide +kernel), by decide, by decide, .plain (by decide +kernel) (by decide) gx3 (.plain (by decide +kernel) (by decide) gx1 (.plain (by decide +kernel) (by decide) gx2 (.plain (by decide +kernel) (by decide) gx4 (.plain (by decide +kernel) (by decide) gx5 (.named (i := 1) (p2 := ⟨0, 0, 0, 0⟩) (by decide +kernel) (by decide) gx6 rfl (by decide +kernel) ⟨by decide, by decide⟩ (by decide +kernel) fd6 xf6 no6 (fun _ _ => rfl) (.named (i := 1) (p2 := ⟨0, 0, 0, 0⟩) (by decide +kernel) (by decide) gx7 rfl (by decide +kernel) ⟨by decide, by decide⟩ (by decide +kernel) fd7 xf7 no7 (fun _ _ => rfl) (.nil)))))))⟩
  mr := mr
  exm := exm_ok ex
theorem e6 : CntT PySem.Challenge.pw_heedcells_k72_errors_of_nets (cb 7 0) "given" "InvalidCount.__init__" where
  bd := ⟨_, _, _, _, _, _, _, _, _, _, rfl, fun _ _ _ _ => ⟨_, rfl⟩⟩
  top := by decide +kernel
  hp0 := ⟨_, rfl, rfl⟩
  binds := fun _ _ _ _ _ _ _ _ _ _ => .of_eq rfl
  sw := fun _ _ _ _ _ _ _ _ _ => rfl
  sc1 := by decide +kernel
  sc2 := by decide +kernel
  sc3 := by decide +kernel
  sc4 := by decide +kernel
  sck := by decide +kernel
  sco := by decide +kernel
  scg := by decide +kernel
  scc := by decide +kernel
  n1 := by decide +kernel
  n2 := by decide +kernel
theorem e7 : CntT PySem.Challenge.pw_heedcells_k72_errors_of_nets (cb 8 0) "limit" "TooMany.__init__" where
  bd := ⟨_, _, _, _, _, _, _, _, _, _, rfl, fun _ _ _ _ => ⟨_, rfl⟩⟩
  top := by decide +kernel
  hp0 := ⟨_, rfl, rfl⟩
  binds := fun _ _ _ _ _ _ _ _ _ _ => .of_eq rfl
  sw := fun _ _ _ _ _ _ _ _ _ => rfl
  sc1 := by decide +kernel
  sc2 := by decide +kernel
  sc3 := by decide +kernel
  sc4 := by decide +kernel
  sck := by decide +kernel
  sco := by decide +kernel
  scg := by decide +kernel
  scc := by decide +kernel
  n1 := by decide +kernel
  n2 := by decide +kernel
theorem all_mk {w : World} {K : PySem.W.Frag} {h : Heap} {q qv : Program} {loose : List Str} {mean : ExcName → Option Value} {mg mb : Str → Option Value} {fa a0 a1 a2 a3 a4 a5 a6 a7 a8 a9 a10 a11 a12 a13 a14 a16 a17 a18 a19 a20 a21 a22 a23 a24 a25 a26 a27 a28 a29 a30 a31 a32 a33 a34 a35 a36 a37 a38 a39 a40 a41 a42 a43 a44 a45 a46 a47 a48 a49 a50 a51 a52 a53 a54 a55 a56 a57 a58 a59 a60 a61 C1 C2 C3 C4 C5 C6 C7 C8 g I8 p8 I6 I7 k59c k59p k60c k60p k61c k61p cc6 cda6 cc7 cda7 : Addr} (hq : q = PySem.Challenge.pw_heedcells_k72_errors_of_nets) (Tp : Top qv loose mean mg mb h) (X : K.In h) (G : h.Ns mainGlobals mg) (hfa : mg "law" = some (.ref fa))
    {t0 : Tok}
    {t1 : Tok}
    {t2 : Tok}
    {t3 : Tok}
    {t4 : Tok}
    {ts0 : Tok}
    {ts1 : Tok}
    {oc0 kV0 dc0 pm0 cd0 ct0 : Value} {od0 an0 : Option Addr} {sl0 : Array (Option Value)}
    {oc1 kV1 dc1 pm1 cd1 ct1 : Value} {od1 an1 : Option Addr} {sl1 : Array (Option Value)}
    {oc2 kV2 dc2 pm2 cd2 ct2 : Value} {od2 an2 : Option Addr} {sl2 : Array (Option Value)}
    {oc3 kV3 dc3 pm3 cd3 ct3 : Value} {od3 an3 : Option Addr} {sl3 : Array (Option Value)}
    {oc4 kV4 dc4 pm4 cd4 ct4 : Value} {od4 an4 : Option Addr} {sl4 : Array (Option Value)}
    {oc5 kV5 dc5 pm5 cd5 ct5 : Value} {od5 an5 : Option Addr} {sl5 : Array (Option Value)}
    {oc6 kV6 dc6 pm6 cd6 ct6 : Value} {od6 an6 : Option Addr} {sl6 : Array (Option Value)}
    {oc7 kV7 dc7 pm7 cd7 ct7 : Value} {od7 an7 : Option Addr} {sl7 : Array (Option Value)}
    {oc8 kV8 dc8 pm8 cd8 ct8 : Value} {od8 an8 : Option Addr} {sl8 : Array (Option Value)}
    {oc9 kV9 dc9 pm9 cd9 ct9 : Value} {od9 an9 : Option Addr} {sl9 : Array (Option Value)}
    {oc10 kV10 dc10 pm10 cd10 ct10 : Value} {od10 an10 : Option Addr} {sl10 : Array (Option Value)}
    {oc11 kV11 dc11 pm11 cd11 ct11 : Value} {od11 an11 : Option Addr} {sl11 : Array (Option Value)}
    {oc12 kV12 dc12 pm12 cd12 ct12 : Value} {od12 an12 : Option Addr} {sl12 : Array (Option Value)}
    {oc13 kV13 dc13 pm13 cd13 ct13 : Value} {od13 an13 : Option Addr} {sl13 : Array (Option Value)}
    {oc14 kV14 dc14 pm14 cd14 ct14 : Value} {od14 an14 : Option Addr} {sl14 : Array (Option Value)}
    {oc15 kV15 dc15 pm15 cd15 ct15 : Value} {od15 an15 : Option Addr} {sl15 : Array (Option Value)}
    {oc16 kV16 dc16 pm16 cd16 ct16 : Value} {od16 an16 : Option Addr} {sl16 : Array (Option Value)}
    {oc17 kV17 dc17 pm17 cd17 ct17 : Value} {od17 an17 : Option Addr} {sl17 : Array (Option Value)}
    {oc18 kV18 dc18 pm18 cd18 ct18 : Value} {od18 an18 : Option Addr} {sl18 : Array (Option Value)}
    {oc19 kV19 dc19 pm19 cd19 ct19 : Value} {od19 an19 : Option Addr} {sl19 : Array (Option Value)}
    {oc20 kV20 dc20 pm20 cd20 ct20 : Value} {od20 an20 : Option Addr} {sl20 : Array (Option Value)}
    {oc21 kV21 dc21 pm21 cd21 ct21 : Value} {od21 an21 : Option Addr} {sl21 : Array (Option Value)}
    {oc22 kV22 dc22 pm22 cd22 ct22 : Value} {od22 an22 : Option Addr} {sl22 : Array (Option Value)}
    {oc23 kV23 dc23 pm23 cd23 ct23 : Value} {od23 an23 : Option Addr} {sl23 : Array (Option Value)}
    {oc24 kV24 dc24 pm24 cd24 ct24 : Value} {od24 an24 : Option Addr} {sl24 : Array (Option Value)}
    {oc25 kV25 dc25 pm25 cd25 ct25 : Value} {od25 an25 : Option Addr} {sl25 : Array (Option Value)}
    {oc26 kV26 dc26 pm26 cd26 ct26 : Value} {od26 an26 : Option Addr} {sl26 : Array (Option Value)}
    {oc27 kV27 dc27 pm27 cd27 ct27 : Value} {od27 an27 : Option Addr} {sl27 : Array (Option Value)}
    {oc28 kV28 dc28 pm28 cd28 ct28 : Value} {od28 an28 : Option Addr} {sl28 : Array (Option Value)}
    {oc29 kV29 dc29 pm29 cd29 ct29 : Value} {od29 an29 : Option Addr} {sl29 : Array (Option Value)}
    {oc30 kV30 dc30 pm30 cd30 ct30 : Value} {od30 an30 : Option Addr} {sl30 : Array (Option Value)}
    {oc31 kV31 dc31 pm31 cd31 ct31 : Value} {od31 an31 : Option Addr} {sl31 : Array (Option Value)}
    {oc32 kV32 dc32 pm32 cd32 ct32 : Value} {od32 an32 : Option Addr} {sl32 : Array (Option Value)}
    {oc33 kV33 dc33 pm33 cd33 ct33 : Value} {od33 an33 : Option Addr} {sl33 : Array (Option Value)}
    {oc34 kV34 dc34 pm34 cd34 ct34 : Value} {od34 an34 : Option Addr} {sl34 : Array (Option Value)}
    {oc35 kV35 dc35 pm35 cd35 ct35 : Value} {od35 an35 : Option Addr} {sl35 : Array (Option Value)}
    {oc36 kV36 dc36 pm36 cd36 ct36 : Value} {od36 an36 : Option Addr} {sl36 : Array (Option Value)}
    {oc37 kV37 dc37 pm37 cd37 ct37 : Value} {od37 an37 : Option Addr} {sl37 : Array (Option Value)}
    {oc38 kV38 dc38 pm38 cd38 ct38 : Value} {od38 an38 : Option Addr} {sl38 : Array (Option Value)}
    {oc39 kV39 dc39 pm39 cd39 ct39 : Value} {od39 an39 : Option Addr} {sl39 : Array (Option Value)}
    {oc40 kV40 dc40 pm40 cd40 ct40 : Value} {od40 an40 : Option Addr} {sl40 : Array (Option Value)}
    {oc41 kV41 dc41 pm41 cd41 ct41 : Value} {od41 an41 : Option Addr} {sl41 : Array (Option Value)}
    {oc42 kV42 dc42 pm42 cd42 ct42 : Value} {od42 an42 : Option Addr} {sl42 : Array (Option Value)}
    {oc43 kV43 dc43 pm43 cd43 ct43 : Value} {od43 an43 : Option Addr} {sl43 : Array (Option Value)}
    {oc44 kV44 dc44 pm44 cd44 ct44 : Value} {od44 an44 : Option Addr} {sl44 : Array (Option Value)}
    {oc45 kV45 dc45 pm45 cd45 ct45 : Value} {od45 an45 : Option Addr} {sl45 : Array (Option Value)}
    {oc46 kV46 dc46 pm46 cd46 ct46 : Value} {od46 an46 : Option Addr} {sl46 : Array (Option Value)}
    {oc47 kV47 dc47 pm47 cd47 ct47 : Value} {od47 an47 : Option Addr} {sl47 : Array (Option Value)}
    {oc48 kV48 dc48 pm48 cd48 ct48 : Value} {od48 an48 : Option Addr} {sl48 : Array (Option Value)}
    {oc49 kV49 dc49 pm49 cd49 ct49 : Value} {od49 an49 : Option Addr} {sl49 : Array (Option Value)}
    {oc50 kV50 dc50 pm50 cd50 ct50 : Value} {od50 an50 : Option Addr} {sl50 : Array (Option Value)}
    {oc51 kV51 dc51 pm51 cd51 ct51 : Value} {od51 an51 : Option Addr} {sl51 : Array (Option Value)}
    {oc52 kV52 dc52 pm52 cd52 ct52 : Value} {od52 an52 : Option Addr} {sl52 : Array (Option Value)}
    {oc53 kV53 dc53 pm53 cd53 ct53 : Value} {od53 an53 : Option Addr} {sl53 : Array (Option Value)}
    {oc54 kV54 dc54 pm54 cd54 ct54 : Value} {od54 an54 : Option Addr} {sl54 : Array (Option Value)}
    {oc55 kV55 dc55 pm55 cd55 ct55 : Value} {od55 an55 : Option Addr} {sl55 : Array (Option Value)}
    {oc56 kV56 dc56 pm56 cd56 ct56 : Value} {od56 an56 : Option Addr} {sl56 : Array (Option Value)}
    {oc57 kV57 dc57 pm57 cd57 ct57 : Value} {od57 an57 : Option Addr} {sl57 : Array (Option Value)}
    {oc58 kV58 dc58 pm58 cd58 ct58 : Value} {od58 an58 : Option Addr} {sl58 : Array (Option Value)}
    {oc59 kV59 dc59 pm59 ct59 : Value} {od59 an59 : Option Addr} {sl59 : Array (Option Value)}
    {vc59 : Value} {vd59 : Option Addr} {vs59 : Array Value} {vx59 : Array (Option Value)}
    {oc60 kV60 dc60 pm60 ct60 : Value} {od60 an60 : Option Addr} {sl60 : Array (Option Value)}
    {vc60 : Value} {vd60 : Option Addr} {vs60 : Array Value} {vx60 : Array (Option Value)}
    {oc61 kV61 dc61 pm61 ct61 : Value} {od61 an61 : Option Addr} {sl61 : Array (Option Value)}
    {vc61 : Value} {vd61 : Option Addr} {vs61 : Array Value} {vx61 : Array (Option Value)}
    {ocm kVm dcm pmm cdm ctm : Value} {odm anm : Option Addr} {slm : Array (Option Value)}
    {oe6 kVe6 dce6 pme6 cte6 : Value} {ode6 ane6 : Option Addr} {sle6 : Array (Option Value)} {cle6 cce6 : Value} {clde6 cdde6 : Option Addr} {csle6 ccse6 : Array (Option Value)} {vse6 : Array Value} {file6 : Str} {tf6 : Tok}
    {oe7 kVe7 dce7 pme7 cte7 : Value} {ode7 ane7 : Option Addr} {sle7 : Array (Option Value)} {cle7 cce7 : Value} {clde7 cdde7 : Option Addr} {csle7 ccse7 : Array (Option Value)} {vse7 : Array Value} {file7 : Str} {tf7 : Tok}
    (n0 : PySem.W.nsIn K mainGlobals "is_integer" = some (some (.ref a0)))
    (n1 : PySem.W.nsIn K mainGlobals "is_within" = some (some (.ref a1)))
    (n2 : PySem.W.nsIn K mainGlobals "are_bits" = some (some (.ref a2)))
    (n3 : PySem.W.nsIn K mainGlobals "is_state_of" = some (some (.ref a3)))
    (n4 : PySem.W.nsIn K mainGlobals "are_cells_of" = some (some (.ref a4)))
    (n5 : PySem.W.nsIn K mainGlobals "count_of" = some (some (.ref a5)))
    (n6 : PySem.W.nsIn K mainGlobals "index_in" = some (some (.ref a6)))
    (n7 : PySem.W.nsIn K mainGlobals "states_of" = some (some (.ref a7)))
    (n8 : PySem.W.nsIn K mainGlobals "require_count" = some (some (.ref a8)))
    (n9 : PySem.W.nsIn K mainGlobals "is_rule_in" = some (some (.ref a9)))
    (n10 : PySem.W.nsIn K mainGlobals "without" = some (some (.ref a10)))
    (n11 : PySem.W.nsIn K mainGlobals "does_matter" = some (some (.ref a11)))
    (n12 : PySem.W.nsIn K mainGlobals "lean_in" = some (some (.ref a12)))
    (n13 : PySem.W.nsIn K mainGlobals "at_state" = some (some (.ref a13)))
    (n14 : PySem.W.nsIn K mainGlobals "are_rules" = some (some (.ref a14)))
    (n15 : PySem.W.nsIn K mainGlobals "Net" = some (some (.ref C8)))
    (n16 : PySem.W.nsIn K mainGlobals "table_in" = some (some (.ref a21)))
    (n17 : PySem.W.nsIn K mainGlobals "net_from" = some (some (.ref a22)))
    (n18 : PySem.W.nsIn K mainGlobals "renamed_rule" = some (some (.ref a23)))
    (n19 : PySem.W.nsIn K mainGlobals "renamed_rules" = some (some (.ref a24)))
    (n20 : PySem.W.nsIn K mainGlobals "switched_rule" = some (some (.ref a25)))
    (n21 : PySem.W.nsIn K mainGlobals "switched_rules" = some (some (.ref a26)))
    (n22 : PySem.W.nsIn K mainGlobals "sequences" = some (some (.ref a27)))
    (n23 : PySem.W.nsIn K mainGlobals "lots_of" = some (some (.ref a28)))
    (n24 : PySem.W.nsIn K mainGlobals "turned_rules" = some (some (.ref a29)))
    (n25 : PySem.W.nsIn K mainGlobals "least_rules" = some (some (.ref a30)))
    (n26 : PySem.W.nsIn K mainGlobals "is_names" = some (some (.ref a31)))
    (n27 : PySem.W.nsIn K mainGlobals "is_turning" = some (some (.ref a32)))
    (n28 : PySem.W.nsIn K mainGlobals "composed" = some (some (.ref a33)))
    (n29 : PySem.W.nsIn K mainGlobals "index_table" = some (some (.ref a34)))
    (n30 : PySem.W.nsIn K mainGlobals "require_net" = some (some (.ref a35)))
    (n31 : PySem.W.nsIn K mainGlobals "require_own_state" = some (some (.ref a36)))
    (n32 : PySem.W.nsIn K mainGlobals "require_own_cell" = some (some (.ref a37)))
    (n33 : PySem.W.nsIn K mainGlobals "require_own_cells" = some (some (.ref a38)))
    (n34 : PySem.W.nsIn K mainGlobals "require_few" = some (some (.ref a39)))
    (n35 : PySem.W.nsIn K mainGlobals "table_of" = some (some (.ref a40)))
    (n36 : PySem.W.nsIn K mainGlobals "is_table" = some (some (.ref a41)))
    (n37 : PySem.W.nsIn K mainGlobals "net_of_table" = some (some (.ref a42)))
    (n38 : PySem.W.nsIn K mainGlobals "renamed" = some (some (.ref a43)))
    (n39 : PySem.W.nsIn K mainGlobals "switched" = some (some (.ref a44)))
    (n40 : PySem.W.nsIn K mainGlobals "least_net" = some (some (.ref a45)))
    (n41 : PySem.W.nsIn K mainGlobals "require_two_few" = some (some (.ref a46)))
    (n42 : PySem.W.nsIn K mainGlobals "alike_in" = some (some (.ref a47)))
    (n43 : PySem.W.nsIn K mainGlobals "alike_by" = some (some (.ref a48)))
    (n44 : PySem.W.nsIn K mainGlobals "alike_paper" = some (some (.ref a49)))
    (n45 : PySem.W.nsIn K mainGlobals "is_alike_paper" = some (some (.ref a50)))
    (n46 : PySem.W.nsIn K mainGlobals "likenesses" = some (some (.ref a51)))
    (n47 : PySem.W.nsIn K mainGlobals "net_behind" = some (some (.ref a52)))
    (n48 : PySem.W.nsIn K mainGlobals "net_power" = some (some (.ref a53)))
    (n49 : PySem.W.nsIn K mainGlobals "_law_dice" = some (some (.ref a54)))
    (n50 : PySem.W.nsIn K mainGlobals "_law_roll" = some (some (.ref a55)))
    (n51 : PySem.W.nsIn K mainGlobals "_law_pick" = some (some (.ref a56)))
    (n52 : PySem.W.nsIn K mainGlobals "_law_one" = some (some (.ref a57)))
    (n53 : PySem.W.nsIn K mainGlobals "_law_first" = some (some (.ref a58)))
    (n54 : PySem.W.nsIn K mainGlobals "_law_made_right" = some (some (.ref a59)))
    (n55 : PySem.W.nsIn K mainGlobals "_law_right" = some (some (.ref a60)))
    (n56 : PySem.W.nsIn K mainGlobals "law" = some (some (.ref a61)))
    (gx1 : PySem.W.nsIn K mainGlobals "InvalidState" = some (some (.ref C1)))
    (gx2 : PySem.W.nsIn K mainGlobals "InvalidRule" = some (some (.ref C2)))
    (gx3 : PySem.W.nsIn K mainGlobals "InvalidNet" = some (some (.ref C3)))
    (gx4 : PySem.W.nsIn K mainGlobals "InvalidRoom" = some (some (.ref C4)))
    (gx5 : PySem.W.nsIn K mainGlobals "InvalidOperation" = some (some (.ref C5)))
    (gx6 : PySem.W.nsIn K mainGlobals "InvalidCount" = some (some (.ref C6)))
    (gx7 : PySem.W.nsIn K mainGlobals "TooMany" = some (some (.ref C7)))
    (gm : PySem.W.nsIn K mainGlobals "_law_met" = some (some (.ref g)))
    (m0 : PySem.W.nsIn K mainGlobals "MOST_HEEDED" = some (some (.int 10 t0)))
    (m1 : PySem.W.nsIn K mainGlobals "LAST_CELL" = some (some (.int 63 t1)))
    (m2 : PySem.W.nsIn K mainGlobals "MAX_CELLS" = some (some (.int 10 t2)))
    (m3 : PySem.W.nsIn K mainGlobals "MOST_LEAST" = some (some (.int 5 t3)))
    (m4 : PySem.W.nsIn K mainGlobals "MOST_TIMES" = some (some (.int 1000000 t4)))
    (s0 : PySem.W.nsIn K mainGlobals "TURNED" = some (some (.str "turned" ts0)))
    (s1 : PySem.W.nsIn K mainGlobals "UNLIKE" = some (some (.str "unlike" ts1)))
    (z0 : PySem.W.nsIn K mainGlobals "len" = some none)
    (z1 : PySem.W.nsIn K mainGlobals "tuple" = some none)
    (z2 : PySem.W.nsIn K mainGlobals "list" = some none)
    (z3 : PySem.W.nsIn K mainGlobals "all" = some none)
    (z4 : PySem.W.nsIn K mainGlobals "int" = some none)
    (z5 : PySem.W.nsIn K mainGlobals "abs" = some none)
    (z6 : PySem.W.nsIn K mainGlobals "sorted" = some none)
    (z7 : PySem.W.nsIn K mainGlobals "max" = some none)
    (z8 : PySem.W.nsIn K mainGlobals "min" = some none)
    (z9 : PySem.W.nsIn K mainGlobals "isinstance" = some none)
    (z10 : PySem.W.nsIn K mainGlobals "bool" = some none)
    (z11 : PySem.W.nsIn K mainGlobals "range" = some none)
    (z12 : PySem.W.nsIn K mainGlobals "zip" = some none)
    (z13 : PySem.W.nsIn K mainGlobals "enumerate" = some none)
    (z14 : PySem.W.nsIn K mainGlobals "repr" = some none)
    (z15 : PySem.W.nsIn K mainGlobals "set" = some none)
    (z16 : PySem.W.nsIn K mainGlobals "str" = some none)
    (zs : PySem.W.nsIn K mainGlobals "super" = some none)
    (fm16 : PySem.W.findIn K (.ref C8) "led_in" = some (some (.ref a16)))
    (fm17 : PySem.W.findIn K (.ref C8) "led" = some (some (.ref a17)))
    (fm18 : PySem.W.findIn K (.ref C8) "value" = some (some (.ref a18)))
    (fm19 : PySem.W.findIn K (.ref C8) "heeds" = some (some (.ref a19)))
    (fm20 : PySem.W.findIn K (.ref C8) "__len__" = some (some (.ref a20)))
    (fi8 : PySem.W.findIn K (.ref C8) "__init__" = some (some (.ref I8)))
    (fs8 : PySem.W.findIn K (.ref C8) "own_rules" = some (some (.ref p8)))
    (fi6 : PySem.W.findIn K (.ref C6) "__init__" = some (some (.ref I6)))
    (fi7 : PySem.W.findIn K (.ref C7) "__init__" = some (some (.ref I7)))
    (l0 : K.lookup a0 = some ⟨oc0, od0, .func (fo "is_integer" "is_integer" (tp 10) kV0 dc0 pm0 an0 cd0 ct0), sl0⟩)
    (c0 : PySem.W.codeIn K cd0 "is_integer" = true)
    (k0 : PySem.W.keepIn K (.ref a0) = true)
    (l1 : K.lookup a1 = some ⟨oc1, od1, .func (fo "is_within" "is_within" (tp 11) kV1 dc1 pm1 an1 cd1 ct1), sl1⟩)
    (c1 : PySem.W.codeIn K cd1 "is_within" = true)
    (k1 : PySem.W.keepIn K (.ref a1) = true)
    (l2 : K.lookup a2 = some ⟨oc2, od2, .func (fo "are_bits" "are_bits" (tp 12) kV2 dc2 pm2 an2 cd2 ct2), sl2⟩)
    (c2 : PySem.W.codeIn K cd2 "are_bits" = true)
    (k2 : PySem.W.keepIn K (.ref a2) = true)
    (l3 : K.lookup a3 = some ⟨oc3, od3, .func (fo "is_state_of" "is_state_of" (tp 13) kV3 dc3 pm3 an3 cd3 ct3), sl3⟩)
    (c3 : PySem.W.codeIn K cd3 "is_state_of" = true)
    (k3 : PySem.W.keepIn K (.ref a3) = true)
    (l4 : K.lookup a4 = some ⟨oc4, od4, .func (fo "are_cells_of" "are_cells_of" (tp 14) kV4 dc4 pm4 an4 cd4 ct4), sl4⟩)
    (c4 : PySem.W.codeIn K cd4 "are_cells_of" = true)
    (k4 : PySem.W.keepIn K (.ref a4) = true)
    (l5 : K.lookup a5 = some ⟨oc5, od5, .func (fo "count_of" "count_of" (tp 15) kV5 dc5 pm5 an5 cd5 ct5), sl5⟩)
    (c5 : PySem.W.codeIn K cd5 "count_of" = true)
    (k5 : PySem.W.keepIn K (.ref a5) = true)
    (l6 : K.lookup a6 = some ⟨oc6, od6, .func (fo "index_in" "index_in" (tp 16) kV6 dc6 pm6 an6 cd6 ct6), sl6⟩)
    (c6 : PySem.W.codeIn K cd6 "index_in" = true)
    (k6 : PySem.W.keepIn K (.ref a6) = true)
    (l7 : K.lookup a7 = some ⟨oc7, od7, .func (fo "states_of" "states_of" (tp 17) kV7 dc7 pm7 an7 cd7 ct7), sl7⟩)
    (c7 : PySem.W.codeIn K cd7 "states_of" = true)
    (k7 : PySem.W.keepIn K (.ref a7) = true)
    (l8 : K.lookup a8 = some ⟨oc8, od8, .func (fo "require_count" "require_count" (tp 18) kV8 dc8 pm8 an8 cd8 ct8), sl8⟩)
    (c8 : PySem.W.codeIn K cd8 "require_count" = true)
    (k8 : PySem.W.keepIn K (.ref a8) = true)
    (l9 : K.lookup a9 = some ⟨oc9, od9, .func (fo "is_rule_in" "is_rule_in" (tp 22) kV9 dc9 pm9 an9 cd9 ct9), sl9⟩)
    (c9 : PySem.W.codeIn K cd9 "is_rule_in" = true)
    (k9 : PySem.W.keepIn K (.ref a9) = true)
    (l10 : K.lookup a10 = some ⟨oc10, od10, .func (fo "without" "without" (tp 23) kV10 dc10 pm10 an10 cd10 ct10), sl10⟩)
    (c10 : PySem.W.codeIn K cd10 "without" = true)
    (k10 : PySem.W.keepIn K (.ref a10) = true)
    (l11 : K.lookup a11 = some ⟨oc11, od11, .func (fo "does_matter" "does_matter" (tp 24) kV11 dc11 pm11 an11 cd11 ct11), sl11⟩)
    (c11 : PySem.W.codeIn K cd11 "does_matter" = true)
    (k11 : PySem.W.keepIn K (.ref a11) = true)
    (l12 : K.lookup a12 = some ⟨oc12, od12, .func (fo "lean_in" "lean_in" (tp 25) kV12 dc12 pm12 an12 cd12 ct12), sl12⟩)
    (c12 : PySem.W.codeIn K cd12 "lean_in" = true)
    (k12 : PySem.W.keepIn K (.ref a12) = true)
    (l13 : K.lookup a13 = some ⟨oc13, od13, .func (fo "at_state" "at_state" (tp 26) kV13 dc13 pm13 an13 cd13 ct13), sl13⟩)
    (c13 : PySem.W.codeIn K cd13 "at_state" = true)
    (k13 : PySem.W.keepIn K (.ref a13) = true)
    (l14 : K.lookup a14 = some ⟨oc14, od14, .func (fo "are_rules" "are_rules" (tp 33) kV14 dc14 pm14 an14 cd14 ct14), sl14⟩)
    (c14 : PySem.W.codeIn K cd14 "are_rules" = true)
    (k14 : PySem.W.keepIn K (.ref a14) = true)
    (l15 : K.lookup I8 = some ⟨oc15, od15, .func (fo "__init__" "Net.__init__" (cb 34 1) kV15 dc15 pm15 an15 cd15 ct15), sl15⟩)
    (c15 : PySem.W.codeIn K cd15 "Net.__init__" = true)
    (k15 : PySem.W.keepIn K (.ref I8) = true)
    (l16 : K.lookup a16 = some ⟨oc16, od16, .func (fo "led_in" "Net.led_in" (cb 34 3) kV16 dc16 pm16 an16 cd16 ct16), sl16⟩)
    (c16 : PySem.W.codeIn K cd16 "Net.led_in" = true)
    (k16 : PySem.W.keepIn K (.ref a16) = true)
    (l17 : K.lookup a17 = some ⟨oc17, od17, .func (fo "led" "Net.led" (cb 34 4) kV17 dc17 pm17 an17 cd17 ct17), sl17⟩)
    (c17 : PySem.W.codeIn K cd17 "Net.led" = true)
    (k17 : PySem.W.keepIn K (.ref a17) = true)
    (l18 : K.lookup a18 = some ⟨oc18, od18, .func (fo "value" "Net.value" (cb 34 5) kV18 dc18 pm18 an18 cd18 ct18), sl18⟩)
    (c18 : PySem.W.codeIn K cd18 "Net.value" = true)
    (k18 : PySem.W.keepIn K (.ref a18) = true)
    (l19 : K.lookup a19 = some ⟨oc19, od19, .func (fo "heeds" "Net.heeds" (cb 34 6) kV19 dc19 pm19 an19 cd19 ct19), sl19⟩)
    (c19 : PySem.W.codeIn K cd19 "Net.heeds" = true)
    (k19 : PySem.W.keepIn K (.ref a19) = true)
    (l20 : K.lookup a20 = some ⟨oc20, od20, .func (fo "__len__" "Net.__len__" (cb 34 7) kV20 dc20 pm20 an20 cd20 ct20), sl20⟩)
    (c20 : PySem.W.codeIn K cd20 "Net.__len__" = true)
    (k20 : PySem.W.keepIn K (.ref a20) = true)
    (l21 : K.lookup a21 = some ⟨oc21, od21, .func (fo "table_in" "table_in" (tp 35) kV21 dc21 pm21 an21 cd21 ct21), sl21⟩)
    (c21 : PySem.W.codeIn K cd21 "table_in" = true)
    (k21 : PySem.W.keepIn K (.ref a21) = true)
    (l22 : K.lookup a22 = some ⟨oc22, od22, .func (fo "net_from" "net_from" (tp 36) kV22 dc22 pm22 an22 cd22 ct22), sl22⟩)
    (c22 : PySem.W.codeIn K cd22 "net_from" = true)
    (k22 : PySem.W.keepIn K (.ref a22) = true)
    (l23 : K.lookup a23 = some ⟨oc23, od23, .func (fo "renamed_rule" "renamed_rule" (tp 37) kV23 dc23 pm23 an23 cd23 ct23), sl23⟩)
    (c23 : PySem.W.codeIn K cd23 "renamed_rule" = true)
    (k23 : PySem.W.keepIn K (.ref a23) = true)
    (l24 : K.lookup a24 = some ⟨oc24, od24, .func (fo "renamed_rules" "renamed_rules" (tp 38) kV24 dc24 pm24 an24 cd24 ct24), sl24⟩)
    (c24 : PySem.W.codeIn K cd24 "renamed_rules" = true)
    (k24 : PySem.W.keepIn K (.ref a24) = true)
    (l25 : K.lookup a25 = some ⟨oc25, od25, .func (fo "switched_rule" "switched_rule" (tp 39) kV25 dc25 pm25 an25 cd25 ct25), sl25⟩)
    (c25 : PySem.W.codeIn K cd25 "switched_rule" = true)
    (k25 : PySem.W.keepIn K (.ref a25) = true)
    (l26 : K.lookup a26 = some ⟨oc26, od26, .func (fo "switched_rules" "switched_rules" (tp 40) kV26 dc26 pm26 an26 cd26 ct26), sl26⟩)
    (c26 : PySem.W.codeIn K cd26 "switched_rules" = true)
    (k26 : PySem.W.keepIn K (.ref a26) = true)
    (l27 : K.lookup a27 = some ⟨oc27, od27, .func (fo "sequences" "sequences" (tp 41) kV27 dc27 pm27 an27 cd27 ct27), sl27⟩)
    (c27 : PySem.W.codeIn K cd27 "sequences" = true)
    (k27 : PySem.W.keepIn K (.ref a27) = true)
    (l28 : K.lookup a28 = some ⟨oc28, od28, .func (fo "lots_of" "lots_of" (tp 42) kV28 dc28 pm28 an28 cd28 ct28), sl28⟩)
    (c28 : PySem.W.codeIn K cd28 "lots_of" = true)
    (k28 : PySem.W.keepIn K (.ref a28) = true)
    (l29 : K.lookup a29 = some ⟨oc29, od29, .func (fo "turned_rules" "turned_rules" (tp 43) kV29 dc29 pm29 an29 cd29 ct29), sl29⟩)
    (c29 : PySem.W.codeIn K cd29 "turned_rules" = true)
    (k29 : PySem.W.keepIn K (.ref a29) = true)
    (l30 : K.lookup a30 = some ⟨oc30, od30, .func (fo "least_rules" "least_rules" (tp 44) kV30 dc30 pm30 an30 cd30 ct30), sl30⟩)
    (c30 : PySem.W.codeIn K cd30 "least_rules" = true)
    (k30 : PySem.W.keepIn K (.ref a30) = true)
    (l31 : K.lookup a31 = some ⟨oc31, od31, .func (fo "is_names" "is_names" (tp 45) kV31 dc31 pm31 an31 cd31 ct31), sl31⟩)
    (c31 : PySem.W.codeIn K cd31 "is_names" = true)
    (k31 : PySem.W.keepIn K (.ref a31) = true)
    (l32 : K.lookup a32 = some ⟨oc32, od32, .func (fo "is_turning" "is_turning" (tp 46) kV32 dc32 pm32 an32 cd32 ct32), sl32⟩)
    (c32 : PySem.W.codeIn K cd32 "is_turning" = true)
    (k32 : PySem.W.keepIn K (.ref a32) = true)
    (l33 : K.lookup a33 = some ⟨oc33, od33, .func (fo "composed" "composed" (tp 47) kV33 dc33 pm33 an33 cd33 ct33), sl33⟩)
    (c33 : PySem.W.codeIn K cd33 "composed" = true)
    (k33 : PySem.W.keepIn K (.ref a33) = true)
    (l34 : K.lookup a34 = some ⟨oc34, od34, .func (fo "index_table" "index_table" (tp 48) kV34 dc34 pm34 an34 cd34 ct34), sl34⟩)
    (c34 : PySem.W.codeIn K cd34 "index_table" = true)
    (k34 : PySem.W.keepIn K (.ref a34) = true)
    (l35 : K.lookup a35 = some ⟨oc35, od35, .func (fo "require_net" "require_net" (tp 49) kV35 dc35 pm35 an35 cd35 ct35), sl35⟩)
    (c35 : PySem.W.codeIn K cd35 "require_net" = true)
    (k35 : PySem.W.keepIn K (.ref a35) = true)
    (l36 : K.lookup a36 = some ⟨oc36, od36, .func (fo "require_own_state" "require_own_state" (tp 50) kV36 dc36 pm36 an36 cd36 ct36), sl36⟩)
    (c36 : PySem.W.codeIn K cd36 "require_own_state" = true)
    (k36 : PySem.W.keepIn K (.ref a36) = true)
    (l37 : K.lookup a37 = some ⟨oc37, od37, .func (fo "require_own_cell" "require_own_cell" (tp 51) kV37 dc37 pm37 an37 cd37 ct37), sl37⟩)
    (c37 : PySem.W.codeIn K cd37 "require_own_cell" = true)
    (k37 : PySem.W.keepIn K (.ref a37) = true)
    (l38 : K.lookup a38 = some ⟨oc38, od38, .func (fo "require_own_cells" "require_own_cells" (tp 52) kV38 dc38 pm38 an38 cd38 ct38), sl38⟩)
    (c38 : PySem.W.codeIn K cd38 "require_own_cells" = true)
    (k38 : PySem.W.keepIn K (.ref a38) = true)
    (l39 : K.lookup a39 = some ⟨oc39, od39, .func (fo "require_few" "require_few" (tp 53) kV39 dc39 pm39 an39 cd39 ct39), sl39⟩)
    (c39 : PySem.W.codeIn K cd39 "require_few" = true)
    (k39 : PySem.W.keepIn K (.ref a39) = true)
    (l40 : K.lookup a40 = some ⟨oc40, od40, .func (fo "table_of" "table_of" (tp 54) kV40 dc40 pm40 an40 cd40 ct40), sl40⟩)
    (c40 : PySem.W.codeIn K cd40 "table_of" = true)
    (k40 : PySem.W.keepIn K (.ref a40) = true)
    (l41 : K.lookup a41 = some ⟨oc41, od41, .func (fo "is_table" "is_table" (tp 55) kV41 dc41 pm41 an41 cd41 ct41), sl41⟩)
    (c41 : PySem.W.codeIn K cd41 "is_table" = true)
    (k41 : PySem.W.keepIn K (.ref a41) = true)
    (l42 : K.lookup a42 = some ⟨oc42, od42, .func (fo "net_of_table" "net_of_table" (tp 56) kV42 dc42 pm42 an42 cd42 ct42), sl42⟩)
    (c42 : PySem.W.codeIn K cd42 "net_of_table" = true)
    (k42 : PySem.W.keepIn K (.ref a42) = true)
    (l43 : K.lookup a43 = some ⟨oc43, od43, .func (fo "renamed" "renamed" (tp 57) kV43 dc43 pm43 an43 cd43 ct43), sl43⟩)
    (c43 : PySem.W.codeIn K cd43 "renamed" = true)
    (k43 : PySem.W.keepIn K (.ref a43) = true)
    (l44 : K.lookup a44 = some ⟨oc44, od44, .func (fo "switched" "switched" (tp 58) kV44 dc44 pm44 an44 cd44 ct44), sl44⟩)
    (c44 : PySem.W.codeIn K cd44 "switched" = true)
    (k44 : PySem.W.keepIn K (.ref a44) = true)
    (l45 : K.lookup a45 = some ⟨oc45, od45, .func (fo "least_net" "least_net" (tp 59) kV45 dc45 pm45 an45 cd45 ct45), sl45⟩)
    (c45 : PySem.W.codeIn K cd45 "least_net" = true)
    (k45 : PySem.W.keepIn K (.ref a45) = true)
    (l46 : K.lookup a46 = some ⟨oc46, od46, .func (fo "require_two_few" "require_two_few" (tp 60) kV46 dc46 pm46 an46 cd46 ct46), sl46⟩)
    (c46 : PySem.W.codeIn K cd46 "require_two_few" = true)
    (k46 : PySem.W.keepIn K (.ref a46) = true)
    (l47 : K.lookup a47 = some ⟨oc47, od47, .func (fo "alike_in" "alike_in" (tp 61) kV47 dc47 pm47 an47 cd47 ct47), sl47⟩)
    (c47 : PySem.W.codeIn K cd47 "alike_in" = true)
    (k47 : PySem.W.keepIn K (.ref a47) = true)
    (l48 : K.lookup a48 = some ⟨oc48, od48, .func (fo "alike_by" "alike_by" (tp 62) kV48 dc48 pm48 an48 cd48 ct48), sl48⟩)
    (c48 : PySem.W.codeIn K cd48 "alike_by" = true)
    (k48 : PySem.W.keepIn K (.ref a48) = true)
    (l49 : K.lookup a49 = some ⟨oc49, od49, .func (fo "alike_paper" "alike_paper" (tp 63) kV49 dc49 pm49 an49 cd49 ct49), sl49⟩)
    (c49 : PySem.W.codeIn K cd49 "alike_paper" = true)
    (k49 : PySem.W.keepIn K (.ref a49) = true)
    (l50 : K.lookup a50 = some ⟨oc50, od50, .func (fo "is_alike_paper" "is_alike_paper" (tp 64) kV50 dc50 pm50 an50 cd50 ct50), sl50⟩)
    (c50 : PySem.W.codeIn K cd50 "is_alike_paper" = true)
    (k50 : PySem.W.keepIn K (.ref a50) = true)
    (l51 : K.lookup a51 = some ⟨oc51, od51, .func (fo "likenesses" "likenesses" (tp 65) kV51 dc51 pm51 an51 cd51 ct51), sl51⟩)
    (c51 : PySem.W.codeIn K cd51 "likenesses" = true)
    (k51 : PySem.W.keepIn K (.ref a51) = true)
    (l52 : K.lookup a52 = some ⟨oc52, od52, .func (fo "net_behind" "net_behind" (tp 66) kV52 dc52 pm52 an52 cd52 ct52), sl52⟩)
    (c52 : PySem.W.codeIn K cd52 "net_behind" = true)
    (k52 : PySem.W.keepIn K (.ref a52) = true)
    (l53 : K.lookup a53 = some ⟨oc53, od53, .func (fo "net_power" "net_power" (tp 67) kV53 dc53 pm53 an53 cd53 ct53), sl53⟩)
    (c53 : PySem.W.codeIn K cd53 "net_power" = true)
    (k53 : PySem.W.keepIn K (.ref a53) = true)
    (l54 : K.lookup a54 = some ⟨oc54, od54, .func (fo "_law_dice" "_law_dice" (tp 69) kV54 dc54 pm54 an54 cd54 ct54), sl54⟩)
    (c54 : PySem.W.codeIn K cd54 "_law_dice" = true)
    (k54 : PySem.W.keepIn K (.ref a54) = true)
    (l55 : K.lookup a55 = some ⟨oc55, od55, .func (fo "_law_roll" "_law_roll" (tp 70) kV55 dc55 pm55 an55 cd55 ct55), sl55⟩)
    (c55 : PySem.W.codeIn K cd55 "_law_roll" = true)
    (k55 : PySem.W.keepIn K (.ref a55) = true)
    (l56 : K.lookup a56 = some ⟨oc56, od56, .func (fo "_law_pick" "_law_pick" (tp 71) kV56 dc56 pm56 an56 cd56 ct56), sl56⟩)
    (c56 : PySem.W.codeIn K cd56 "_law_pick" = true)
    (k56 : PySem.W.keepIn K (.ref a56) = true)
    (l57 : K.lookup a57 = some ⟨oc57, od57, .func (fo "_law_one" "_law_one" (tp 72) kV57 dc57 pm57 an57 cd57 ct57), sl57⟩)
    (c57 : PySem.W.codeIn K cd57 "_law_one" = true)
    (k57 : PySem.W.keepIn K (.ref a57) = true)
    (l58 : K.lookup a58 = some ⟨oc58, od58, .func (fo "_law_first" "_law_first" (tp 73) kV58 dc58 pm58 an58 cd58 ct58), sl58⟩)
    (c58 : PySem.W.codeIn K cd58 "_law_first" = true)
    (k58 : PySem.W.keepIn K (.ref a58) = true)
    (l59 : K.lookup a59 = some ⟨oc59, od59, .func (fo "_law_made_right" "_law_made_right" (tp 75) kV59 dc59 pm59 an59 (.ref k59c) ct59), sl59⟩)
    (c59 : PySem.W.codeIn K (.ref k59c) "_law_made_right" = true)
    (k59 : PySem.W.keepIn K (.ref a59) = true)
    (u59 : K.lookup k59c = some ⟨vc59, vd59, .fields vs59, vx59⟩)
    (v59 : vs59[11]? = some (.ref k59p))
    (w59 : K.lookup k59p = none)
    (r59 : ((recsOf qv).find? fun e => e.name == ("_law_made_right" : Str)).isSome = true)
    (l60 : K.lookup a60 = some ⟨oc60, od60, .func (fo "_law_right" "_law_right" (tp 76) kV60 dc60 pm60 an60 (.ref k60c) ct60), sl60⟩)
    (c60 : PySem.W.codeIn K (.ref k60c) "_law_right" = true)
    (k60 : PySem.W.keepIn K (.ref a60) = true)
    (u60 : K.lookup k60c = some ⟨vc60, vd60, .fields vs60, vx60⟩)
    (v60 : vs60[11]? = some (.ref k60p))
    (w60 : K.lookup k60p = none)
    (r60 : ((recsOf qv).find? fun e => e.name == ("_law_right" : Str)).isSome = true)
    (l61 : K.lookup a61 = some ⟨oc61, od61, .func (fo "law" "law" (tp 77) kV61 dc61 pm61 an61 (.ref k61c) ct61), sl61⟩)
    (c61 : PySem.W.codeIn K (.ref k61c) "law" = true)
    (k61 : PySem.W.keepIn K (.ref a61) = true)
    (u61 : K.lookup k61c = some ⟨vc61, vd61, .fields vs61, vx61⟩)
    (v61 : vs61[11]? = some (.ref k61p))
    (w61 : K.lookup k61p = none)
    (r61 : ((recsOf qv).find? fun e => e.name == ("law" : Str)).isSome = true)
    (kC8 : PySem.W.keepIn K (.ref C8) = true)
    (mk8 : mkB K C8 I8 = true)
    (sc8 : sclB K C8 = true)
    (st8 : slotB K C8 p8 "own_rules" 0 = true)
    (si8 : isiB K C8 = true)
    (ki8 : kitsB K C8 = true)
    (me16 : methB K C8 a16 "led_in" = true)
    (me17 : methB K C8 a17 "led" = true)
    (me18 : methB K C8 a18 "value" = true)
    (me19 : methB K C8 a19 "heeds" = true)
    (me20 : methB K C8 a20 "__len__" = true)
    (lm : K.lookup g = some ⟨ocm, odm, .func (PySem.W.fnOf "_law_met" "_law_met" (defArgs (tp 74)) (defBody (tp 74)) (defScope (tp 74)) .none kVm dcm pmm anm cdm ctm), slm⟩)
    (cmm : PySem.W.codeIn K cdm "_law_met" = true)
    (km : PySem.W.keepIn K (.ref g) = true)
    (exm : exmB K (fun c => ([0, C1, C2, C3, C4, C5, C6, C7, C8] : List Addr).getD c 0) hs = true)
    (xo1 : exOwnB K C1 = true)
    (xo2 : exOwnB K C2 = true)
    (xo3 : exOwnB K C3 = true)
    (xo4 : exOwnB K C4 = true)
    (xo5 : exOwnB K C5 = true)
    (le6 : K.lookup I6 = some ⟨oe6, ode6, .func (PySem.W.ksFn "__init__" "InvalidCount.__init__" (defArgs (cb 7 0)) (defBody (cb 7 0)) (defScope (cb 7 0)) .none kVe6 dce6 pme6 ane6 (.ref cda6) cte6 cc6), sle6⟩)
    (xc6 : K.lookup cc6 = some ⟨cle6, clde6, .cell (some (.ref C6)), csle6⟩)
    (xd6 : K.lookup cda6 = some ⟨cce6, cdde6, .fields vse6, ccse6⟩)
    (xv6 : vse6[2]? = some (.str file6 tf6))
    (xw6 : (PySem.Challenge.pw_heedcells_k72_errors_of_nets.main.file == file6) = true)
    (xb6 : cntKB K C6 I6 cda6 "IndexError" "IndexError.__new__" "IndexError.__init__" [.type "IndexError", .type "LookupError", .type "Exception", .type "BaseException", .type "object"] "given" "InvalidCount.__init__" = true)
    (xf6 : xfB K C6 = true)
    (xn6 : PySem.W.findIn K (.ref C6) "given" = some none)
    (le7 : K.lookup I7 = some ⟨oe7, ode7, .func (PySem.W.ksFn "__init__" "TooMany.__init__" (defArgs (cb 8 0)) (defBody (cb 8 0)) (defScope (cb 8 0)) .none kVe7 dce7 pme7 ane7 (.ref cda7) cte7 cc7), sle7⟩)
    (xc7 : K.lookup cc7 = some ⟨cle7, clde7, .cell (some (.ref C7)), csle7⟩)
    (xd7 : K.lookup cda7 = some ⟨cce7, cdde7, .fields vse7, ccse7⟩)
    (xv7 : vse7[2]? = some (.str file7 tf7))
    (xw7 : (PySem.Challenge.pw_heedcells_k72_errors_of_nets.main.file == file7) = true)
    (xb7 : cntKB K C7 I7 cda7 "OverflowError" "OverflowError.__new__" "OverflowError.__init__" [.type "OverflowError", .type "ArithmeticError", .type "Exception", .type "BaseException", .type "object"] "limit" "TooMany.__init__" = true)
    (xf7 : xfB K C7 = true)
    (xn7 : PySem.W.findIn K (.ref C7) "limit" = some none)
    (ne59_60 : k59p ≠ k60p)
    (ne59_61 : k59p ≠ k61p)
    (ne60_61 : k60p ≠ k61p)
    (sy : Says Ds 10000 40 61) (hr : Room 40 callerA) : ∃ (cs : List (Addr × Addr)) (sp : Sp),
      (∀ p ∈ cs, PySem.W.CodeHd h p.1 p.2 ∧ h.get? p.2 = some teObj ∧ K.lookup p.2 = none) ∧
      (∀ (H : Hp) (a : Addr) (ns : List Int), ns.length ≤ 63 → (∀ p ∈ cs, H p.2 = some (.tbl #[])) → SqSc K H a (ns.map V.int) → sp [.ref a] H (fun v _ => v = .bl true) fun _ _ _ => False) ∧
      ∀ base : Heap, K.In base → base.Ns mainGlobals mg → (∀ p ∈ cs, LamX.TabB base mg p.1 p.2) → FnAt q w K mg base (L2.CX q w) callerA fa sp := by
  have e : a61 = fa := Value.ref.inj (Option.some.inj ((PySem.W.mg_of X G n56).symm.trans hfa))
  subst e
  subst hq
  refine fin_mk (T := TT K [a0, a1, a2, a3, a4, a5, a6, a7, a8, a9, a10, a11, a12, a13, a14, C8, a16, a17, a18, a19, a20, a21, a22, a23, a24, a25, a26, a27, a28, a29, a30, a31, a32, a33, a34, a35, a36, a37, a38, a39, a40, a41, a42, a43, a44, a45, a46, a47, a48, a49, a50, a51, a52, a53, a54, a55, a56, a57, a58, a59, a60, a61] [0, C1, C2, C3, C4, C5, C6, C7, C8] [(k59c, k59p, lamQ "_law_made_right"), (k60c, k60p, lamQ "_law_right"), (k61c, k61p, lamQ "law")]) (k := kx) (Ds := Ds) (ts := [(k59c, k59p, lamQ "_law_made_right"), (k60c, k60p, lamQ "_law_right"), (k61c, k61p, lamQ "law")]) (i := 61) rfl rfl ⟨tab_ok Tp X r59 n54 l59 rfl u59 v59 w59, tab_ok Tp X r60 n55 l60 rfl u60 v60 w60, tab_ok Tp X r61 n56 l61 rfl u61 v61 w61, True.intro⟩ (fun base kB nB tb => ?_) rfl sy hr
  obtain ⟨tb59, tb60, tb61, _⟩ := tb
  have to59 : TopOk (TT K [a0, a1, a2, a3, a4, a5, a6, a7, a8, a9, a10, a11, a12, a13, a14, C8, a16, a17, a18, a19, a20, a21, a22, a23, a24, a25, a26, a27, a28, a29, a30, a31, a32, a33, a34, a35, a36, a37, a38, a39, a40, a41, a42, a43, a44, a45, a46, a47, a48, a49, a50, a51, a52, a53, a54, a55, a56, a57, a58, a59, a60, a61] [0, C1, C2, C3, C4, C5, C6, C7, C8] [(k59c, k59p, lamQ "_law_made_right"), (k60c, k60p, lamQ "_law_right"), (k61c, k61p, lamQ "law")]) base mg "_law_made_right" (.ref k59c) := ⟨k59c, k59p, rfl, tb59, by simp, fun p hp e => by
    simp only [List.map_cons, List.map_nil, List.mem_cons, List.not_mem_nil, or_false] at hp
    rcases hp with rfl | rfl | rfl
    · rfl
    · exact absurd e (Ne.symm ne59_60)
    · exact absurd e (Ne.symm ne59_61)⟩
  have to60 : TopOk (TT K [a0, a1, a2, a3, a4, a5, a6, a7, a8, a9, a10, a11, a12, a13, a14, C8, a16, a17, a18, a19, a20, a21, a22, a23, a24, a25, a26, a27, a28, a29, a30, a31, a32, a33, a34, a35, a36, a37, a38, a39, a40, a41, a42, a43, a44, a45, a46, a47, a48, a49, a50, a51, a52, a53, a54, a55, a56, a57, a58, a59, a60, a61] [0, C1, C2, C3, C4, C5, C6, C7, C8] [(k59c, k59p, lamQ "_law_made_right"), (k60c, k60p, lamQ "_law_right"), (k61c, k61p, lamQ "law")]) base mg "_law_right" (.ref k60c) := ⟨k60c, k60p, rfl, tb60, by simp, fun p hp e => by
    simp only [List.map_cons, List.map_nil, List.mem_cons, List.not_mem_nil, or_false] at hp
    rcases hp with rfl | rfl | rfl
    · exact absurd e ne59_60
    · rfl
    · exact absurd e (Ne.symm ne60_61)⟩
  have to61 : TopOk (TT K [a0, a1, a2, a3, a4, a5, a6, a7, a8, a9, a10, a11, a12, a13, a14, C8, a16, a17, a18, a19, a20, a21, a22, a23, a24, a25, a26, a27, a28, a29, a30, a31, a32, a33, a34, a35, a36, a37, a38, a39, a40, a41, a42, a43, a44, a45, a46, a47, a48, a49, a50, a51, a52, a53, a54, a55, a56, a57, a58, a59, a60, a61] [0, C1, C2, C3, C4, C5, C6, C7, C8] [(k59c, k59p, lamQ "_law_made_right"), (k60c, k60p, lamQ "_law_right"), (k61c, k61p, lamQ "law")]) base mg "law" (.ref k61c) := ⟨k61c, k61p, rfl, tb61, by simp, fun p hp e => by
    simp only [List.map_cons, List.map_nil, List.mem_cons, List.not_mem_nil, or_false] at hp
    rcases hp with rfl | rfl | rfl
    · exact absurd e ne59_61
    · exact absurd e ne60_61
    · rfl⟩
  exact tx_of (as := [a0, a1, a2, a3, a4, a5, a6, a7, a8, a9, a10, a11, a12, a13, a14, C8, a16, a17, a18, a19, a20, a21, a22, a23, a24, a25, a26, a27, a28, a29, a30, a31, a32, a33, a34, a35, a36, a37, a38, a39, a40, a41, a42, a43, a44, a45, a46, a47, a48, a49, a50, a51, a52, a53, a54, a55, a56, a57, a58, a59, a60, a61]) (fun _ => rfl) rfl
    ⟨⟨a0, rfl, PySem.W.mg_of X G n0⟩, ⟨a1, rfl, PySem.W.mg_of X G n1⟩, ⟨a2, rfl, PySem.W.mg_of X G n2⟩, ⟨a3, rfl, PySem.W.mg_of X G n3⟩, ⟨a4, rfl, PySem.W.mg_of X G n4⟩, ⟨a5, rfl, PySem.W.mg_of X G n5⟩, ⟨a6, rfl, PySem.W.mg_of X G n6⟩, ⟨a7, rfl, PySem.W.mg_of X G n7⟩, ⟨a8, rfl, PySem.W.mg_of X G n8⟩, ⟨a9, rfl, PySem.W.mg_of X G n9⟩, ⟨a10, rfl, PySem.W.mg_of X G n10⟩, ⟨a11, rfl, PySem.W.mg_of X G n11⟩, ⟨a12, rfl, PySem.W.mg_of X G n12⟩, ⟨a13, rfl, PySem.W.mg_of X G n13⟩, ⟨a14, rfl, PySem.W.mg_of X G n14⟩, ⟨C8, rfl, PySem.W.mg_of X G n15⟩, ⟨a21, rfl, PySem.W.mg_of X G n16⟩, ⟨a22, rfl, PySem.W.mg_of X G n17⟩, ⟨a23, rfl, PySem.W.mg_of X G n18⟩, ⟨a24, rfl, PySem.W.mg_of X G n19⟩, ⟨a25, rfl, PySem.W.mg_of X G n20⟩, ⟨a26, rfl, PySem.W.mg_of X G n21⟩, ⟨a27, rfl, PySem.W.mg_of X G n22⟩, ⟨a28, rfl, PySem.W.mg_of X G n23⟩, ⟨a29, rfl, PySem.W.mg_of X G n24⟩, ⟨a30, rfl, PySem.W.mg_of X G n25⟩, ⟨a31, rfl, PySem.W.mg_of X G n26⟩, ⟨a32, rfl, PySem.W.mg_of X G n27⟩, ⟨a33, rfl, PySem.W.mg_of X G n28⟩, ⟨a34, rfl, PySem.W.mg_of X G n29⟩, ⟨a35, rfl, PySem.W.mg_of X G n30⟩, ⟨a36, rfl, PySem.W.mg_of X G n31⟩, ⟨a37, rfl, PySem.W.mg_of X G n32⟩, ⟨a38, rfl, PySem.W.mg_of X G n33⟩, ⟨a39, rfl, PySem.W.mg_of X G n34⟩, ⟨a40, rfl, PySem.W.mg_of X G n35⟩, ⟨a41, rfl, PySem.W.mg_of X G n36⟩, ⟨a42, rfl, PySem.W.mg_of X G n37⟩, ⟨a43, rfl, PySem.W.mg_of X G n38⟩, ⟨a44, rfl, PySem.W.mg_of X G n39⟩, ⟨a45, rfl, PySem.W.mg_of X G n40⟩, ⟨a46, rfl, PySem.W.mg_of X G n41⟩, ⟨a47, rfl, PySem.W.mg_of X G n42⟩, ⟨a48, rfl, PySem.W.mg_of X G n43⟩, ⟨a49, rfl, PySem.W.mg_of X G n44⟩, ⟨a50, rfl, PySem.W.mg_of X G n45⟩, ⟨a51, rfl, PySem.W.mg_of X G n46⟩, ⟨a52, rfl, PySem.W.mg_of X G n47⟩, ⟨a53, rfl, PySem.W.mg_of X G n48⟩, ⟨a54, rfl, PySem.W.mg_of X G n49⟩, ⟨a55, rfl, PySem.W.mg_of X G n50⟩, ⟨a56, rfl, PySem.W.mg_of X G n51⟩, ⟨a57, rfl, PySem.W.mg_of X G n52⟩, ⟨a58, rfl, PySem.W.mg_of X G n53⟩, ⟨a59, rfl, PySem.W.mg_of X G n54⟩, ⟨a60, rfl, PySem.W.mg_of X G n55⟩, ⟨a61, rfl, PySem.W.mg_of X G n56⟩, True.intro⟩
    ⟨⟨t0, PySem.W.mg_of X G m0⟩, ⟨t1, PySem.W.mg_of X G m1⟩, ⟨t2, PySem.W.mg_of X G m2⟩, ⟨t3, PySem.W.mg_of X G m3⟩, ⟨t4, PySem.W.mg_of X G m4⟩, True.intro⟩
    ⟨⟨ts0, PySem.W.mg_of X G s0⟩, ⟨ts1, PySem.W.mg_of X G s1⟩, True.intro⟩
    ⟨PySem.W.mg_none_of X G z0, PySem.W.mg_none_of X G z1, PySem.W.mg_none_of X G z2, PySem.W.mg_none_of X G z3, PySem.W.mg_none_of X G z4, PySem.W.mg_none_of X G z5, PySem.W.mg_none_of X G z6, PySem.W.mg_none_of X G z7, PySem.W.mg_none_of X G z8, PySem.W.mg_none_of X G z9, PySem.W.mg_none_of X G z10, PySem.W.mg_none_of X G z11, PySem.W.mg_none_of X G z12, PySem.W.mg_none_of X G z13, PySem.W.mg_none_of X G z14, PySem.W.mg_none_of X G z15, PySem.W.mg_none_of X G z16, True.intro⟩
    ⟨d0 l0 c0 k0, d1 l1 c1 k1, d2 l2 c2 k2, d3 l3 c3 k3, d4 l4 c4 k4, d5 l5 c5 k5, d6 l6 c6 k6, d7 l7 c7 k7, d8 l8 c8 k8, d9 l9 c9 k9, d10 l10 c10 k10, d11 l11 c11 k11, d12 l12 c12 k12, d13 l13 c13 k13, d14 l14 c14 k14, d15 rfl l15 c15 k15 kC8 mk8 sc8 st8, d16 l16 c16 k16, d17 l17 c17 k17, d18 l18 c18 k18, d19 l19 c19 k19, d20 l20 c20 k20, d21 l21 c21 k21, d22 l22 c22 k22, d23 l23 c23 k23, d24 l24 c24 k24, d25 l25 c25 k25, d26 l26 c26 k26, d27 l27 c27 k27, d28 l28 c28 k28, d29 l29 c29 k29, d30 l30 c30 k30, d31 l31 c31 k31, d32 l32 c32 k32, d33 l33 c33 k33, d34 l34 c34 k34, d35 l35 c35 k35, d36 l36 c36 k36, d37 l37 c37 k37, d38 l38 c38 k38, d39 l39 c39 k39, d40 l40 c40 k40, d41 l41 c41 k41, d42 l42 c42 k42, d43 l43 c43 k43, d44 l44 c44 k44, d45 l45 c45 k45, d46 l46 c46 k46, d47 l47 c47 k47, d48 l48 c48 k48, d49 l49 c49 k49, d50 l50 c50 k50, d51 l51 c51 k51, d52 l52 c52 k52, d53 l53 c53 k53, d54 l54 c54 k54, d55 l55 c55 k55, d56 l56 c56 k56, d57 l57 c57 k57, d58 l58 c58 k58, d59 l59 c59 k59 to59, d60 l60 c60 k60 to60, d61 l61 c61 k61 to61, True.intro⟩
    ⟨tm (PySem.W.mg_of X G gm) lm cmm km (PySem.W.mg_none_of X G z14) exm (PySem.W.mg_of X G gx3) (PySem.W.mg_of X G gx1) (PySem.W.mg_of X G gx2) (PySem.W.mg_of X G gx4) (PySem.W.mg_of X G gx5) (PySem.W.mg_of X G gx6) (xfB_ok xf6) xn6 rfl (PySem.W.mg_of X G gx7) (xfB_ok xf7) xn7 rfl, True.intro⟩
    ⟨exOwn_ok rfl xo1 (PySem.W.mg_of X G gx1) rfl rfl (by decide), exOwn_ok rfl xo2 (PySem.W.mg_of X G gx2) rfl rfl (by decide), exOwn_ok rfl xo3 (PySem.W.mg_of X G gx3) rfl rfl (by decide), exOwn_ok rfl xo4 (PySem.W.mg_of X G gx4) rfl rfl (by decide), exOwn_ok rfl xo5 (PySem.W.mg_of X G gx5) rfl rfl (by decide), cnt_ok PySem.F.excBase_IndexError PySem.W.kxs_IndexError PySem.F.store_IndexError e6 rfl le6 xc6 xd6 xv6 xw6 xb6 (PySem.W.mg_none_of X G zs) (PySem.W.mg_of X G gx6) rfl rfl (by decide), cnt_ok PySem.F.excBase_OverflowError PySem.W.kxs_OverflowError PySem.F.store_OverflowError e7 rfl le7 xc7 xd7 xv7 xw7 xb7 (PySem.W.mg_none_of X G zs) (PySem.W.mg_of X G gx7) rfl rfl (by decide), True.intro⟩
    (cx_of ⟨⟨PySem.W.mg_of X G n15, (kits_ok ki8).1, scl_ok sc8, isi_ok si8, (kits_ok ki8).2⟩, True.intro⟩ ⟨⟨p8, scl_ok sc8, slot_ok st8⟩, True.intro⟩ ⟨⟨a16, rfl, scl_ok sc8, meth_ok me16⟩, ⟨a17, rfl, scl_ok sc8, meth_ok me17⟩, ⟨a18, rfl, scl_ok sc8, meth_ok me18⟩, ⟨a19, rfl, scl_ok sc8, meth_ok me19⟩, ⟨a20, rfl, scl_ok sc8, meth_ok me20⟩, True.intro⟩ (fun c j e => by cases e; exact ⟨a20, rfl, (meth_ok me20).at_, (meth_ok me20).fn⟩))
end Hc72
set_option Elab.async false
set_option linter.all false
set_option maxRecDepth 100000
set_option maxHeartbeats 4000000
namespace Hc72
open Mi
noncomputable section
def gv : Rs AV → AV | .ok v _ => v | _ => .non
def F0 : FT := ⟨noF, 10000, noF⟩
def FL : FT := ftT (sem Ds 10000) 10000 35
/-! _law_right -/
def FR_law_right : FT := ftT (sem Ds 10000) 10000 33
theorem right_one : OneF FR_law_right 57 := oneF_of (n := 31) (d := f57) (kr := 55) (kp := 56) rfl rfl rfl rfl rfl rfl rfl (rollF_of (n := 29) (d := f55) (q := 179) rfl rfl rfl rfl rfl rfl rfl (.inl rfl)) (pickF_of (n := 29) (d := f56) (kr := 55) rfl rfl rfl rfl rfl rfl rfl (rollF_of (n := 27) (d := f55) (q := 179) rfl rfl rfl rfl rfl rfl rfl (.inl rfl)))
theorem right_pick : PickF FR_law_right 56 := pickF_of (n := 31) (d := f56) (kr := 55) rfl rfl rfl rfl rfl rfl rfl (rollF_of (n := 29) (d := f55) (q := 179) rfl rfl rfl rfl rfl rfl rfl (.inl rfl))
def right_r0 : A := (.sA 1 (.fz (.call 15 (.cons (.tup (.cons (.tup (.cons (.tup (.cons (.int 1) Z)) (.cons (.tup (.cons (.int 0) (.cons (.int 1) Z))) Z))) (.cons (.tup (.cons (.tup (.cons (.int 0) Z)) (.cons (.tup (.cons (.int 1) (.cons (.int 0) Z))) Z))) Z))) Z))))
def right_r1 : A := (.sA 2 (.fz (.lst (.cons .non (.cons (.int 0) (.cons (.tup Z) (.cons (.tup (.cons (.tup (.cons (.tup (.cons (.int 1) Z)) (.cons (.tup (.cons (.int 0) (.cons (.int 1) Z))) Z))) Z)) (.cons (.str "net") (.cons .dnil Z)))))))))
def right_r2 : A := (.sG (.gt (.cons (.gn 3) (.cons (.gn 4) Z))) (.fz (.call 57 (.cons (.var 0) (.cons (.var 1) (.cons (.var 2) Z))))))
def right_r3 : A := (.sG (.gt (.cons (.gn 5) (.cons (.gn 6) Z))) (.fz (.call 57 (.cons (.var 0) (.cons (.fz (.call 56 (.cons (.var 0) (.cons (.fz (.lst (.cons (.var 1) (.cons (.fz (.call 15 (.cons (.tup (.cons (.tup (.cons (.tup Z) (.cons (.tup (.cons (.int 1) Z)) Z))) Z)) Z))) Z)))) Z)))) (.cons (.var 2) Z))))))
def right_r4 : A := (.sP [7, 8] (.cons (.tup (.cons (.str "net") (.cons (.var 4) Z))) (.cons (.tup (.cons (.str "net") (.cons (.var 6) Z))) Z)))
def right_r5 : A := (.sFor (.gn 9) (.itE (.tup (.cons (.fnm 40) (.cons (.fnm 45) (.cons (.fnm 51) Z))))) (.cons (.sIf (.cmp .ne (.met hs (.calv 9 (.cons (.var 3) Z))) (.call 58 (.cons (.fz (.lst (.cons (.var 7) Z))) Z))) (.cons (.sR (.bl false)) Z) Z) Z))
def right_r6 : A := (.sG (.gt (.cons (.gn 10) (.cons (.gn 11) Z))) (.fz (.call 57 (.cons (.var 0) (.cons (.tup (.cons (.int 1) (.cons (.int 0) Z))) (.cons (.fz (.lst (.cons .non (.cons (.tup (.cons (.int 0) Z)) (.cons (.tup (.cons (.int 0) (.cons (.int 0) Z))) (.cons (.tup (.cons (.int 0) (.cons (.int 2) Z))) (.cons (.fz (.lst (.cons (.int 0) (.cons (.int 1) Z)))) (.cons (.tup (.cons (.int 0) (.cons (.bl true) Z))) (.cons (.tup (.cons (.int 0) (.cons (.int 1) (.cons (.int 2) Z)))) Z))))))))) Z))))))
def right_r7 : A := (.sIf (.cmp .ne (.met hs (.call 43 (.cons (.var 3) (.cons (.var 10) Z)))) (.call 58 (.cons (.fz (.lst (.cons (.var 7) (.cons (.tup (.cons (.str "operation") (.cons (.var 11) Z))) Z)))) Z))) (.cons (.sR (.bl false)) Z) Z)
def right_r8 : A := (.sG (.gt (.cons (.gn 12) (.cons (.gn 13) Z))) (.fz (.call 57 (.cons (.var 0) (.cons (.fz (.call 56 (.cons (.var 0) (.cons (.fz (.lst (.cons (.tup Z) (.cons (.tup (.cons (.int 0) Z)) (.cons (.tup (.cons (.int 0) (.cons (.int 1) Z))) Z))))) Z)))) (.cons (.fz (.lst (.cons .non (.cons (.tup (.cons (.int 1) (.cons (.int 0) Z))) (.cons (.tup (.cons (.int 0) (.cons (.int 0) Z))) (.cons (.tup (.cons (.int 2) Z)) (.cons (.fz (.lst (.cons (.int 0) Z))) (.cons (.tup (.cons (.bl true) Z)) (.cons (.int 0) Z))))))))) Z))))))
def right_r9 : A := (.sIf (.cmp .ne (.met hs (.call 44 (.cons (.var 3) (.cons (.var 12) Z)))) (.call 58 (.cons (.fz (.lst (.cons (.var 7) (.cons (.tup (.cons (.str "operation") (.cons (.var 13) Z))) Z)))) Z))) (.cons (.sR (.bl false)) Z) Z)
def right_r10 : A := (.sFor (.gn 9) (.itE (.tup (.cons (.fnm 48) (.cons (.fnm 49) Z)))) (.cons (.sIf (.cmp .ne (.met hs (.calv 9 (.cons (.var 3) (.cons (.var 5) Z)))) (.call 58 (.cons (.fz (.lst (.cons (.var 7) (.cons (.var 8) Z)))) Z))) (.cons (.sR (.bl false)) Z) Z) Z))
def right_r11 : A := (.sIf (.cmp .ne (.met hs (.call 50 (.cons (.var 3) (.cons (.var 5) (.cons (.var 2) Z))))) (.call 58 (.cons (.fz (.lst (.cons (.var 7) (.cons (.var 8) Z)))) Z))) (.cons (.sR (.bl false)) Z) Z)
def right_r12 : A := (.sA 14 (.fz (.and (.not (.var 4)) (.and (.not (.var 6)) (.one (.cmp .ne (.lenO 8 20 (.var 3)) (.lenO 8 20 (.var 5))))))))
def right_r13 : A := (.sIf (.cmp .ne (.met hs (.call 52 (.cons (.var 3) (.cons (.var 5) Z)))) (.call 58 (.cons (.fz (.lst (.cons (.var 7) (.cons (.var 8) (.cons (.tup (.cons (.str "operation") (.cons (.var 14) Z))) Z))))) Z))) (.cons (.sR (.bl false)) Z) Z)
def right_r14 : A := (.sG (.gt (.cons (.gn 15) (.cons (.gn 16) Z))) (.fz (.call 57 (.cons (.var 0) (.cons (.fz (.call 56 (.cons (.var 0) (.cons (.fz (.lst (.cons (.int 0) (.cons (.int 3) (.cons (.bin .pow (.int 10) (.int 6)) Z))))) Z)))) (.cons (.fz (.lst (.cons (.neg (.int 1)) (.cons (.fz (.bin .add (.bin .pow (.int 10) (.int 6)) (.int 1))) (.cons (.bl true) (.cons .non (.cons (.str "1") Z))))))) Z))))))
def right_r15 : A := (.sIf (.cmp .ne (.met hs (.call 53 (.cons (.var 3) (.cons (.var 15) Z)))) (.call 58 (.cons (.fz (.lst (.cons (.var 7) (.cons (.tup (.cons (.fz (.bin .add (.str "count ") (.repr (.var 15)))) (.cons (.var 16) Z))) Z)))) Z))) (.cons (.sR (.bl false)) Z) Z)
def right_r16 : A := (.sG (.gt (.cons (.gn 17) (.cons (.gn 18) Z))) (.fz (.call 57 (.cons (.var 0) (.cons (.tup (.cons (.int 0) (.cons (.int 1) Z))) (.cons (.fz (.lst (.cons .non (.cons (.tup (.cons (.int 0) Z)) (.cons (.tup (.cons (.int 0) (.cons (.int 2) Z))) (.cons (.fz (.lst (.cons (.int 0) (.cons (.int 1) Z)))) (.cons (.tup (.cons (.int 0) (.cons (.int 1) (.cons (.int 0) Z)))) (.cons (.tup (.cons (.int 0) (.cons (.bl true) Z))) (.cons (.str "01") Z))))))))) Z))))))
def right_r17 : A := (.sG (.gt (.cons (.gn 19) (.cons (.gn 20) Z))) (.fz (.call 57 (.cons (.var 0) (.cons (.fz (.call 56 (.cons (.var 0) (.cons (.fz (.lst (.cons (.int 0) (.cons (.int 1) Z)))) Z)))) (.cons (.fz (.lst (.cons (.neg (.int 1)) (.cons (.int 2) (.cons (.bl true) (.cons .non (.cons (.str "0") Z))))))) Z))))))
def right_r18 : A := (.sIf (.cmp .ne (.met hs (.meth 8 17 (.var 1) (.cons (.var 17) Z))) (.call 58 (.cons (.fz (.lst (.cons (.tup (.cons (.str "state") (.cons (.var 18) Z))) Z))) Z))) (.cons (.sR (.bl false)) Z) Z)
def right_r19 : A := (.sA 21 (.tup (.cons (.fz (.bin .add (.str "count ") (.repr (.var 19)))) (.cons (.var 20) Z))))
def right_r20 : A := (.sIf (.cmp .ne (.met hs (.meth 8 19 (.var 1) (.cons (.var 19) Z))) (.call 58 (.cons (.fz (.lst (.cons (.var 21) Z))) Z))) (.cons (.sR (.bl false)) Z) Z)
def right_r21 : A := (.sR (.cmp .eq (.met hs (.meth 8 18 (.var 1) (.cons (.var 19) (.cons (.var 17) Z)))) (.call 58 (.cons (.fz (.lst (.cons (.var 21) (.cons (.tup (.cons (.str "state") (.cons (.var 18) Z))) Z)))) Z))))
theorem right_eq : f60.body = (.cons right_r0 (.cons right_r1 (.cons right_r2 (.cons right_r3 (.cons right_r4 (.cons right_r5 (.cons right_r6 (.cons right_r7 (.cons right_r8 (.cons right_r9 (.cons right_r10 (.cons right_r11 (.cons right_r12 (.cons right_r13 (.cons right_r14 (.cons right_r15 (.cons right_r16 (.cons right_r17 (.cons right_r18 (.cons right_r19 (.cons right_r20 (.cons right_r21 Z)))))))))))))))))))))) := rfl
theorem right_d0 (z1 z2 z3 z4 z5 z6 z7 z8 z9 z10 z11 z12 z13 z14 z15 z16 z17 z18 z19 z20 z21 : Option AV) (m : AH) : (den right_r0).s FR_law_right [some (.ref 0), z1, z2, z3, z4, z5, z6, z7, z8, z9, z10, z11, z12, z13, z14, z15, z16, z17, z18, z19, z20, z21] m = .nx [some (.ref 0), some (.obj 8 [(.tup [(.tup [(.tup [(.int 1)]), (.tup [(.int 0), (.int 1)])]), (.tup [(.tup [(.int 0)]), (.tup [(.int 1), (.int 0)])])])]), z2, z3, z4, z5, z6, z7, z8, z9, z10, z11, z12, z13, z14, z15, z16, z17, z18, z19, z20, z21] m := by kernel_rfl
theorem right_d1 (z1 z2 z3 z4 z5 z6 z7 z8 z9 z10 z11 z12 z13 z14 z15 z16 z17 z18 z19 z20 z21 : Option AV) (m : AH) : (den right_r1).s FR_law_right [some (.ref 0), z1, z2, z3, z4, z5, z6, z7, z8, z9, z10, z11, z12, z13, z14, z15, z16, z17, z18, z19, z20, z21] m = .nx [some (.ref 0), z1, some (.fl [.non, (.int 0), (.tup []), (.tup [(.tup [(.tup [(.int 1)]), (.tup [(.int 0), (.int 1)])])]), (.str "net"), (.fd [] [])]), z3, z4, z5, z6, z7, z8, z9, z10, z11, z12, z13, z14, z15, z16, z17, z18, z19, z20, z21] m := by kernel_rfl
def right_T0v : List AV := [(.obj 8 [(.tup [(.tup [(.tup [(.int 1)]), (.tup [(.int 0), (.int 1)])]), (.tup [(.tup [(.int 0)]), (.tup [(.int 1), (.int 0)])])])])]
def right_T0w : List AV := [.non, (.int 0), (.tup []), (.tup [(.tup [(.tup [(.int 1)]), (.tup [(.int 0), (.int 1)])])]), (.str "net"), (.fd [] [])]
abbrev right_T0 : List (AV × Bool) := tbl right_T0v right_T0w
theorem right_T0hv (z3 z4 z5 z6 z7 z8 z9 z10 z11 z12 z13 z14 z15 z16 z17 z18 z19 z20 z21 : Option AV) (o : AO) : (den (.var 1)).e false FR_law_right [some (.ref 0), some (.obj 8 [(.tup [(.tup [(.tup [(.int 1)]), (.tup [(.int 0), (.int 1)])]), (.tup [(.tup [(.int 0)]), (.tup [(.int 1), (.int 0)])])])]), some (.fl [.non, (.int 0), (.tup []), (.tup [(.tup [(.tup [(.int 1)]), (.tup [(.int 0), (.int 1)])])]), (.str "net"), (.fd [] [])]), z3, z4, z5, z6, z7, z8, z9, z10, z11, z12, z13, z14, z15, z16, z17, z18, z19, z20, z21] [o] = .ok (.obj 8 [(.tup [(.tup [(.tup [(.int 1)]), (.tup [(.int 0), (.int 1)])]), (.tup [(.tup [(.int 0)]), (.tup [(.int 1), (.int 0)])])])]) [o] := by kernel_rfl
theorem right_T0hw (z3 z4 z5 z6 z7 z8 z9 z10 z11 z12 z13 z14 z15 z16 z17 z18 z19 z20 z21 : Option AV) (o : AO) : (den (.var 2)).e false FR_law_right [some (.ref 0), some (.obj 8 [(.tup [(.tup [(.tup [(.int 1)]), (.tup [(.int 0), (.int 1)])]), (.tup [(.tup [(.int 0)]), (.tup [(.int 1), (.int 0)])])])]), some (.fl [.non, (.int 0), (.tup []), (.tup [(.tup [(.tup [(.int 1)]), (.tup [(.int 0), (.int 1)])])]), (.str "net"), (.fd [] [])]), z3, z4, z5, z6, z7, z8, z9, z10, z11, z12, z13, z14, z15, z16, z17, z18, z19, z20, z21] [o] = .ok (.fl right_T0w) [o] := by kernel_rfl
def right_T1v : List AV := [(.obj 8 [(.tup [(.tup [(.tup [(.int 1)]), (.tup [(.int 0), (.int 1)])]), (.tup [(.tup [(.int 0)]), (.tup [(.int 1), (.int 0)])])])]), (.obj 8 [(.tup [(.tup [(.tup []), (.tup [(.int 1)])])])])]
def right_T1w : List AV := [.non, (.int 0), (.tup []), (.tup [(.tup [(.tup [(.int 1)]), (.tup [(.int 0), (.int 1)])])]), (.str "net"), (.fd [] [])]
abbrev right_T1 : List (AV × Bool) := tbl right_T1v right_T1w
theorem right_T1hv (z3 z4 z5 z6 z7 z8 z9 z10 z11 z12 z13 z14 z15 z16 z17 z18 z19 z20 z21 : Option AV) (o : AO) : (den (.fz (.lst (.cons (.var 1) (.cons (.fz (.call 15 (.cons (.tup (.cons (.tup (.cons (.tup Z) (.cons (.tup (.cons (.int 1) Z)) Z))) Z)) Z))) Z))))).e false FR_law_right [some (.ref 0), some (.obj 8 [(.tup [(.tup [(.tup [(.int 1)]), (.tup [(.int 0), (.int 1)])]), (.tup [(.tup [(.int 0)]), (.tup [(.int 1), (.int 0)])])])]), some (.fl [.non, (.int 0), (.tup []), (.tup [(.tup [(.tup [(.int 1)]), (.tup [(.int 0), (.int 1)])])]), (.str "net"), (.fd [] [])]), z3, z4, z5, z6, z7, z8, z9, z10, z11, z12, z13, z14, z15, z16, z17, z18, z19, z20, z21] [o] = .ok (.fl right_T1v) [o] := by kernel_rfl
theorem right_T1hw (z3 z4 z5 z6 z7 z8 z9 z10 z11 z12 z13 z14 z15 z16 z17 z18 z19 z20 z21 : Option AV) (o : AO) : (den (.var 2)).e false FR_law_right [some (.ref 0), some (.obj 8 [(.tup [(.tup [(.tup [(.int 1)]), (.tup [(.int 0), (.int 1)])]), (.tup [(.tup [(.int 0)]), (.tup [(.int 1), (.int 0)])])])]), some (.fl [.non, (.int 0), (.tup []), (.tup [(.tup [(.tup [(.int 1)]), (.tup [(.int 0), (.int 1)])])]), (.str "net"), (.fd [] [])]), z3, z4, z5, z6, z7, z8, z9, z10, z11, z12, z13, z14, z15, z16, z17, z18, z19, z20, z21] [o] = .ok (.fl right_T1w) [o] := by kernel_rfl
def right_D4_7 (q0 : AV × Bool) : AV := gv ((den (.tup (.cons (.str "net") (.cons (.var 4) Z)))).e true FR_law_right [none, none, none, none, some (.bl q0.2), none, none, none, none, none, none, none, none, none, none, none, none, none, none, none, none, none] [])
def right_D4_8 (q1 : AV × Bool) : AV := gv ((den (.tup (.cons (.str "net") (.cons (.var 6) Z)))).e true FR_law_right [none, none, none, none, none, none, some (.bl q1.2), none, none, none, none, none, none, none, none, none, none, none, none, none, none, none] [])
theorem right_d4 (z1 z2 z3 z5 z7 z8 z9 z10 z11 z12 z13 z14 z15 z16 z17 z18 z19 z20 z21 : Option AV) (m : AH) : ∀ p ∈ (pr right_T0 right_T1), (den right_r4).s FR_law_right [some (.ref 0), z1, z2, z3, some (.bl p.1.2), z5, some (.bl p.2.2), z7, z8, z9, z10, z11, z12, z13, z14, z15, z16, z17, z18, z19, z20, z21] m = .nx [some (.ref 0), z1, z2, z3, some (.bl p.1.2), z5, some (.bl p.2.2), some (right_D4_7 p.1), some (right_D4_8 p.2), z9, z10, z11, z12, z13, z14, z15, z16, z17, z18, z19, z20, z21] m := allM (by kernel_rfl)
theorem right_d5 (z1 z2 z4 z5 z6 z8 z10 z11 z12 z13 z14 z15 z16 z17 z18 z19 z20 z21 : Option AV) (m : AH) : ∀ p ∈ right_T0, (den right_r5).s FR_law_right [some (.ref 0), z1, z2, some p.1, z4, z5, z6, some (right_D4_7 p), z8, none, z10, z11, z12, z13, z14, z15, z16, z17, z18, z19, z20, z21] m = .nx [some (.ref 0), z1, z2, some p.1, z4, z5, z6, some (right_D4_7 p), z8, some (.fn 51), z10, z11, z12, z13, z14, z15, z16, z17, z18, z19, z20, z21] m := allM (by kernel_rfl)
def right_T2v : List AV := [(.tup [(.int 1), (.int 0)])]
def right_T2w : List AV := [.non, (.tup [(.int 0)]), (.tup [(.int 0), (.int 0)]), (.tup [(.int 0), (.int 2)]), (.fl [(.int 0), (.int 1)]), (.tup [(.int 0), (.bl true)]), (.tup [(.int 0), (.int 1), (.int 2)])]
abbrev right_T2 : List (AV × Bool) := tbl right_T2v right_T2w
theorem right_T2hv (z1 z2 z3 z4 z5 z6 z7 z8 z9 z10 z11 z12 z13 z14 z15 z16 z17 z18 z19 z20 z21 : Option AV) (o : AO) : (den (.tup (.cons (.int 1) (.cons (.int 0) Z)))).e false FR_law_right [some (.ref 0), z1, z2, z3, z4, z5, z6, z7, z8, z9, z10, z11, z12, z13, z14, z15, z16, z17, z18, z19, z20, z21] [o] = .ok (.tup [(.int 1), (.int 0)]) [o] := by kernel_rfl
theorem right_T2hw (z1 z2 z3 z4 z5 z6 z7 z8 z9 z10 z11 z12 z13 z14 z15 z16 z17 z18 z19 z20 z21 : Option AV) (o : AO) : (den (.fz (.lst (.cons .non (.cons (.tup (.cons (.int 0) Z)) (.cons (.tup (.cons (.int 0) (.cons (.int 0) Z))) (.cons (.tup (.cons (.int 0) (.cons (.int 2) Z))) (.cons (.fz (.lst (.cons (.int 0) (.cons (.int 1) Z)))) (.cons (.tup (.cons (.int 0) (.cons (.bl true) Z))) (.cons (.tup (.cons (.int 0) (.cons (.int 1) (.cons (.int 2) Z)))) Z)))))))))).e false FR_law_right [some (.ref 0), z1, z2, z3, z4, z5, z6, z7, z8, z9, z10, z11, z12, z13, z14, z15, z16, z17, z18, z19, z20, z21] [o] = .ok (.fl right_T2w) [o] := by kernel_rfl
theorem right_d7 (z1 z2 z4 z5 z6 z8 z9 z12 z13 z14 z15 z16 z17 z18 z19 z20 z21 : Option AV) (m : AH) : ∀ p ∈ (pr right_T0 right_T2), (den right_r7).s FR_law_right [some (.ref 0), z1, z2, some p.1.1, z4, z5, z6, some (right_D4_7 p.1), z8, z9, some p.2.1, some (.bl p.2.2), z12, z13, z14, z15, z16, z17, z18, z19, z20, z21] m = .nx [some (.ref 0), z1, z2, some p.1.1, z4, z5, z6, some (right_D4_7 p.1), z8, z9, some p.2.1, some (.bl p.2.2), z12, z13, z14, z15, z16, z17, z18, z19, z20, z21] m := allM (by kernel_rfl)
def right_T3v : List AV := [(.tup []), (.tup [(.int 0)]), (.tup [(.int 0), (.int 1)])]
def right_T3w : List AV := [.non, (.tup [(.int 1), (.int 0)]), (.tup [(.int 0), (.int 0)]), (.tup [(.int 2)]), (.fl [(.int 0)]), (.tup [(.bl true)]), (.int 0)]
abbrev right_T3 : List (AV × Bool) := tbl right_T3v right_T3w
theorem right_T3hv (z1 z2 z3 z4 z5 z6 z7 z8 z9 z10 z11 z12 z13 z14 z15 z16 z17 z18 z19 z20 z21 : Option AV) (o : AO) : (den (.fz (.lst (.cons (.tup Z) (.cons (.tup (.cons (.int 0) Z)) (.cons (.tup (.cons (.int 0) (.cons (.int 1) Z))) Z)))))).e false FR_law_right [some (.ref 0), z1, z2, z3, z4, z5, z6, z7, z8, z9, z10, z11, z12, z13, z14, z15, z16, z17, z18, z19, z20, z21] [o] = .ok (.fl right_T3v) [o] := by kernel_rfl
theorem right_T3hw (z1 z2 z3 z4 z5 z6 z7 z8 z9 z10 z11 z12 z13 z14 z15 z16 z17 z18 z19 z20 z21 : Option AV) (o : AO) : (den (.fz (.lst (.cons .non (.cons (.tup (.cons (.int 1) (.cons (.int 0) Z))) (.cons (.tup (.cons (.int 0) (.cons (.int 0) Z))) (.cons (.tup (.cons (.int 2) Z)) (.cons (.fz (.lst (.cons (.int 0) Z))) (.cons (.tup (.cons (.bl true) Z)) (.cons (.int 0) Z)))))))))).e false FR_law_right [some (.ref 0), z1, z2, z3, z4, z5, z6, z7, z8, z9, z10, z11, z12, z13, z14, z15, z16, z17, z18, z19, z20, z21] [o] = .ok (.fl right_T3w) [o] := by kernel_rfl
theorem right_d9 (z1 z2 z4 z5 z6 z8 z9 z10 z11 z14 z15 z16 z17 z18 z19 z20 z21 : Option AV) (m : AH) : ∀ p ∈ (pr right_T0 right_T3), (den right_r9).s FR_law_right [some (.ref 0), z1, z2, some p.1.1, z4, z5, z6, some (right_D4_7 p.1), z8, z9, z10, z11, some p.2.1, some (.bl p.2.2), z14, z15, z16, z17, z18, z19, z20, z21] m = .nx [some (.ref 0), z1, z2, some p.1.1, z4, z5, z6, some (right_D4_7 p.1), z8, z9, z10, z11, some p.2.1, some (.bl p.2.2), z14, z15, z16, z17, z18, z19, z20, z21] m := allM (by kernel_rfl)
theorem right_d10 (z1 z2 z4 z6 z10 z11 z12 z13 z14 z15 z16 z17 z18 z19 z20 z21 : Option AV) (m : AH) : ∀ p ∈ (pr right_T0 right_T1), (den right_r10).s FR_law_right [some (.ref 0), z1, z2, some p.1.1, z4, some p.2.1, z6, some (right_D4_7 p.1), some (right_D4_8 p.2), some (.fn 51), z10, z11, z12, z13, z14, z15, z16, z17, z18, z19, z20, z21] m = .nx [some (.ref 0), z1, z2, some p.1.1, z4, some p.2.1, z6, some (right_D4_7 p.1), some (right_D4_8 p.2), some (.fn 49), z10, z11, z12, z13, z14, z15, z16, z17, z18, z19, z20, z21] m := allM (by kernel_rfl)
theorem right_d11 (z1 z4 z6 z9 z10 z11 z12 z13 z14 z15 z16 z17 z18 z19 z20 z21 : Option AV) (m : AH) : ∀ p ∈ (pr right_T0 right_T1), (den right_r11).s FR_law_right [some (.ref 0), z1, some (.fl [.non, (.int 0), (.tup []), (.tup [(.tup [(.tup [(.int 1)]), (.tup [(.int 0), (.int 1)])])]), (.str "net"), (.fd [] [])]), some p.1.1, z4, some p.2.1, z6, some (right_D4_7 p.1), some (right_D4_8 p.2), z9, z10, z11, z12, z13, z14, z15, z16, z17, z18, z19, z20, z21] m = .nx [some (.ref 0), z1, some (.fl [.non, (.int 0), (.tup []), (.tup [(.tup [(.tup [(.int 1)]), (.tup [(.int 0), (.int 1)])])]), (.str "net"), (.fd [] [])]), some p.1.1, z4, some p.2.1, z6, some (right_D4_7 p.1), some (right_D4_8 p.2), z9, z10, z11, z12, z13, z14, z15, z16, z17, z18, z19, z20, z21] m := allM (by kernel_rfl)
def right_D12_14 (q0 : AV × Bool) (q1 : AV × Bool) : AV := gv ((den (.fz (.and (.not (.var 4)) (.and (.not (.var 6)) (.one (.cmp .ne (.lenO 8 20 (.var 3)) (.lenO 8 20 (.var 5)))))))).e true FR_law_right [none, none, none, some q0.1, some (.bl q0.2), some q1.1, some (.bl q1.2), none, none, none, none, none, none, none, none, none, none, none, none, none, none, none] [])
theorem right_d12 (z1 z2 z7 z8 z9 z10 z11 z12 z13 z14 z15 z16 z17 z18 z19 z20 z21 : Option AV) (m : AH) : ∀ p ∈ (pr right_T0 right_T1), (den right_r12).s FR_law_right [some (.ref 0), z1, z2, some p.1.1, some (.bl p.1.2), some p.2.1, some (.bl p.2.2), z7, z8, z9, z10, z11, z12, z13, z14, z15, z16, z17, z18, z19, z20, z21] m = .nx [some (.ref 0), z1, z2, some p.1.1, some (.bl p.1.2), some p.2.1, some (.bl p.2.2), z7, z8, z9, z10, z11, z12, z13, some (right_D12_14 p.1 p.2), z15, z16, z17, z18, z19, z20, z21] m := allM (by kernel_rfl)
theorem right_d13 (z1 z2 z4 z6 z9 z10 z11 z12 z13 z15 z16 z17 z18 z19 z20 z21 : Option AV) (m : AH) : ∀ p ∈ (pr right_T0 right_T1), (den right_r13).s FR_law_right [some (.ref 0), z1, z2, some p.1.1, z4, some p.2.1, z6, some (right_D4_7 p.1), some (right_D4_8 p.2), z9, z10, z11, z12, z13, some (right_D12_14 p.1 p.2), z15, z16, z17, z18, z19, z20, z21] m = .nx [some (.ref 0), z1, z2, some p.1.1, z4, some p.2.1, z6, some (right_D4_7 p.1), some (right_D4_8 p.2), z9, z10, z11, z12, z13, some (right_D12_14 p.1 p.2), z15, z16, z17, z18, z19, z20, z21] m := allM (by kernel_rfl)
def right_T4v : List AV := [(.int 0), (.int 3), (.int 1000000)]
def right_T4w : List AV := [(.int (-1)), (.int 1000001), (.bl true), .non, (.str "1")]
abbrev right_T4 : List (AV × Bool) := tbl right_T4v right_T4w
theorem right_T4hv (z1 z2 z3 z4 z5 z6 z7 z8 z9 z10 z11 z12 z13 z14 z15 z16 z17 z18 z19 z20 z21 : Option AV) (o : AO) : (den (.fz (.lst (.cons (.int 0) (.cons (.int 3) (.cons (.bin .pow (.int 10) (.int 6)) Z)))))).e false FR_law_right [some (.ref 0), z1, z2, z3, z4, z5, z6, z7, z8, z9, z10, z11, z12, z13, z14, z15, z16, z17, z18, z19, z20, z21] [o] = .ok (.fl right_T4v) [o] := by kernel_rfl
theorem right_T4hw (z1 z2 z3 z4 z5 z6 z7 z8 z9 z10 z11 z12 z13 z14 z15 z16 z17 z18 z19 z20 z21 : Option AV) (o : AO) : (den (.fz (.lst (.cons (.neg (.int 1)) (.cons (.fz (.bin .add (.bin .pow (.int 10) (.int 6)) (.int 1))) (.cons (.bl true) (.cons .non (.cons (.str "1") Z)))))))).e false FR_law_right [some (.ref 0), z1, z2, z3, z4, z5, z6, z7, z8, z9, z10, z11, z12, z13, z14, z15, z16, z17, z18, z19, z20, z21] [o] = .ok (.fl right_T4w) [o] := by kernel_rfl
theorem right_d15 (z1 z2 z4 z5 z6 z8 z9 z10 z11 z12 z13 z14 z17 z18 z19 z20 z21 : Option AV) (m : AH) : ∀ p ∈ (pr right_T0 right_T4), (den right_r15).s FR_law_right [some (.ref 0), z1, z2, some p.1.1, z4, z5, z6, some (right_D4_7 p.1), z8, z9, z10, z11, z12, z13, z14, some p.2.1, some (.bl p.2.2), z17, z18, z19, z20, z21] m = .nx [some (.ref 0), z1, z2, some p.1.1, z4, z5, z6, some (right_D4_7 p.1), z8, z9, z10, z11, z12, z13, z14, some p.2.1, some (.bl p.2.2), z17, z18, z19, z20, z21] m := allM (by kernel_rfl)
def right_T5v : List AV := [(.tup [(.int 0), (.int 1)])]
def right_T5w : List AV := [.non, (.tup [(.int 0)]), (.tup [(.int 0), (.int 2)]), (.fl [(.int 0), (.int 1)]), (.tup [(.int 0), (.int 1), (.int 0)]), (.tup [(.int 0), (.bl true)]), (.str "01")]
abbrev right_T5 : List (AV × Bool) := tbl right_T5v right_T5w
theorem right_T5hv (z1 z2 z3 z4 z5 z6 z7 z8 z9 z10 z11 z12 z13 z14 z15 z16 z17 z18 z19 z20 z21 : Option AV) (o : AO) : (den (.tup (.cons (.int 0) (.cons (.int 1) Z)))).e false FR_law_right [some (.ref 0), z1, z2, z3, z4, z5, z6, z7, z8, z9, z10, z11, z12, z13, z14, z15, z16, z17, z18, z19, z20, z21] [o] = .ok (.tup [(.int 0), (.int 1)]) [o] := by kernel_rfl
theorem right_T5hw (z1 z2 z3 z4 z5 z6 z7 z8 z9 z10 z11 z12 z13 z14 z15 z16 z17 z18 z19 z20 z21 : Option AV) (o : AO) : (den (.fz (.lst (.cons .non (.cons (.tup (.cons (.int 0) Z)) (.cons (.tup (.cons (.int 0) (.cons (.int 2) Z))) (.cons (.fz (.lst (.cons (.int 0) (.cons (.int 1) Z)))) (.cons (.tup (.cons (.int 0) (.cons (.int 1) (.cons (.int 0) Z)))) (.cons (.tup (.cons (.int 0) (.cons (.bl true) Z))) (.cons (.str "01") Z)))))))))).e false FR_law_right [some (.ref 0), z1, z2, z3, z4, z5, z6, z7, z8, z9, z10, z11, z12, z13, z14, z15, z16, z17, z18, z19, z20, z21] [o] = .ok (.fl right_T5w) [o] := by kernel_rfl
def right_T6v : List AV := [(.int 0), (.int 1)]
def right_T6w : List AV := [(.int (-1)), (.int 2), (.bl true), .non, (.str "0")]
abbrev right_T6 : List (AV × Bool) := tbl right_T6v right_T6w
theorem right_T6hv (z1 z2 z3 z4 z5 z6 z7 z8 z9 z10 z11 z12 z13 z14 z15 z16 z17 z18 z19 z20 z21 : Option AV) (o : AO) : (den (.fz (.lst (.cons (.int 0) (.cons (.int 1) Z))))).e false FR_law_right [some (.ref 0), z1, z2, z3, z4, z5, z6, z7, z8, z9, z10, z11, z12, z13, z14, z15, z16, z17, z18, z19, z20, z21] [o] = .ok (.fl right_T6v) [o] := by kernel_rfl
theorem right_T6hw (z1 z2 z3 z4 z5 z6 z7 z8 z9 z10 z11 z12 z13 z14 z15 z16 z17 z18 z19 z20 z21 : Option AV) (o : AO) : (den (.fz (.lst (.cons (.neg (.int 1)) (.cons (.int 2) (.cons (.bl true) (.cons .non (.cons (.str "0") Z)))))))).e false FR_law_right [some (.ref 0), z1, z2, z3, z4, z5, z6, z7, z8, z9, z10, z11, z12, z13, z14, z15, z16, z17, z18, z19, z20, z21] [o] = .ok (.fl right_T6w) [o] := by kernel_rfl
theorem right_d18 (z2 z3 z4 z5 z6 z7 z8 z9 z10 z11 z12 z13 z14 z15 z16 z19 z20 z21 : Option AV) (m : AH) : ∀ p ∈ right_T5, (den right_r18).s FR_law_right [some (.ref 0), some (.obj 8 [(.tup [(.tup [(.tup [(.int 1)]), (.tup [(.int 0), (.int 1)])]), (.tup [(.tup [(.int 0)]), (.tup [(.int 1), (.int 0)])])])]), z2, z3, z4, z5, z6, z7, z8, z9, z10, z11, z12, z13, z14, z15, z16, some p.1, some (.bl p.2), z19, z20, z21] m = .nx [some (.ref 0), some (.obj 8 [(.tup [(.tup [(.tup [(.int 1)]), (.tup [(.int 0), (.int 1)])]), (.tup [(.tup [(.int 0)]), (.tup [(.int 1), (.int 0)])])])]), z2, z3, z4, z5, z6, z7, z8, z9, z10, z11, z12, z13, z14, z15, z16, some p.1, some (.bl p.2), z19, z20, z21] m := allM (by kernel_rfl)
def right_D19_21 (q6 : AV × Bool) : AV := gv ((den (.tup (.cons (.fz (.bin .add (.str "count ") (.repr (.var 19)))) (.cons (.var 20) Z)))).e true FR_law_right [none, none, none, none, none, none, none, none, none, none, none, none, none, none, none, none, none, none, none, some q6.1, some (.bl q6.2), none] [])
theorem right_d19 (z1 z2 z3 z4 z5 z6 z7 z8 z9 z10 z11 z12 z13 z14 z15 z16 z17 z18 z21 : Option AV) (m : AH) : ∀ p ∈ right_T6, (den right_r19).s FR_law_right [some (.ref 0), z1, z2, z3, z4, z5, z6, z7, z8, z9, z10, z11, z12, z13, z14, z15, z16, z17, z18, some p.1, some (.bl p.2), z21] m = .nx [some (.ref 0), z1, z2, z3, z4, z5, z6, z7, z8, z9, z10, z11, z12, z13, z14, z15, z16, z17, z18, some p.1, some (.bl p.2), some (right_D19_21 p)] m := allM (by kernel_rfl)
theorem right_d20 (z2 z3 z4 z5 z6 z7 z8 z9 z10 z11 z12 z13 z14 z15 z16 z17 z18 z20 : Option AV) (m : AH) : ∀ p ∈ right_T6, (den right_r20).s FR_law_right [some (.ref 0), some (.obj 8 [(.tup [(.tup [(.tup [(.int 1)]), (.tup [(.int 0), (.int 1)])]), (.tup [(.tup [(.int 0)]), (.tup [(.int 1), (.int 0)])])])]), z2, z3, z4, z5, z6, z7, z8, z9, z10, z11, z12, z13, z14, z15, z16, z17, z18, some p.1, z20, some (right_D19_21 p)] m = .nx [some (.ref 0), some (.obj 8 [(.tup [(.tup [(.tup [(.int 1)]), (.tup [(.int 0), (.int 1)])]), (.tup [(.tup [(.int 0)]), (.tup [(.int 1), (.int 0)])])])]), z2, z3, z4, z5, z6, z7, z8, z9, z10, z11, z12, z13, z14, z15, z16, z17, z18, some p.1, z20, some (right_D19_21 p)] m := allM (by kernel_rfl)
theorem right_d21 (z2 z3 z4 z5 z6 z7 z8 z9 z10 z11 z12 z13 z14 z15 z16 z20 : Option AV) (m : AH) : ∀ p ∈ (pr right_T5 right_T6), (den (.cons right_r21 Z)).b FR_law_right [some (.ref 0), some (.obj 8 [(.tup [(.tup [(.tup [(.int 1)]), (.tup [(.int 0), (.int 1)])]), (.tup [(.tup [(.int 0)]), (.tup [(.int 1), (.int 0)])])])]), z2, z3, z4, z5, z6, z7, z8, z9, z10, z11, z12, z13, z14, z15, z16, some p.1.1, some (.bl p.1.2), some p.2.1, z20, some (right_D19_21 p.2)] m = .rt (.bl true) m := allM (by kernel_rfl)
theorem right_ok : RightF FL 60 21 := by
  refine rightF_of (n := 33) (d := f60) (q := 21) rfl rfl rfl rfl rfl rfl (fun N o0 ho0 hn => ?_)
  have e0' : (den right_r0).s FR_law_right [some (.ref 0), none, none, none, none, none, none, none, none, none, none, none, none, none, none, none, none, none, none, none, none, none] [o0] = .nx [some (.ref 0), some (.obj 8 [(.tup [(.tup [(.tup [(.int 1)]), (.tup [(.int 0), (.int 1)])]), (.tup [(.tup [(.int 0)]), (.tup [(.int 1), (.int 0)])])])]), none, none, none, none, none, none, none, none, none, none, none, none, none, none, none, none, none, none, none, none] [o0] := right_d0 _ _ _ _ _ _ _ _ _ _ _ _ _ _ _ _ _ _ _ _ _ [o0]
  have e1' : (den right_r1).s FR_law_right [some (.ref 0), some (.obj 8 [(.tup [(.tup [(.tup [(.int 1)]), (.tup [(.int 0), (.int 1)])]), (.tup [(.tup [(.int 0)]), (.tup [(.int 1), (.int 0)])])])]), none, none, none, none, none, none, none, none, none, none, none, none, none, none, none, none, none, none, none, none] [o0] = .nx [some (.ref 0), some (.obj 8 [(.tup [(.tup [(.tup [(.int 1)]), (.tup [(.int 0), (.int 1)])]), (.tup [(.tup [(.int 0)]), (.tup [(.int 1), (.int 0)])])])]), some (.fl [.non, (.int 0), (.tup []), (.tup [(.tup [(.tup [(.int 1)]), (.tup [(.int 0), (.int 1)])])]), (.str "net"), (.fd [] [])]), none, none, none, none, none, none, none, none, none, none, none, none, none, none, none, none, none, none, none] [o0] := right_d1 _ _ _ _ _ _ _ _ _ _ _ _ _ _ _ _ _ _ _ _ _ [o0]
  obtain ⟨p0, h0, o1, ho1, e2⟩ := drawA (i := 3) (j := 4) (s := [some (.ref 0), some (.obj 8 [(.tup [(.tup [(.tup [(.int 1)]), (.tup [(.int 0), (.int 1)])]), (.tup [(.tup [(.int 0)]), (.tup [(.int 1), (.int 0)])])])]), some (.fl [.non, (.int 0), (.tup []), (.tup [(.tup [(.tup [(.int 1)]), (.tup [(.int 0), (.int 1)])])]), (.str "net"), (.fd [] [])]), none, none, none, none, none, none, none, none, none, none, none, none, none, none, none, none, none, none, none]) right_one rfl (fun o => right_T0hv _ _ _ _ _ _ _ _ _ _ _ _ _ _ _ _ _ _ _ o) (fun o => right_T0hw _ _ _ _ _ _ _ _ _ _ _ _ _ _ _ _ _ _ _ o) rfl rfl rfl rfl ho0 (by omega)
  have e2' : (den right_r2).s FR_law_right [some (.ref 0), some (.obj 8 [(.tup [(.tup [(.tup [(.int 1)]), (.tup [(.int 0), (.int 1)])]), (.tup [(.tup [(.int 0)]), (.tup [(.int 1), (.int 0)])])])]), some (.fl [.non, (.int 0), (.tup []), (.tup [(.tup [(.tup [(.int 1)]), (.tup [(.int 0), (.int 1)])])]), (.str "net"), (.fd [] [])]), none, none, none, none, none, none, none, none, none, none, none, none, none, none, none, none, none, none, none] [o0] = .nx [some (.ref 0), some (.obj 8 [(.tup [(.tup [(.tup [(.int 1)]), (.tup [(.int 0), (.int 1)])]), (.tup [(.tup [(.int 0)]), (.tup [(.int 1), (.int 0)])])])]), some (.fl [.non, (.int 0), (.tup []), (.tup [(.tup [(.tup [(.int 1)]), (.tup [(.int 0), (.int 1)])])]), (.str "net"), (.fd [] [])]), some p0.1, some (.bl p0.2), none, none, none, none, none, none, none, none, none, none, none, none, none, none, none, none, none] [o1] := e2
  obtain ⟨p1, h1, o2, ho2, e3⟩ := drawP (i := 5) (j := 6) (s := [some (.ref 0), some (.obj 8 [(.tup [(.tup [(.tup [(.int 1)]), (.tup [(.int 0), (.int 1)])]), (.tup [(.tup [(.int 0)]), (.tup [(.int 1), (.int 0)])])])]), some (.fl [.non, (.int 0), (.tup []), (.tup [(.tup [(.tup [(.int 1)]), (.tup [(.int 0), (.int 1)])])]), (.str "net"), (.fd [] [])]), some p0.1, some (.bl p0.2), none, none, none, none, none, none, none, none, none, none, none, none, none, none, none, none, none]) right_one right_pick rfl (fun o => right_T1hv _ _ _ _ _ _ _ _ _ _ _ _ _ _ _ _ _ _ _ o) (fun o => right_T1hw _ _ _ _ _ _ _ _ _ _ _ _ _ _ _ _ _ _ _ o) rfl rfl rfl rfl rfl rfl ho1 (by omega)
  have e3' : (den right_r3).s FR_law_right [some (.ref 0), some (.obj 8 [(.tup [(.tup [(.tup [(.int 1)]), (.tup [(.int 0), (.int 1)])]), (.tup [(.tup [(.int 0)]), (.tup [(.int 1), (.int 0)])])])]), some (.fl [.non, (.int 0), (.tup []), (.tup [(.tup [(.tup [(.int 1)]), (.tup [(.int 0), (.int 1)])])]), (.str "net"), (.fd [] [])]), some p0.1, some (.bl p0.2), none, none, none, none, none, none, none, none, none, none, none, none, none, none, none, none, none] [o1] = .nx [some (.ref 0), some (.obj 8 [(.tup [(.tup [(.tup [(.int 1)]), (.tup [(.int 0), (.int 1)])]), (.tup [(.tup [(.int 0)]), (.tup [(.int 1), (.int 0)])])])]), some (.fl [.non, (.int 0), (.tup []), (.tup [(.tup [(.tup [(.int 1)]), (.tup [(.int 0), (.int 1)])])]), (.str "net"), (.fd [] [])]), some p0.1, some (.bl p0.2), some p1.1, some (.bl p1.2), none, none, none, none, none, none, none, none, none, none, none, none, none, none, none] [o2] := e3
  have e4' : (den right_r4).s FR_law_right [some (.ref 0), some (.obj 8 [(.tup [(.tup [(.tup [(.int 1)]), (.tup [(.int 0), (.int 1)])]), (.tup [(.tup [(.int 0)]), (.tup [(.int 1), (.int 0)])])])]), some (.fl [.non, (.int 0), (.tup []), (.tup [(.tup [(.tup [(.int 1)]), (.tup [(.int 0), (.int 1)])])]), (.str "net"), (.fd [] [])]), some p0.1, some (.bl p0.2), some p1.1, some (.bl p1.2), none, none, none, none, none, none, none, none, none, none, none, none, none, none, none] [o2] = .nx [some (.ref 0), some (.obj 8 [(.tup [(.tup [(.tup [(.int 1)]), (.tup [(.int 0), (.int 1)])]), (.tup [(.tup [(.int 0)]), (.tup [(.int 1), (.int 0)])])])]), some (.fl [.non, (.int 0), (.tup []), (.tup [(.tup [(.tup [(.int 1)]), (.tup [(.int 0), (.int 1)])])]), (.str "net"), (.fd [] [])]), some p0.1, some (.bl p0.2), some p1.1, some (.bl p1.2), some (right_D4_7 p0), some (right_D4_8 p1), none, none, none, none, none, none, none, none, none, none, none, none, none] [o2] := right_d4 _ _ _ _ _ _ _ _ _ _ _ _ _ _ _ _ _ _ _ [o2] (p0, p1) (pr_mem h0 h1)
  have e5' : (den right_r5).s FR_law_right [some (.ref 0), some (.obj 8 [(.tup [(.tup [(.tup [(.int 1)]), (.tup [(.int 0), (.int 1)])]), (.tup [(.tup [(.int 0)]), (.tup [(.int 1), (.int 0)])])])]), some (.fl [.non, (.int 0), (.tup []), (.tup [(.tup [(.tup [(.int 1)]), (.tup [(.int 0), (.int 1)])])]), (.str "net"), (.fd [] [])]), some p0.1, some (.bl p0.2), some p1.1, some (.bl p1.2), some (right_D4_7 p0), some (right_D4_8 p1), none, none, none, none, none, none, none, none, none, none, none, none, none] [o2] = .nx [some (.ref 0), some (.obj 8 [(.tup [(.tup [(.tup [(.int 1)]), (.tup [(.int 0), (.int 1)])]), (.tup [(.tup [(.int 0)]), (.tup [(.int 1), (.int 0)])])])]), some (.fl [.non, (.int 0), (.tup []), (.tup [(.tup [(.tup [(.int 1)]), (.tup [(.int 0), (.int 1)])])]), (.str "net"), (.fd [] [])]), some p0.1, some (.bl p0.2), some p1.1, some (.bl p1.2), some (right_D4_7 p0), some (right_D4_8 p1), some (.fn 51), none, none, none, none, none, none, none, none, none, none, none, none] [o2] := right_d5 _ _ _ _ _ _ _ _ _ _ _ _ _ _ _ _ _ _ [o2] (p0) h0
  obtain ⟨p2, h2, o3, ho3, e6⟩ := drawA (i := 10) (j := 11) (s := [some (.ref 0), some (.obj 8 [(.tup [(.tup [(.tup [(.int 1)]), (.tup [(.int 0), (.int 1)])]), (.tup [(.tup [(.int 0)]), (.tup [(.int 1), (.int 0)])])])]), some (.fl [.non, (.int 0), (.tup []), (.tup [(.tup [(.tup [(.int 1)]), (.tup [(.int 0), (.int 1)])])]), (.str "net"), (.fd [] [])]), some p0.1, some (.bl p0.2), some p1.1, some (.bl p1.2), some (right_D4_7 p0), some (right_D4_8 p1), some (.fn 51), none, none, none, none, none, none, none, none, none, none, none, none]) right_one rfl (fun o => right_T2hv _ _ _ _ _ _ _ _ _ _ _ _ _ _ _ _ _ _ _ _ _ o) (fun o => right_T2hw _ _ _ _ _ _ _ _ _ _ _ _ _ _ _ _ _ _ _ _ _ o) rfl rfl rfl rfl ho2 (by omega)
  have e6' : (den right_r6).s FR_law_right [some (.ref 0), some (.obj 8 [(.tup [(.tup [(.tup [(.int 1)]), (.tup [(.int 0), (.int 1)])]), (.tup [(.tup [(.int 0)]), (.tup [(.int 1), (.int 0)])])])]), some (.fl [.non, (.int 0), (.tup []), (.tup [(.tup [(.tup [(.int 1)]), (.tup [(.int 0), (.int 1)])])]), (.str "net"), (.fd [] [])]), some p0.1, some (.bl p0.2), some p1.1, some (.bl p1.2), some (right_D4_7 p0), some (right_D4_8 p1), some (.fn 51), none, none, none, none, none, none, none, none, none, none, none, none] [o2] = .nx [some (.ref 0), some (.obj 8 [(.tup [(.tup [(.tup [(.int 1)]), (.tup [(.int 0), (.int 1)])]), (.tup [(.tup [(.int 0)]), (.tup [(.int 1), (.int 0)])])])]), some (.fl [.non, (.int 0), (.tup []), (.tup [(.tup [(.tup [(.int 1)]), (.tup [(.int 0), (.int 1)])])]), (.str "net"), (.fd [] [])]), some p0.1, some (.bl p0.2), some p1.1, some (.bl p1.2), some (right_D4_7 p0), some (right_D4_8 p1), some (.fn 51), some p2.1, some (.bl p2.2), none, none, none, none, none, none, none, none, none, none] [o3] := e6
  have e7' : (den right_r7).s FR_law_right [some (.ref 0), some (.obj 8 [(.tup [(.tup [(.tup [(.int 1)]), (.tup [(.int 0), (.int 1)])]), (.tup [(.tup [(.int 0)]), (.tup [(.int 1), (.int 0)])])])]), some (.fl [.non, (.int 0), (.tup []), (.tup [(.tup [(.tup [(.int 1)]), (.tup [(.int 0), (.int 1)])])]), (.str "net"), (.fd [] [])]), some p0.1, some (.bl p0.2), some p1.1, some (.bl p1.2), some (right_D4_7 p0), some (right_D4_8 p1), some (.fn 51), some p2.1, some (.bl p2.2), none, none, none, none, none, none, none, none, none, none] [o3] = .nx [some (.ref 0), some (.obj 8 [(.tup [(.tup [(.tup [(.int 1)]), (.tup [(.int 0), (.int 1)])]), (.tup [(.tup [(.int 0)]), (.tup [(.int 1), (.int 0)])])])]), some (.fl [.non, (.int 0), (.tup []), (.tup [(.tup [(.tup [(.int 1)]), (.tup [(.int 0), (.int 1)])])]), (.str "net"), (.fd [] [])]), some p0.1, some (.bl p0.2), some p1.1, some (.bl p1.2), some (right_D4_7 p0), some (right_D4_8 p1), some (.fn 51), some p2.1, some (.bl p2.2), none, none, none, none, none, none, none, none, none, none] [o3] := right_d7 _ _ _ _ _ _ _ _ _ _ _ _ _ _ _ _ _ [o3] (p0, p2) (pr_mem h0 h2)
  obtain ⟨p3, h3, o4, ho4, e8⟩ := drawP (i := 12) (j := 13) (s := [some (.ref 0), some (.obj 8 [(.tup [(.tup [(.tup [(.int 1)]), (.tup [(.int 0), (.int 1)])]), (.tup [(.tup [(.int 0)]), (.tup [(.int 1), (.int 0)])])])]), some (.fl [.non, (.int 0), (.tup []), (.tup [(.tup [(.tup [(.int 1)]), (.tup [(.int 0), (.int 1)])])]), (.str "net"), (.fd [] [])]), some p0.1, some (.bl p0.2), some p1.1, some (.bl p1.2), some (right_D4_7 p0), some (right_D4_8 p1), some (.fn 51), some p2.1, some (.bl p2.2), none, none, none, none, none, none, none, none, none, none]) right_one right_pick rfl (fun o => right_T3hv _ _ _ _ _ _ _ _ _ _ _ _ _ _ _ _ _ _ _ _ _ o) (fun o => right_T3hw _ _ _ _ _ _ _ _ _ _ _ _ _ _ _ _ _ _ _ _ _ o) rfl rfl rfl rfl rfl rfl ho3 (by omega)
  have e8' : (den right_r8).s FR_law_right [some (.ref 0), some (.obj 8 [(.tup [(.tup [(.tup [(.int 1)]), (.tup [(.int 0), (.int 1)])]), (.tup [(.tup [(.int 0)]), (.tup [(.int 1), (.int 0)])])])]), some (.fl [.non, (.int 0), (.tup []), (.tup [(.tup [(.tup [(.int 1)]), (.tup [(.int 0), (.int 1)])])]), (.str "net"), (.fd [] [])]), some p0.1, some (.bl p0.2), some p1.1, some (.bl p1.2), some (right_D4_7 p0), some (right_D4_8 p1), some (.fn 51), some p2.1, some (.bl p2.2), none, none, none, none, none, none, none, none, none, none] [o3] = .nx [some (.ref 0), some (.obj 8 [(.tup [(.tup [(.tup [(.int 1)]), (.tup [(.int 0), (.int 1)])]), (.tup [(.tup [(.int 0)]), (.tup [(.int 1), (.int 0)])])])]), some (.fl [.non, (.int 0), (.tup []), (.tup [(.tup [(.tup [(.int 1)]), (.tup [(.int 0), (.int 1)])])]), (.str "net"), (.fd [] [])]), some p0.1, some (.bl p0.2), some p1.1, some (.bl p1.2), some (right_D4_7 p0), some (right_D4_8 p1), some (.fn 51), some p2.1, some (.bl p2.2), some p3.1, some (.bl p3.2), none, none, none, none, none, none, none, none] [o4] := e8
  have e9' : (den right_r9).s FR_law_right [some (.ref 0), some (.obj 8 [(.tup [(.tup [(.tup [(.int 1)]), (.tup [(.int 0), (.int 1)])]), (.tup [(.tup [(.int 0)]), (.tup [(.int 1), (.int 0)])])])]), some (.fl [.non, (.int 0), (.tup []), (.tup [(.tup [(.tup [(.int 1)]), (.tup [(.int 0), (.int 1)])])]), (.str "net"), (.fd [] [])]), some p0.1, some (.bl p0.2), some p1.1, some (.bl p1.2), some (right_D4_7 p0), some (right_D4_8 p1), some (.fn 51), some p2.1, some (.bl p2.2), some p3.1, some (.bl p3.2), none, none, none, none, none, none, none, none] [o4] = .nx [some (.ref 0), some (.obj 8 [(.tup [(.tup [(.tup [(.int 1)]), (.tup [(.int 0), (.int 1)])]), (.tup [(.tup [(.int 0)]), (.tup [(.int 1), (.int 0)])])])]), some (.fl [.non, (.int 0), (.tup []), (.tup [(.tup [(.tup [(.int 1)]), (.tup [(.int 0), (.int 1)])])]), (.str "net"), (.fd [] [])]), some p0.1, some (.bl p0.2), some p1.1, some (.bl p1.2), some (right_D4_7 p0), some (right_D4_8 p1), some (.fn 51), some p2.1, some (.bl p2.2), some p3.1, some (.bl p3.2), none, none, none, none, none, none, none, none] [o4] := right_d9 _ _ _ _ _ _ _ _ _ _ _ _ _ _ _ _ _ [o4] (p0, p3) (pr_mem h0 h3)
  have e10' : (den right_r10).s FR_law_right [some (.ref 0), some (.obj 8 [(.tup [(.tup [(.tup [(.int 1)]), (.tup [(.int 0), (.int 1)])]), (.tup [(.tup [(.int 0)]), (.tup [(.int 1), (.int 0)])])])]), some (.fl [.non, (.int 0), (.tup []), (.tup [(.tup [(.tup [(.int 1)]), (.tup [(.int 0), (.int 1)])])]), (.str "net"), (.fd [] [])]), some p0.1, some (.bl p0.2), some p1.1, some (.bl p1.2), some (right_D4_7 p0), some (right_D4_8 p1), some (.fn 51), some p2.1, some (.bl p2.2), some p3.1, some (.bl p3.2), none, none, none, none, none, none, none, none] [o4] = .nx [some (.ref 0), some (.obj 8 [(.tup [(.tup [(.tup [(.int 1)]), (.tup [(.int 0), (.int 1)])]), (.tup [(.tup [(.int 0)]), (.tup [(.int 1), (.int 0)])])])]), some (.fl [.non, (.int 0), (.tup []), (.tup [(.tup [(.tup [(.int 1)]), (.tup [(.int 0), (.int 1)])])]), (.str "net"), (.fd [] [])]), some p0.1, some (.bl p0.2), some p1.1, some (.bl p1.2), some (right_D4_7 p0), some (right_D4_8 p1), some (.fn 49), some p2.1, some (.bl p2.2), some p3.1, some (.bl p3.2), none, none, none, none, none, none, none, none] [o4] := right_d10 _ _ _ _ _ _ _ _ _ _ _ _ _ _ _ _ [o4] (p0, p1) (pr_mem h0 h1)
  have e11' : (den right_r11).s FR_law_right [some (.ref 0), some (.obj 8 [(.tup [(.tup [(.tup [(.int 1)]), (.tup [(.int 0), (.int 1)])]), (.tup [(.tup [(.int 0)]), (.tup [(.int 1), (.int 0)])])])]), some (.fl [.non, (.int 0), (.tup []), (.tup [(.tup [(.tup [(.int 1)]), (.tup [(.int 0), (.int 1)])])]), (.str "net"), (.fd [] [])]), some p0.1, some (.bl p0.2), some p1.1, some (.bl p1.2), some (right_D4_7 p0), some (right_D4_8 p1), some (.fn 49), some p2.1, some (.bl p2.2), some p3.1, some (.bl p3.2), none, none, none, none, none, none, none, none] [o4] = .nx [some (.ref 0), some (.obj 8 [(.tup [(.tup [(.tup [(.int 1)]), (.tup [(.int 0), (.int 1)])]), (.tup [(.tup [(.int 0)]), (.tup [(.int 1), (.int 0)])])])]), some (.fl [.non, (.int 0), (.tup []), (.tup [(.tup [(.tup [(.int 1)]), (.tup [(.int 0), (.int 1)])])]), (.str "net"), (.fd [] [])]), some p0.1, some (.bl p0.2), some p1.1, some (.bl p1.2), some (right_D4_7 p0), some (right_D4_8 p1), some (.fn 49), some p2.1, some (.bl p2.2), some p3.1, some (.bl p3.2), none, none, none, none, none, none, none, none] [o4] := right_d11 _ _ _ _ _ _ _ _ _ _ _ _ _ _ _ _ [o4] (p0, p1) (pr_mem h0 h1)
  have e12' : (den right_r12).s FR_law_right [some (.ref 0), some (.obj 8 [(.tup [(.tup [(.tup [(.int 1)]), (.tup [(.int 0), (.int 1)])]), (.tup [(.tup [(.int 0)]), (.tup [(.int 1), (.int 0)])])])]), some (.fl [.non, (.int 0), (.tup []), (.tup [(.tup [(.tup [(.int 1)]), (.tup [(.int 0), (.int 1)])])]), (.str "net"), (.fd [] [])]), some p0.1, some (.bl p0.2), some p1.1, some (.bl p1.2), some (right_D4_7 p0), some (right_D4_8 p1), some (.fn 49), some p2.1, some (.bl p2.2), some p3.1, some (.bl p3.2), none, none, none, none, none, none, none, none] [o4] = .nx [some (.ref 0), some (.obj 8 [(.tup [(.tup [(.tup [(.int 1)]), (.tup [(.int 0), (.int 1)])]), (.tup [(.tup [(.int 0)]), (.tup [(.int 1), (.int 0)])])])]), some (.fl [.non, (.int 0), (.tup []), (.tup [(.tup [(.tup [(.int 1)]), (.tup [(.int 0), (.int 1)])])]), (.str "net"), (.fd [] [])]), some p0.1, some (.bl p0.2), some p1.1, some (.bl p1.2), some (right_D4_7 p0), some (right_D4_8 p1), some (.fn 49), some p2.1, some (.bl p2.2), some p3.1, some (.bl p3.2), some (right_D12_14 p0 p1), none, none, none, none, none, none, none] [o4] := right_d12 _ _ _ _ _ _ _ _ _ _ _ _ _ _ _ _ _ [o4] (p0, p1) (pr_mem h0 h1)
  have e13' : (den right_r13).s FR_law_right [some (.ref 0), some (.obj 8 [(.tup [(.tup [(.tup [(.int 1)]), (.tup [(.int 0), (.int 1)])]), (.tup [(.tup [(.int 0)]), (.tup [(.int 1), (.int 0)])])])]), some (.fl [.non, (.int 0), (.tup []), (.tup [(.tup [(.tup [(.int 1)]), (.tup [(.int 0), (.int 1)])])]), (.str "net"), (.fd [] [])]), some p0.1, some (.bl p0.2), some p1.1, some (.bl p1.2), some (right_D4_7 p0), some (right_D4_8 p1), some (.fn 49), some p2.1, some (.bl p2.2), some p3.1, some (.bl p3.2), some (right_D12_14 p0 p1), none, none, none, none, none, none, none] [o4] = .nx [some (.ref 0), some (.obj 8 [(.tup [(.tup [(.tup [(.int 1)]), (.tup [(.int 0), (.int 1)])]), (.tup [(.tup [(.int 0)]), (.tup [(.int 1), (.int 0)])])])]), some (.fl [.non, (.int 0), (.tup []), (.tup [(.tup [(.tup [(.int 1)]), (.tup [(.int 0), (.int 1)])])]), (.str "net"), (.fd [] [])]), some p0.1, some (.bl p0.2), some p1.1, some (.bl p1.2), some (right_D4_7 p0), some (right_D4_8 p1), some (.fn 49), some p2.1, some (.bl p2.2), some p3.1, some (.bl p3.2), some (right_D12_14 p0 p1), none, none, none, none, none, none, none] [o4] := right_d13 _ _ _ _ _ _ _ _ _ _ _ _ _ _ _ _ [o4] (p0, p1) (pr_mem h0 h1)
  obtain ⟨p4, h4, o5, ho5, e14⟩ := drawP (i := 15) (j := 16) (s := [some (.ref 0), some (.obj 8 [(.tup [(.tup [(.tup [(.int 1)]), (.tup [(.int 0), (.int 1)])]), (.tup [(.tup [(.int 0)]), (.tup [(.int 1), (.int 0)])])])]), some (.fl [.non, (.int 0), (.tup []), (.tup [(.tup [(.tup [(.int 1)]), (.tup [(.int 0), (.int 1)])])]), (.str "net"), (.fd [] [])]), some p0.1, some (.bl p0.2), some p1.1, some (.bl p1.2), some (right_D4_7 p0), some (right_D4_8 p1), some (.fn 49), some p2.1, some (.bl p2.2), some p3.1, some (.bl p3.2), some (right_D12_14 p0 p1), none, none, none, none, none, none, none]) right_one right_pick rfl (fun o => right_T4hv _ _ _ _ _ _ _ _ _ _ _ _ _ _ _ _ _ _ _ _ _ o) (fun o => right_T4hw _ _ _ _ _ _ _ _ _ _ _ _ _ _ _ _ _ _ _ _ _ o) rfl rfl rfl rfl rfl rfl ho4 (by omega)
  have e14' : (den right_r14).s FR_law_right [some (.ref 0), some (.obj 8 [(.tup [(.tup [(.tup [(.int 1)]), (.tup [(.int 0), (.int 1)])]), (.tup [(.tup [(.int 0)]), (.tup [(.int 1), (.int 0)])])])]), some (.fl [.non, (.int 0), (.tup []), (.tup [(.tup [(.tup [(.int 1)]), (.tup [(.int 0), (.int 1)])])]), (.str "net"), (.fd [] [])]), some p0.1, some (.bl p0.2), some p1.1, some (.bl p1.2), some (right_D4_7 p0), some (right_D4_8 p1), some (.fn 49), some p2.1, some (.bl p2.2), some p3.1, some (.bl p3.2), some (right_D12_14 p0 p1), none, none, none, none, none, none, none] [o4] = .nx [some (.ref 0), some (.obj 8 [(.tup [(.tup [(.tup [(.int 1)]), (.tup [(.int 0), (.int 1)])]), (.tup [(.tup [(.int 0)]), (.tup [(.int 1), (.int 0)])])])]), some (.fl [.non, (.int 0), (.tup []), (.tup [(.tup [(.tup [(.int 1)]), (.tup [(.int 0), (.int 1)])])]), (.str "net"), (.fd [] [])]), some p0.1, some (.bl p0.2), some p1.1, some (.bl p1.2), some (right_D4_7 p0), some (right_D4_8 p1), some (.fn 49), some p2.1, some (.bl p2.2), some p3.1, some (.bl p3.2), some (right_D12_14 p0 p1), some p4.1, some (.bl p4.2), none, none, none, none, none] [o5] := e14
  have e15' : (den right_r15).s FR_law_right [some (.ref 0), some (.obj 8 [(.tup [(.tup [(.tup [(.int 1)]), (.tup [(.int 0), (.int 1)])]), (.tup [(.tup [(.int 0)]), (.tup [(.int 1), (.int 0)])])])]), some (.fl [.non, (.int 0), (.tup []), (.tup [(.tup [(.tup [(.int 1)]), (.tup [(.int 0), (.int 1)])])]), (.str "net"), (.fd [] [])]), some p0.1, some (.bl p0.2), some p1.1, some (.bl p1.2), some (right_D4_7 p0), some (right_D4_8 p1), some (.fn 49), some p2.1, some (.bl p2.2), some p3.1, some (.bl p3.2), some (right_D12_14 p0 p1), some p4.1, some (.bl p4.2), none, none, none, none, none] [o5] = .nx [some (.ref 0), some (.obj 8 [(.tup [(.tup [(.tup [(.int 1)]), (.tup [(.int 0), (.int 1)])]), (.tup [(.tup [(.int 0)]), (.tup [(.int 1), (.int 0)])])])]), some (.fl [.non, (.int 0), (.tup []), (.tup [(.tup [(.tup [(.int 1)]), (.tup [(.int 0), (.int 1)])])]), (.str "net"), (.fd [] [])]), some p0.1, some (.bl p0.2), some p1.1, some (.bl p1.2), some (right_D4_7 p0), some (right_D4_8 p1), some (.fn 49), some p2.1, some (.bl p2.2), some p3.1, some (.bl p3.2), some (right_D12_14 p0 p1), some p4.1, some (.bl p4.2), none, none, none, none, none] [o5] := right_d15 _ _ _ _ _ _ _ _ _ _ _ _ _ _ _ _ _ [o5] (p0, p4) (pr_mem h0 h4)
  obtain ⟨p5, h5, o6, ho6, e16⟩ := drawA (i := 17) (j := 18) (s := [some (.ref 0), some (.obj 8 [(.tup [(.tup [(.tup [(.int 1)]), (.tup [(.int 0), (.int 1)])]), (.tup [(.tup [(.int 0)]), (.tup [(.int 1), (.int 0)])])])]), some (.fl [.non, (.int 0), (.tup []), (.tup [(.tup [(.tup [(.int 1)]), (.tup [(.int 0), (.int 1)])])]), (.str "net"), (.fd [] [])]), some p0.1, some (.bl p0.2), some p1.1, some (.bl p1.2), some (right_D4_7 p0), some (right_D4_8 p1), some (.fn 49), some p2.1, some (.bl p2.2), some p3.1, some (.bl p3.2), some (right_D12_14 p0 p1), some p4.1, some (.bl p4.2), none, none, none, none, none]) right_one rfl (fun o => right_T5hv _ _ _ _ _ _ _ _ _ _ _ _ _ _ _ _ _ _ _ _ _ o) (fun o => right_T5hw _ _ _ _ _ _ _ _ _ _ _ _ _ _ _ _ _ _ _ _ _ o) rfl rfl rfl rfl ho5 (by omega)
  have e16' : (den right_r16).s FR_law_right [some (.ref 0), some (.obj 8 [(.tup [(.tup [(.tup [(.int 1)]), (.tup [(.int 0), (.int 1)])]), (.tup [(.tup [(.int 0)]), (.tup [(.int 1), (.int 0)])])])]), some (.fl [.non, (.int 0), (.tup []), (.tup [(.tup [(.tup [(.int 1)]), (.tup [(.int 0), (.int 1)])])]), (.str "net"), (.fd [] [])]), some p0.1, some (.bl p0.2), some p1.1, some (.bl p1.2), some (right_D4_7 p0), some (right_D4_8 p1), some (.fn 49), some p2.1, some (.bl p2.2), some p3.1, some (.bl p3.2), some (right_D12_14 p0 p1), some p4.1, some (.bl p4.2), none, none, none, none, none] [o5] = .nx [some (.ref 0), some (.obj 8 [(.tup [(.tup [(.tup [(.int 1)]), (.tup [(.int 0), (.int 1)])]), (.tup [(.tup [(.int 0)]), (.tup [(.int 1), (.int 0)])])])]), some (.fl [.non, (.int 0), (.tup []), (.tup [(.tup [(.tup [(.int 1)]), (.tup [(.int 0), (.int 1)])])]), (.str "net"), (.fd [] [])]), some p0.1, some (.bl p0.2), some p1.1, some (.bl p1.2), some (right_D4_7 p0), some (right_D4_8 p1), some (.fn 49), some p2.1, some (.bl p2.2), some p3.1, some (.bl p3.2), some (right_D12_14 p0 p1), some p4.1, some (.bl p4.2), some p5.1, some (.bl p5.2), none, none, none] [o6] := e16
  obtain ⟨p6, h6, o7, ho7, e17⟩ := drawP (i := 19) (j := 20) (s := [some (.ref 0), some (.obj 8 [(.tup [(.tup [(.tup [(.int 1)]), (.tup [(.int 0), (.int 1)])]), (.tup [(.tup [(.int 0)]), (.tup [(.int 1), (.int 0)])])])]), some (.fl [.non, (.int 0), (.tup []), (.tup [(.tup [(.tup [(.int 1)]), (.tup [(.int 0), (.int 1)])])]), (.str "net"), (.fd [] [])]), some p0.1, some (.bl p0.2), some p1.1, some (.bl p1.2), some (right_D4_7 p0), some (right_D4_8 p1), some (.fn 49), some p2.1, some (.bl p2.2), some p3.1, some (.bl p3.2), some (right_D12_14 p0 p1), some p4.1, some (.bl p4.2), some p5.1, some (.bl p5.2), none, none, none]) right_one right_pick rfl (fun o => right_T6hv _ _ _ _ _ _ _ _ _ _ _ _ _ _ _ _ _ _ _ _ _ o) (fun o => right_T6hw _ _ _ _ _ _ _ _ _ _ _ _ _ _ _ _ _ _ _ _ _ o) rfl rfl rfl rfl rfl rfl ho6 (by omega)
  have e17' : (den right_r17).s FR_law_right [some (.ref 0), some (.obj 8 [(.tup [(.tup [(.tup [(.int 1)]), (.tup [(.int 0), (.int 1)])]), (.tup [(.tup [(.int 0)]), (.tup [(.int 1), (.int 0)])])])]), some (.fl [.non, (.int 0), (.tup []), (.tup [(.tup [(.tup [(.int 1)]), (.tup [(.int 0), (.int 1)])])]), (.str "net"), (.fd [] [])]), some p0.1, some (.bl p0.2), some p1.1, some (.bl p1.2), some (right_D4_7 p0), some (right_D4_8 p1), some (.fn 49), some p2.1, some (.bl p2.2), some p3.1, some (.bl p3.2), some (right_D12_14 p0 p1), some p4.1, some (.bl p4.2), some p5.1, some (.bl p5.2), none, none, none] [o6] = .nx [some (.ref 0), some (.obj 8 [(.tup [(.tup [(.tup [(.int 1)]), (.tup [(.int 0), (.int 1)])]), (.tup [(.tup [(.int 0)]), (.tup [(.int 1), (.int 0)])])])]), some (.fl [.non, (.int 0), (.tup []), (.tup [(.tup [(.tup [(.int 1)]), (.tup [(.int 0), (.int 1)])])]), (.str "net"), (.fd [] [])]), some p0.1, some (.bl p0.2), some p1.1, some (.bl p1.2), some (right_D4_7 p0), some (right_D4_8 p1), some (.fn 49), some p2.1, some (.bl p2.2), some p3.1, some (.bl p3.2), some (right_D12_14 p0 p1), some p4.1, some (.bl p4.2), some p5.1, some (.bl p5.2), some p6.1, some (.bl p6.2), none] [o7] := e17
  have e18' : (den right_r18).s FR_law_right [some (.ref 0), some (.obj 8 [(.tup [(.tup [(.tup [(.int 1)]), (.tup [(.int 0), (.int 1)])]), (.tup [(.tup [(.int 0)]), (.tup [(.int 1), (.int 0)])])])]), some (.fl [.non, (.int 0), (.tup []), (.tup [(.tup [(.tup [(.int 1)]), (.tup [(.int 0), (.int 1)])])]), (.str "net"), (.fd [] [])]), some p0.1, some (.bl p0.2), some p1.1, some (.bl p1.2), some (right_D4_7 p0), some (right_D4_8 p1), some (.fn 49), some p2.1, some (.bl p2.2), some p3.1, some (.bl p3.2), some (right_D12_14 p0 p1), some p4.1, some (.bl p4.2), some p5.1, some (.bl p5.2), some p6.1, some (.bl p6.2), none] [o7] = .nx [some (.ref 0), some (.obj 8 [(.tup [(.tup [(.tup [(.int 1)]), (.tup [(.int 0), (.int 1)])]), (.tup [(.tup [(.int 0)]), (.tup [(.int 1), (.int 0)])])])]), some (.fl [.non, (.int 0), (.tup []), (.tup [(.tup [(.tup [(.int 1)]), (.tup [(.int 0), (.int 1)])])]), (.str "net"), (.fd [] [])]), some p0.1, some (.bl p0.2), some p1.1, some (.bl p1.2), some (right_D4_7 p0), some (right_D4_8 p1), some (.fn 49), some p2.1, some (.bl p2.2), some p3.1, some (.bl p3.2), some (right_D12_14 p0 p1), some p4.1, some (.bl p4.2), some p5.1, some (.bl p5.2), some p6.1, some (.bl p6.2), none] [o7] := right_d18 _ _ _ _ _ _ _ _ _ _ _ _ _ _ _ _ _ _ [o7] (p5) h5
  have e19' : (den right_r19).s FR_law_right [some (.ref 0), some (.obj 8 [(.tup [(.tup [(.tup [(.int 1)]), (.tup [(.int 0), (.int 1)])]), (.tup [(.tup [(.int 0)]), (.tup [(.int 1), (.int 0)])])])]), some (.fl [.non, (.int 0), (.tup []), (.tup [(.tup [(.tup [(.int 1)]), (.tup [(.int 0), (.int 1)])])]), (.str "net"), (.fd [] [])]), some p0.1, some (.bl p0.2), some p1.1, some (.bl p1.2), some (right_D4_7 p0), some (right_D4_8 p1), some (.fn 49), some p2.1, some (.bl p2.2), some p3.1, some (.bl p3.2), some (right_D12_14 p0 p1), some p4.1, some (.bl p4.2), some p5.1, some (.bl p5.2), some p6.1, some (.bl p6.2), none] [o7] = .nx [some (.ref 0), some (.obj 8 [(.tup [(.tup [(.tup [(.int 1)]), (.tup [(.int 0), (.int 1)])]), (.tup [(.tup [(.int 0)]), (.tup [(.int 1), (.int 0)])])])]), some (.fl [.non, (.int 0), (.tup []), (.tup [(.tup [(.tup [(.int 1)]), (.tup [(.int 0), (.int 1)])])]), (.str "net"), (.fd [] [])]), some p0.1, some (.bl p0.2), some p1.1, some (.bl p1.2), some (right_D4_7 p0), some (right_D4_8 p1), some (.fn 49), some p2.1, some (.bl p2.2), some p3.1, some (.bl p3.2), some (right_D12_14 p0 p1), some p4.1, some (.bl p4.2), some p5.1, some (.bl p5.2), some p6.1, some (.bl p6.2), some (right_D19_21 p6)] [o7] := right_d19 _ _ _ _ _ _ _ _ _ _ _ _ _ _ _ _ _ _ _ [o7] (p6) h6
  have e20' : (den right_r20).s FR_law_right [some (.ref 0), some (.obj 8 [(.tup [(.tup [(.tup [(.int 1)]), (.tup [(.int 0), (.int 1)])]), (.tup [(.tup [(.int 0)]), (.tup [(.int 1), (.int 0)])])])]), some (.fl [.non, (.int 0), (.tup []), (.tup [(.tup [(.tup [(.int 1)]), (.tup [(.int 0), (.int 1)])])]), (.str "net"), (.fd [] [])]), some p0.1, some (.bl p0.2), some p1.1, some (.bl p1.2), some (right_D4_7 p0), some (right_D4_8 p1), some (.fn 49), some p2.1, some (.bl p2.2), some p3.1, some (.bl p3.2), some (right_D12_14 p0 p1), some p4.1, some (.bl p4.2), some p5.1, some (.bl p5.2), some p6.1, some (.bl p6.2), some (right_D19_21 p6)] [o7] = .nx [some (.ref 0), some (.obj 8 [(.tup [(.tup [(.tup [(.int 1)]), (.tup [(.int 0), (.int 1)])]), (.tup [(.tup [(.int 0)]), (.tup [(.int 1), (.int 0)])])])]), some (.fl [.non, (.int 0), (.tup []), (.tup [(.tup [(.tup [(.int 1)]), (.tup [(.int 0), (.int 1)])])]), (.str "net"), (.fd [] [])]), some p0.1, some (.bl p0.2), some p1.1, some (.bl p1.2), some (right_D4_7 p0), some (right_D4_8 p1), some (.fn 49), some p2.1, some (.bl p2.2), some p3.1, some (.bl p3.2), some (right_D12_14 p0 p1), some p4.1, some (.bl p4.2), some p5.1, some (.bl p5.2), some p6.1, some (.bl p6.2), some (right_D19_21 p6)] [o7] := right_d20 _ _ _ _ _ _ _ _ _ _ _ _ _ _ _ _ _ _ [o7] (p6) h6
  have e21' : (den (.cons right_r21 Z)).b FR_law_right [some (.ref 0), some (.obj 8 [(.tup [(.tup [(.tup [(.int 1)]), (.tup [(.int 0), (.int 1)])]), (.tup [(.tup [(.int 0)]), (.tup [(.int 1), (.int 0)])])])]), some (.fl [.non, (.int 0), (.tup []), (.tup [(.tup [(.tup [(.int 1)]), (.tup [(.int 0), (.int 1)])])]), (.str "net"), (.fd [] [])]), some p0.1, some (.bl p0.2), some p1.1, some (.bl p1.2), some (right_D4_7 p0), some (right_D4_8 p1), some (.fn 49), some p2.1, some (.bl p2.2), some p3.1, some (.bl p3.2), some (right_D12_14 p0 p1), some p4.1, some (.bl p4.2), some p5.1, some (.bl p5.2), some p6.1, some (.bl p6.2), some (right_D19_21 p6)] [o7] = .rt (.bl true) [o7] := right_d21 _ _ _ _ _ _ _ _ _ _ _ _ _ _ _ _ [o7] (p5, p6) (pr_mem h5 h6)
  refine ⟨o7, [], ho7.mono (by omega), ?_⟩
  exact (bcons_nx e0').trans ((bcons_nx e1').trans ((bcons_nx e2').trans ((bcons_nx e3').trans ((bcons_nx e4').trans ((bcons_nx e5').trans ((bcons_nx e6').trans ((bcons_nx e7').trans ((bcons_nx e8').trans ((bcons_nx e9').trans ((bcons_nx e10').trans ((bcons_nx e11').trans ((bcons_nx e12').trans ((bcons_nx e13').trans ((bcons_nx e14').trans ((bcons_nx e15').trans ((bcons_nx e16').trans ((bcons_nx e17').trans ((bcons_nx e18').trans ((bcons_nx e19').trans ((bcons_nx e20').trans (e21')))))))))))))))))))))
/-! _law_made_right -/
def FR_law_made_right : FT := ftT (sem Ds 10000) 10000 33
theorem made_right_one : OneF FR_law_made_right 57 := oneF_of (n := 31) (d := f57) (kr := 55) (kp := 56) rfl rfl rfl rfl rfl rfl rfl (rollF_of (n := 29) (d := f55) (q := 179) rfl rfl rfl rfl rfl rfl rfl (.inl rfl)) (pickF_of (n := 29) (d := f56) (kr := 55) rfl rfl rfl rfl rfl rfl rfl (rollF_of (n := 27) (d := f55) (q := 179) rfl rfl rfl rfl rfl rfl rfl (.inl rfl)))
theorem made_right_pick : PickF FR_law_made_right 56 := pickF_of (n := 31) (d := f56) (kr := 55) rfl rfl rfl rfl rfl rfl rfl (rollF_of (n := 29) (d := f55) (q := 179) rfl rfl rfl rfl rfl rfl rfl (.inl rfl))
def made_right_r0 : A := (.sA 1 (.fz (.lst (.cons .non (.cons (.tup Z) (.cons (.fz (.lst (.cons (.tup (.cons (.tup Z) (.cons (.tup (.cons (.int 0) Z)) Z))) Z))) (.cons (.tup (.cons (.tup (.cons (.tup (.cons (.int 1) Z)) (.cons (.tup (.cons (.int 0) (.cons (.int 1) Z))) Z))) Z)) (.cons (.tup (.cons (.tup (.cons (.tup (.cons (.int 0) Z)) (.cons (.tup (.cons (.int 0) (.cons (.int 2) Z))) Z))) Z)) (.cons (.tup (.cons (.tup (.cons (.tup (.cons (.int 0) Z)) (.cons (.tup (.cons (.int 0) Z)) Z))) Z)) (.cons (.tup (.cons (.tup (.cons (.tup (.cons (.int 0) (.cons (.int 0) Z))) (.cons (.tup (.cons (.int 0) (.cons (.int 1) (.cons (.int 1) (.cons (.int 0) Z))))) Z))) Z)) Z))))))))))
def made_right_r1 : A := (.sA 1 (.fz (.bin .add (.var 1) (.lst (.cons (.fz (.bin .mul (.tup (.cons (.tup (.cons (.tup Z) (.cons (.tup (.cons (.int 0) Z)) Z))) Z)) (.int 11))) (.cons (.tup (.cons (.tup (.cons (.tup (.cons (.int 0) Z)) (.cons (.tup (.cons (.int 0) (.cons (.bl true) Z))) Z))) Z)) (.cons (.tup (.cons (.tup (.cons (.tup (.cons (.int 0) Z)) (.cons (.fz (.lst (.cons (.int 0) (.cons (.int 1) Z)))) Z))) Z)) (.cons (.tup (.cons (.tup (.cons (.tup (.cons (.neg (.int 1)) Z)) (.cons (.tup (.cons (.int 0) (.cons (.int 1) Z))) Z))) Z)) (.cons (.tup (.cons (.tup (.cons (.int 0) (.cons (.int 1) Z))) Z)) (.cons (.str "net") (.cons (.tup (.cons (.tup Z) Z)) Z)))))))))))
def made_right_r2 : A := (.sG (.gt (.cons (.gn 2) (.cons (.gn 3) Z))) (.fz (.call 57 (.cons (.var 0) (.cons (.fz (.call 56 (.cons (.var 0) (.cons (.fz (.lst (.cons (.tup (.cons (.tup (.cons (.tup Z) (.cons (.tup (.cons (.int 1) Z)) Z))) Z)) (.cons (.tup (.cons (.tup (.cons (.tup (.cons (.int 0) Z)) (.cons (.tup (.cons (.int 0) (.cons (.int 1) Z))) Z))) (.cons (.tup (.cons (.tup (.cons (.int 0) (.cons (.int 1) Z))) (.cons (.tup (.cons (.int 0) (.cons (.int 1) (.cons (.int 1) (.cons (.int 0) Z))))) Z))) Z))) Z)))) Z)))) (.cons (.var 1) Z))))))
def made_right_r3 : A := (.sIf (.cmp .ne (.met hs (.call 15 (.cons (.var 2) Z))) (.call 58 (.cons (.fz (.lst (.cons (.tup (.cons (.str "net") (.cons (.var 3) Z))) Z))) Z))) (.cons (.sR (.bl false)) Z) Z)
def made_right_r4 : A := (.sA 1 (.fz (.lst (.cons .non (.cons (.tup Z) (.cons (.tup (.cons (.tup (.cons (.int 0) Z)) Z)) (.cons (.tup (.cons (.tup (.cons (.int 0) Z)) (.cons (.tup (.cons (.int 1) Z)) (.cons (.tup (.cons (.int 0) Z)) Z)))) (.cons (.tup (.cons (.tup (.cons (.int 0) Z)) (.cons (.tup (.cons (.int 2) Z)) Z))) (.cons (.tup (.cons (.tup (.cons (.int 0) Z)) (.cons (.fz (.lst (.cons (.int 1) Z))) Z))) (.cons (.tup (.cons (.tup (.cons (.int 0) (.cons (.int 0) Z))) (.cons (.tup (.cons (.int 0) (.cons (.int 1) Z))) Z))) (.cons (.fz (.lst (.cons (.tup (.cons (.int 0) Z)) (.cons (.tup (.cons (.int 1) Z)) Z)))) (.cons (.tup (.cons (.tup (.cons (.bl true) Z)) (.cons (.tup (.cons (.int 0) Z)) Z))) Z))))))))))))
def made_right_r5 : A := (.sG (.gt (.cons (.gn 4) (.cons (.gn 5) Z))) (.fz (.call 57 (.cons (.var 0) (.cons (.fz (.call 56 (.cons (.var 0) (.cons (.fz (.lst (.cons (.tup (.cons (.tup (.cons (.int 0) Z)) (.cons (.tup (.cons (.int 0) Z)) Z))) (.cons (.fz (.bin .mul (.tup (.cons (.tup (.cons (.int 0) (.cons (.int 1) Z))) Z)) (.int 4))) Z)))) Z)))) (.cons (.var 1) Z))))))
def made_right_r6 : A := (.sR (.cmp .eq (.met hs (.call 42 (.cons (.var 4) Z))) (.call 58 (.cons (.fz (.lst (.cons (.tup (.cons (.str "operation") (.cons (.var 5) Z))) Z))) Z))))
theorem made_right_eq : f59.body = (.cons made_right_r0 (.cons made_right_r1 (.cons made_right_r2 (.cons made_right_r3 (.cons made_right_r4 (.cons made_right_r5 (.cons made_right_r6 Z))))))) := rfl
theorem made_right_d0 (z1 z2 z3 z4 z5 : Option AV) (m : AH) : (den made_right_r0).s FR_law_made_right [some (.ref 0), z1, z2, z3, z4, z5] m = .nx [some (.ref 0), some (.fl [.non, (.tup []), (.fl [(.tup [(.tup []), (.tup [(.int 0)])])]), (.tup [(.tup [(.tup [(.int 1)]), (.tup [(.int 0), (.int 1)])])]), (.tup [(.tup [(.tup [(.int 0)]), (.tup [(.int 0), (.int 2)])])]), (.tup [(.tup [(.tup [(.int 0)]), (.tup [(.int 0)])])]), (.tup [(.tup [(.tup [(.int 0), (.int 0)]), (.tup [(.int 0), (.int 1), (.int 1), (.int 0)])])])]), z2, z3, z4, z5] m := by kernel_rfl
theorem made_right_d1 (z2 z3 z4 z5 : Option AV) (m : AH) : (den made_right_r1).s FR_law_made_right [some (.ref 0), some (.fl [.non, (.tup []), (.fl [(.tup [(.tup []), (.tup [(.int 0)])])]), (.tup [(.tup [(.tup [(.int 1)]), (.tup [(.int 0), (.int 1)])])]), (.tup [(.tup [(.tup [(.int 0)]), (.tup [(.int 0), (.int 2)])])]), (.tup [(.tup [(.tup [(.int 0)]), (.tup [(.int 0)])])]), (.tup [(.tup [(.tup [(.int 0), (.int 0)]), (.tup [(.int 0), (.int 1), (.int 1), (.int 0)])])])]), z2, z3, z4, z5] m = .nx [some (.ref 0), some (.fl [.non, (.tup []), (.fl [(.tup [(.tup []), (.tup [(.int 0)])])]), (.tup [(.tup [(.tup [(.int 1)]), (.tup [(.int 0), (.int 1)])])]), (.tup [(.tup [(.tup [(.int 0)]), (.tup [(.int 0), (.int 2)])])]), (.tup [(.tup [(.tup [(.int 0)]), (.tup [(.int 0)])])]), (.tup [(.tup [(.tup [(.int 0), (.int 0)]), (.tup [(.int 0), (.int 1), (.int 1), (.int 0)])])]), (.tup [(.tup [(.tup []), (.tup [(.int 0)])]), (.tup [(.tup []), (.tup [(.int 0)])]), (.tup [(.tup []), (.tup [(.int 0)])]), (.tup [(.tup []), (.tup [(.int 0)])]), (.tup [(.tup []), (.tup [(.int 0)])]), (.tup [(.tup []), (.tup [(.int 0)])]), (.tup [(.tup []), (.tup [(.int 0)])]), (.tup [(.tup []), (.tup [(.int 0)])]), (.tup [(.tup []), (.tup [(.int 0)])]), (.tup [(.tup []), (.tup [(.int 0)])]), (.tup [(.tup []), (.tup [(.int 0)])])]), (.tup [(.tup [(.tup [(.int 0)]), (.tup [(.int 0), (.bl true)])])]), (.tup [(.tup [(.tup [(.int 0)]), (.fl [(.int 0), (.int 1)])])]), (.tup [(.tup [(.tup [(.int (-1))]), (.tup [(.int 0), (.int 1)])])]), (.tup [(.tup [(.int 0), (.int 1)])]), (.str "net"), (.tup [(.tup [])])]), z2, z3, z4, z5] m := by kernel_rfl
def made_right_T0v : List AV := [(.tup [(.tup [(.tup []), (.tup [(.int 1)])])]), (.tup [(.tup [(.tup [(.int 0)]), (.tup [(.int 0), (.int 1)])]), (.tup [(.tup [(.int 0), (.int 1)]), (.tup [(.int 0), (.int 1), (.int 1), (.int 0)])])])]
def made_right_T0w : List AV := [.non, (.tup []), (.fl [(.tup [(.tup []), (.tup [(.int 0)])])]), (.tup [(.tup [(.tup [(.int 1)]), (.tup [(.int 0), (.int 1)])])]), (.tup [(.tup [(.tup [(.int 0)]), (.tup [(.int 0), (.int 2)])])]), (.tup [(.tup [(.tup [(.int 0)]), (.tup [(.int 0)])])]), (.tup [(.tup [(.tup [(.int 0), (.int 0)]), (.tup [(.int 0), (.int 1), (.int 1), (.int 0)])])]), (.tup [(.tup [(.tup []), (.tup [(.int 0)])]), (.tup [(.tup []), (.tup [(.int 0)])]), (.tup [(.tup []), (.tup [(.int 0)])]), (.tup [(.tup []), (.tup [(.int 0)])]), (.tup [(.tup []), (.tup [(.int 0)])]), (.tup [(.tup []), (.tup [(.int 0)])]), (.tup [(.tup []), (.tup [(.int 0)])]), (.tup [(.tup []), (.tup [(.int 0)])]), (.tup [(.tup []), (.tup [(.int 0)])]), (.tup [(.tup []), (.tup [(.int 0)])]), (.tup [(.tup []), (.tup [(.int 0)])])]), (.tup [(.tup [(.tup [(.int 0)]), (.tup [(.int 0), (.bl true)])])]), (.tup [(.tup [(.tup [(.int 0)]), (.fl [(.int 0), (.int 1)])])]), (.tup [(.tup [(.tup [(.int (-1))]), (.tup [(.int 0), (.int 1)])])]), (.tup [(.tup [(.int 0), (.int 1)])]), (.str "net"), (.tup [(.tup [])])]
abbrev made_right_T0 : List (AV × Bool) := tbl made_right_T0v made_right_T0w
theorem made_right_T0hv (z2 z3 z4 z5 : Option AV) (o : AO) : (den (.fz (.lst (.cons (.tup (.cons (.tup (.cons (.tup Z) (.cons (.tup (.cons (.int 1) Z)) Z))) Z)) (.cons (.tup (.cons (.tup (.cons (.tup (.cons (.int 0) Z)) (.cons (.tup (.cons (.int 0) (.cons (.int 1) Z))) Z))) (.cons (.tup (.cons (.tup (.cons (.int 0) (.cons (.int 1) Z))) (.cons (.tup (.cons (.int 0) (.cons (.int 1) (.cons (.int 1) (.cons (.int 0) Z))))) Z))) Z))) Z))))).e false FR_law_made_right [some (.ref 0), some (.fl [.non, (.tup []), (.fl [(.tup [(.tup []), (.tup [(.int 0)])])]), (.tup [(.tup [(.tup [(.int 1)]), (.tup [(.int 0), (.int 1)])])]), (.tup [(.tup [(.tup [(.int 0)]), (.tup [(.int 0), (.int 2)])])]), (.tup [(.tup [(.tup [(.int 0)]), (.tup [(.int 0)])])]), (.tup [(.tup [(.tup [(.int 0), (.int 0)]), (.tup [(.int 0), (.int 1), (.int 1), (.int 0)])])]), (.tup [(.tup [(.tup []), (.tup [(.int 0)])]), (.tup [(.tup []), (.tup [(.int 0)])]), (.tup [(.tup []), (.tup [(.int 0)])]), (.tup [(.tup []), (.tup [(.int 0)])]), (.tup [(.tup []), (.tup [(.int 0)])]), (.tup [(.tup []), (.tup [(.int 0)])]), (.tup [(.tup []), (.tup [(.int 0)])]), (.tup [(.tup []), (.tup [(.int 0)])]), (.tup [(.tup []), (.tup [(.int 0)])]), (.tup [(.tup []), (.tup [(.int 0)])]), (.tup [(.tup []), (.tup [(.int 0)])])]), (.tup [(.tup [(.tup [(.int 0)]), (.tup [(.int 0), (.bl true)])])]), (.tup [(.tup [(.tup [(.int 0)]), (.fl [(.int 0), (.int 1)])])]), (.tup [(.tup [(.tup [(.int (-1))]), (.tup [(.int 0), (.int 1)])])]), (.tup [(.tup [(.int 0), (.int 1)])]), (.str "net"), (.tup [(.tup [])])]), z2, z3, z4, z5] [o] = .ok (.fl made_right_T0v) [o] := by kernel_rfl
theorem made_right_T0hw (z2 z3 z4 z5 : Option AV) (o : AO) : (den (.var 1)).e false FR_law_made_right [some (.ref 0), some (.fl [.non, (.tup []), (.fl [(.tup [(.tup []), (.tup [(.int 0)])])]), (.tup [(.tup [(.tup [(.int 1)]), (.tup [(.int 0), (.int 1)])])]), (.tup [(.tup [(.tup [(.int 0)]), (.tup [(.int 0), (.int 2)])])]), (.tup [(.tup [(.tup [(.int 0)]), (.tup [(.int 0)])])]), (.tup [(.tup [(.tup [(.int 0), (.int 0)]), (.tup [(.int 0), (.int 1), (.int 1), (.int 0)])])]), (.tup [(.tup [(.tup []), (.tup [(.int 0)])]), (.tup [(.tup []), (.tup [(.int 0)])]), (.tup [(.tup []), (.tup [(.int 0)])]), (.tup [(.tup []), (.tup [(.int 0)])]), (.tup [(.tup []), (.tup [(.int 0)])]), (.tup [(.tup []), (.tup [(.int 0)])]), (.tup [(.tup []), (.tup [(.int 0)])]), (.tup [(.tup []), (.tup [(.int 0)])]), (.tup [(.tup []), (.tup [(.int 0)])]), (.tup [(.tup []), (.tup [(.int 0)])]), (.tup [(.tup []), (.tup [(.int 0)])])]), (.tup [(.tup [(.tup [(.int 0)]), (.tup [(.int 0), (.bl true)])])]), (.tup [(.tup [(.tup [(.int 0)]), (.fl [(.int 0), (.int 1)])])]), (.tup [(.tup [(.tup [(.int (-1))]), (.tup [(.int 0), (.int 1)])])]), (.tup [(.tup [(.int 0), (.int 1)])]), (.str "net"), (.tup [(.tup [])])]), z2, z3, z4, z5] [o] = .ok (.fl made_right_T0w) [o] := by kernel_rfl
theorem made_right_d3 (z1 z4 z5 : Option AV) (m : AH) : ∀ p ∈ made_right_T0, (den made_right_r3).s FR_law_made_right [some (.ref 0), z1, some p.1, some (.bl p.2), z4, z5] m = .nx [some (.ref 0), z1, some p.1, some (.bl p.2), z4, z5] m := allM (by kernel_rfl)
theorem made_right_d4 (z1 z2 z3 z4 z5 : Option AV) (m : AH) : (den made_right_r4).s FR_law_made_right [some (.ref 0), z1, z2, z3, z4, z5] m = .nx [some (.ref 0), some (.fl [.non, (.tup []), (.tup [(.tup [(.int 0)])]), (.tup [(.tup [(.int 0)]), (.tup [(.int 1)]), (.tup [(.int 0)])]), (.tup [(.tup [(.int 0)]), (.tup [(.int 2)])]), (.tup [(.tup [(.int 0)]), (.fl [(.int 1)])]), (.tup [(.tup [(.int 0), (.int 0)]), (.tup [(.int 0), (.int 1)])]), (.fl [(.tup [(.int 0)]), (.tup [(.int 1)])]), (.tup [(.tup [(.bl true)]), (.tup [(.int 0)])])]), z2, z3, z4, z5] m := by kernel_rfl
def made_right_T1v : List AV := [(.tup [(.tup [(.int 0)]), (.tup [(.int 0)])]), (.tup [(.tup [(.int 0), (.int 1)]), (.tup [(.int 0), (.int 1)]), (.tup [(.int 0), (.int 1)]), (.tup [(.int 0), (.int 1)])])]
def made_right_T1w : List AV := [.non, (.tup []), (.tup [(.tup [(.int 0)])]), (.tup [(.tup [(.int 0)]), (.tup [(.int 1)]), (.tup [(.int 0)])]), (.tup [(.tup [(.int 0)]), (.tup [(.int 2)])]), (.tup [(.tup [(.int 0)]), (.fl [(.int 1)])]), (.tup [(.tup [(.int 0), (.int 0)]), (.tup [(.int 0), (.int 1)])]), (.fl [(.tup [(.int 0)]), (.tup [(.int 1)])]), (.tup [(.tup [(.bl true)]), (.tup [(.int 0)])])]
abbrev made_right_T1 : List (AV × Bool) := tbl made_right_T1v made_right_T1w
theorem made_right_T1hv (z2 z3 z4 z5 : Option AV) (o : AO) : (den (.fz (.lst (.cons (.tup (.cons (.tup (.cons (.int 0) Z)) (.cons (.tup (.cons (.int 0) Z)) Z))) (.cons (.fz (.bin .mul (.tup (.cons (.tup (.cons (.int 0) (.cons (.int 1) Z))) Z)) (.int 4))) Z))))).e false FR_law_made_right [some (.ref 0), some (.fl [.non, (.tup []), (.tup [(.tup [(.int 0)])]), (.tup [(.tup [(.int 0)]), (.tup [(.int 1)]), (.tup [(.int 0)])]), (.tup [(.tup [(.int 0)]), (.tup [(.int 2)])]), (.tup [(.tup [(.int 0)]), (.fl [(.int 1)])]), (.tup [(.tup [(.int 0), (.int 0)]), (.tup [(.int 0), (.int 1)])]), (.fl [(.tup [(.int 0)]), (.tup [(.int 1)])]), (.tup [(.tup [(.bl true)]), (.tup [(.int 0)])])]), z2, z3, z4, z5] [o] = .ok (.fl made_right_T1v) [o] := by kernel_rfl
theorem made_right_T1hw (z2 z3 z4 z5 : Option AV) (o : AO) : (den (.var 1)).e false FR_law_made_right [some (.ref 0), some (.fl [.non, (.tup []), (.tup [(.tup [(.int 0)])]), (.tup [(.tup [(.int 0)]), (.tup [(.int 1)]), (.tup [(.int 0)])]), (.tup [(.tup [(.int 0)]), (.tup [(.int 2)])]), (.tup [(.tup [(.int 0)]), (.fl [(.int 1)])]), (.tup [(.tup [(.int 0), (.int 0)]), (.tup [(.int 0), (.int 1)])]), (.fl [(.tup [(.int 0)]), (.tup [(.int 1)])]), (.tup [(.tup [(.bl true)]), (.tup [(.int 0)])])]), z2, z3, z4, z5] [o] = .ok (.fl made_right_T1w) [o] := by kernel_rfl
theorem made_right_d6 (z1 z2 z3 : Option AV) (m : AH) : ∀ p ∈ made_right_T1, (den (.cons made_right_r6 Z)).b FR_law_made_right [some (.ref 0), z1, z2, z3, some p.1, some (.bl p.2)] m = .rt (.bl true) m := allM (by kernel_rfl)
theorem made_right_ok : RightF FL 59 6 := by
  refine rightF_of (n := 33) (d := f59) (q := 5) rfl rfl rfl rfl rfl rfl (fun N o0 ho0 hn => ?_)
  have e0' : (den made_right_r0).s FR_law_made_right [some (.ref 0), none, none, none, none, none] [o0] = .nx [some (.ref 0), some (.fl [.non, (.tup []), (.fl [(.tup [(.tup []), (.tup [(.int 0)])])]), (.tup [(.tup [(.tup [(.int 1)]), (.tup [(.int 0), (.int 1)])])]), (.tup [(.tup [(.tup [(.int 0)]), (.tup [(.int 0), (.int 2)])])]), (.tup [(.tup [(.tup [(.int 0)]), (.tup [(.int 0)])])]), (.tup [(.tup [(.tup [(.int 0), (.int 0)]), (.tup [(.int 0), (.int 1), (.int 1), (.int 0)])])])]), none, none, none, none] [o0] := made_right_d0 _ _ _ _ _ [o0]
  have e1' : (den made_right_r1).s FR_law_made_right [some (.ref 0), some (.fl [.non, (.tup []), (.fl [(.tup [(.tup []), (.tup [(.int 0)])])]), (.tup [(.tup [(.tup [(.int 1)]), (.tup [(.int 0), (.int 1)])])]), (.tup [(.tup [(.tup [(.int 0)]), (.tup [(.int 0), (.int 2)])])]), (.tup [(.tup [(.tup [(.int 0)]), (.tup [(.int 0)])])]), (.tup [(.tup [(.tup [(.int 0), (.int 0)]), (.tup [(.int 0), (.int 1), (.int 1), (.int 0)])])])]), none, none, none, none] [o0] = .nx [some (.ref 0), some (.fl [.non, (.tup []), (.fl [(.tup [(.tup []), (.tup [(.int 0)])])]), (.tup [(.tup [(.tup [(.int 1)]), (.tup [(.int 0), (.int 1)])])]), (.tup [(.tup [(.tup [(.int 0)]), (.tup [(.int 0), (.int 2)])])]), (.tup [(.tup [(.tup [(.int 0)]), (.tup [(.int 0)])])]), (.tup [(.tup [(.tup [(.int 0), (.int 0)]), (.tup [(.int 0), (.int 1), (.int 1), (.int 0)])])]), (.tup [(.tup [(.tup []), (.tup [(.int 0)])]), (.tup [(.tup []), (.tup [(.int 0)])]), (.tup [(.tup []), (.tup [(.int 0)])]), (.tup [(.tup []), (.tup [(.int 0)])]), (.tup [(.tup []), (.tup [(.int 0)])]), (.tup [(.tup []), (.tup [(.int 0)])]), (.tup [(.tup []), (.tup [(.int 0)])]), (.tup [(.tup []), (.tup [(.int 0)])]), (.tup [(.tup []), (.tup [(.int 0)])]), (.tup [(.tup []), (.tup [(.int 0)])]), (.tup [(.tup []), (.tup [(.int 0)])])]), (.tup [(.tup [(.tup [(.int 0)]), (.tup [(.int 0), (.bl true)])])]), (.tup [(.tup [(.tup [(.int 0)]), (.fl [(.int 0), (.int 1)])])]), (.tup [(.tup [(.tup [(.int (-1))]), (.tup [(.int 0), (.int 1)])])]), (.tup [(.tup [(.int 0), (.int 1)])]), (.str "net"), (.tup [(.tup [])])]), none, none, none, none] [o0] := made_right_d1 _ _ _ _ [o0]
  obtain ⟨p0, h0, o1, ho1, e2⟩ := drawP (i := 2) (j := 3) (s := [some (.ref 0), some (.fl [.non, (.tup []), (.fl [(.tup [(.tup []), (.tup [(.int 0)])])]), (.tup [(.tup [(.tup [(.int 1)]), (.tup [(.int 0), (.int 1)])])]), (.tup [(.tup [(.tup [(.int 0)]), (.tup [(.int 0), (.int 2)])])]), (.tup [(.tup [(.tup [(.int 0)]), (.tup [(.int 0)])])]), (.tup [(.tup [(.tup [(.int 0), (.int 0)]), (.tup [(.int 0), (.int 1), (.int 1), (.int 0)])])]), (.tup [(.tup [(.tup []), (.tup [(.int 0)])]), (.tup [(.tup []), (.tup [(.int 0)])]), (.tup [(.tup []), (.tup [(.int 0)])]), (.tup [(.tup []), (.tup [(.int 0)])]), (.tup [(.tup []), (.tup [(.int 0)])]), (.tup [(.tup []), (.tup [(.int 0)])]), (.tup [(.tup []), (.tup [(.int 0)])]), (.tup [(.tup []), (.tup [(.int 0)])]), (.tup [(.tup []), (.tup [(.int 0)])]), (.tup [(.tup []), (.tup [(.int 0)])]), (.tup [(.tup []), (.tup [(.int 0)])])]), (.tup [(.tup [(.tup [(.int 0)]), (.tup [(.int 0), (.bl true)])])]), (.tup [(.tup [(.tup [(.int 0)]), (.fl [(.int 0), (.int 1)])])]), (.tup [(.tup [(.tup [(.int (-1))]), (.tup [(.int 0), (.int 1)])])]), (.tup [(.tup [(.int 0), (.int 1)])]), (.str "net"), (.tup [(.tup [])])]), none, none, none, none]) made_right_one made_right_pick rfl (fun o => made_right_T0hv _ _ _ _ o) (fun o => made_right_T0hw _ _ _ _ o) rfl rfl rfl rfl rfl rfl ho0 (by omega)
  have e2' : (den made_right_r2).s FR_law_made_right [some (.ref 0), some (.fl [.non, (.tup []), (.fl [(.tup [(.tup []), (.tup [(.int 0)])])]), (.tup [(.tup [(.tup [(.int 1)]), (.tup [(.int 0), (.int 1)])])]), (.tup [(.tup [(.tup [(.int 0)]), (.tup [(.int 0), (.int 2)])])]), (.tup [(.tup [(.tup [(.int 0)]), (.tup [(.int 0)])])]), (.tup [(.tup [(.tup [(.int 0), (.int 0)]), (.tup [(.int 0), (.int 1), (.int 1), (.int 0)])])]), (.tup [(.tup [(.tup []), (.tup [(.int 0)])]), (.tup [(.tup []), (.tup [(.int 0)])]), (.tup [(.tup []), (.tup [(.int 0)])]), (.tup [(.tup []), (.tup [(.int 0)])]), (.tup [(.tup []), (.tup [(.int 0)])]), (.tup [(.tup []), (.tup [(.int 0)])]), (.tup [(.tup []), (.tup [(.int 0)])]), (.tup [(.tup []), (.tup [(.int 0)])]), (.tup [(.tup []), (.tup [(.int 0)])]), (.tup [(.tup []), (.tup [(.int 0)])]), (.tup [(.tup []), (.tup [(.int 0)])])]), (.tup [(.tup [(.tup [(.int 0)]), (.tup [(.int 0), (.bl true)])])]), (.tup [(.tup [(.tup [(.int 0)]), (.fl [(.int 0), (.int 1)])])]), (.tup [(.tup [(.tup [(.int (-1))]), (.tup [(.int 0), (.int 1)])])]), (.tup [(.tup [(.int 0), (.int 1)])]), (.str "net"), (.tup [(.tup [])])]), none, none, none, none] [o0] = .nx [some (.ref 0), some (.fl [.non, (.tup []), (.fl [(.tup [(.tup []), (.tup [(.int 0)])])]), (.tup [(.tup [(.tup [(.int 1)]), (.tup [(.int 0), (.int 1)])])]), (.tup [(.tup [(.tup [(.int 0)]), (.tup [(.int 0), (.int 2)])])]), (.tup [(.tup [(.tup [(.int 0)]), (.tup [(.int 0)])])]), (.tup [(.tup [(.tup [(.int 0), (.int 0)]), (.tup [(.int 0), (.int 1), (.int 1), (.int 0)])])]), (.tup [(.tup [(.tup []), (.tup [(.int 0)])]), (.tup [(.tup []), (.tup [(.int 0)])]), (.tup [(.tup []), (.tup [(.int 0)])]), (.tup [(.tup []), (.tup [(.int 0)])]), (.tup [(.tup []), (.tup [(.int 0)])]), (.tup [(.tup []), (.tup [(.int 0)])]), (.tup [(.tup []), (.tup [(.int 0)])]), (.tup [(.tup []), (.tup [(.int 0)])]), (.tup [(.tup []), (.tup [(.int 0)])]), (.tup [(.tup []), (.tup [(.int 0)])]), (.tup [(.tup []), (.tup [(.int 0)])])]), (.tup [(.tup [(.tup [(.int 0)]), (.tup [(.int 0), (.bl true)])])]), (.tup [(.tup [(.tup [(.int 0)]), (.fl [(.int 0), (.int 1)])])]), (.tup [(.tup [(.tup [(.int (-1))]), (.tup [(.int 0), (.int 1)])])]), (.tup [(.tup [(.int 0), (.int 1)])]), (.str "net"), (.tup [(.tup [])])]), some p0.1, some (.bl p0.2), none, none] [o1] := e2
  have e3' : (den made_right_r3).s FR_law_made_right [some (.ref 0), some (.fl [.non, (.tup []), (.fl [(.tup [(.tup []), (.tup [(.int 0)])])]), (.tup [(.tup [(.tup [(.int 1)]), (.tup [(.int 0), (.int 1)])])]), (.tup [(.tup [(.tup [(.int 0)]), (.tup [(.int 0), (.int 2)])])]), (.tup [(.tup [(.tup [(.int 0)]), (.tup [(.int 0)])])]), (.tup [(.tup [(.tup [(.int 0), (.int 0)]), (.tup [(.int 0), (.int 1), (.int 1), (.int 0)])])]), (.tup [(.tup [(.tup []), (.tup [(.int 0)])]), (.tup [(.tup []), (.tup [(.int 0)])]), (.tup [(.tup []), (.tup [(.int 0)])]), (.tup [(.tup []), (.tup [(.int 0)])]), (.tup [(.tup []), (.tup [(.int 0)])]), (.tup [(.tup []), (.tup [(.int 0)])]), (.tup [(.tup []), (.tup [(.int 0)])]), (.tup [(.tup []), (.tup [(.int 0)])]), (.tup [(.tup []), (.tup [(.int 0)])]), (.tup [(.tup []), (.tup [(.int 0)])]), (.tup [(.tup []), (.tup [(.int 0)])])]), (.tup [(.tup [(.tup [(.int 0)]), (.tup [(.int 0), (.bl true)])])]), (.tup [(.tup [(.tup [(.int 0)]), (.fl [(.int 0), (.int 1)])])]), (.tup [(.tup [(.tup [(.int (-1))]), (.tup [(.int 0), (.int 1)])])]), (.tup [(.tup [(.int 0), (.int 1)])]), (.str "net"), (.tup [(.tup [])])]), some p0.1, some (.bl p0.2), none, none] [o1] = .nx [some (.ref 0), some (.fl [.non, (.tup []), (.fl [(.tup [(.tup []), (.tup [(.int 0)])])]), (.tup [(.tup [(.tup [(.int 1)]), (.tup [(.int 0), (.int 1)])])]), (.tup [(.tup [(.tup [(.int 0)]), (.tup [(.int 0), (.int 2)])])]), (.tup [(.tup [(.tup [(.int 0)]), (.tup [(.int 0)])])]), (.tup [(.tup [(.tup [(.int 0), (.int 0)]), (.tup [(.int 0), (.int 1), (.int 1), (.int 0)])])]), (.tup [(.tup [(.tup []), (.tup [(.int 0)])]), (.tup [(.tup []), (.tup [(.int 0)])]), (.tup [(.tup []), (.tup [(.int 0)])]), (.tup [(.tup []), (.tup [(.int 0)])]), (.tup [(.tup []), (.tup [(.int 0)])]), (.tup [(.tup []), (.tup [(.int 0)])]), (.tup [(.tup []), (.tup [(.int 0)])]), (.tup [(.tup []), (.tup [(.int 0)])]), (.tup [(.tup []), (.tup [(.int 0)])]), (.tup [(.tup []), (.tup [(.int 0)])]), (.tup [(.tup []), (.tup [(.int 0)])])]), (.tup [(.tup [(.tup [(.int 0)]), (.tup [(.int 0), (.bl true)])])]), (.tup [(.tup [(.tup [(.int 0)]), (.fl [(.int 0), (.int 1)])])]), (.tup [(.tup [(.tup [(.int (-1))]), (.tup [(.int 0), (.int 1)])])]), (.tup [(.tup [(.int 0), (.int 1)])]), (.str "net"), (.tup [(.tup [])])]), some p0.1, some (.bl p0.2), none, none] [o1] := made_right_d3 _ _ _ [o1] (p0) h0
  have e4' : (den made_right_r4).s FR_law_made_right [some (.ref 0), some (.fl [.non, (.tup []), (.fl [(.tup [(.tup []), (.tup [(.int 0)])])]), (.tup [(.tup [(.tup [(.int 1)]), (.tup [(.int 0), (.int 1)])])]), (.tup [(.tup [(.tup [(.int 0)]), (.tup [(.int 0), (.int 2)])])]), (.tup [(.tup [(.tup [(.int 0)]), (.tup [(.int 0)])])]), (.tup [(.tup [(.tup [(.int 0), (.int 0)]), (.tup [(.int 0), (.int 1), (.int 1), (.int 0)])])]), (.tup [(.tup [(.tup []), (.tup [(.int 0)])]), (.tup [(.tup []), (.tup [(.int 0)])]), (.tup [(.tup []), (.tup [(.int 0)])]), (.tup [(.tup []), (.tup [(.int 0)])]), (.tup [(.tup []), (.tup [(.int 0)])]), (.tup [(.tup []), (.tup [(.int 0)])]), (.tup [(.tup []), (.tup [(.int 0)])]), (.tup [(.tup []), (.tup [(.int 0)])]), (.tup [(.tup []), (.tup [(.int 0)])]), (.tup [(.tup []), (.tup [(.int 0)])]), (.tup [(.tup []), (.tup [(.int 0)])])]), (.tup [(.tup [(.tup [(.int 0)]), (.tup [(.int 0), (.bl true)])])]), (.tup [(.tup [(.tup [(.int 0)]), (.fl [(.int 0), (.int 1)])])]), (.tup [(.tup [(.tup [(.int (-1))]), (.tup [(.int 0), (.int 1)])])]), (.tup [(.tup [(.int 0), (.int 1)])]), (.str "net"), (.tup [(.tup [])])]), some p0.1, some (.bl p0.2), none, none] [o1] = .nx [some (.ref 0), some (.fl [.non, (.tup []), (.tup [(.tup [(.int 0)])]), (.tup [(.tup [(.int 0)]), (.tup [(.int 1)]), (.tup [(.int 0)])]), (.tup [(.tup [(.int 0)]), (.tup [(.int 2)])]), (.tup [(.tup [(.int 0)]), (.fl [(.int 1)])]), (.tup [(.tup [(.int 0), (.int 0)]), (.tup [(.int 0), (.int 1)])]), (.fl [(.tup [(.int 0)]), (.tup [(.int 1)])]), (.tup [(.tup [(.bl true)]), (.tup [(.int 0)])])]), some p0.1, some (.bl p0.2), none, none] [o1] := made_right_d4 _ _ _ _ _ [o1]
  obtain ⟨p1, h1, o2, ho2, e5⟩ := drawP (i := 4) (j := 5) (s := [some (.ref 0), some (.fl [.non, (.tup []), (.tup [(.tup [(.int 0)])]), (.tup [(.tup [(.int 0)]), (.tup [(.int 1)]), (.tup [(.int 0)])]), (.tup [(.tup [(.int 0)]), (.tup [(.int 2)])]), (.tup [(.tup [(.int 0)]), (.fl [(.int 1)])]), (.tup [(.tup [(.int 0), (.int 0)]), (.tup [(.int 0), (.int 1)])]), (.fl [(.tup [(.int 0)]), (.tup [(.int 1)])]), (.tup [(.tup [(.bl true)]), (.tup [(.int 0)])])]), some p0.1, some (.bl p0.2), none, none]) made_right_one made_right_pick rfl (fun o => made_right_T1hv _ _ _ _ o) (fun o => made_right_T1hw _ _ _ _ o) rfl rfl rfl rfl rfl rfl ho1 (by omega)
  have e5' : (den made_right_r5).s FR_law_made_right [some (.ref 0), some (.fl [.non, (.tup []), (.tup [(.tup [(.int 0)])]), (.tup [(.tup [(.int 0)]), (.tup [(.int 1)]), (.tup [(.int 0)])]), (.tup [(.tup [(.int 0)]), (.tup [(.int 2)])]), (.tup [(.tup [(.int 0)]), (.fl [(.int 1)])]), (.tup [(.tup [(.int 0), (.int 0)]), (.tup [(.int 0), (.int 1)])]), (.fl [(.tup [(.int 0)]), (.tup [(.int 1)])]), (.tup [(.tup [(.bl true)]), (.tup [(.int 0)])])]), some p0.1, some (.bl p0.2), none, none] [o1] = .nx [some (.ref 0), some (.fl [.non, (.tup []), (.tup [(.tup [(.int 0)])]), (.tup [(.tup [(.int 0)]), (.tup [(.int 1)]), (.tup [(.int 0)])]), (.tup [(.tup [(.int 0)]), (.tup [(.int 2)])]), (.tup [(.tup [(.int 0)]), (.fl [(.int 1)])]), (.tup [(.tup [(.int 0), (.int 0)]), (.tup [(.int 0), (.int 1)])]), (.fl [(.tup [(.int 0)]), (.tup [(.int 1)])]), (.tup [(.tup [(.bl true)]), (.tup [(.int 0)])])]), some p0.1, some (.bl p0.2), some p1.1, some (.bl p1.2)] [o2] := e5
  have e6' : (den (.cons made_right_r6 Z)).b FR_law_made_right [some (.ref 0), some (.fl [.non, (.tup []), (.tup [(.tup [(.int 0)])]), (.tup [(.tup [(.int 0)]), (.tup [(.int 1)]), (.tup [(.int 0)])]), (.tup [(.tup [(.int 0)]), (.tup [(.int 2)])]), (.tup [(.tup [(.int 0)]), (.fl [(.int 1)])]), (.tup [(.tup [(.int 0), (.int 0)]), (.tup [(.int 0), (.int 1)])]), (.fl [(.tup [(.int 0)]), (.tup [(.int 1)])]), (.tup [(.tup [(.bl true)]), (.tup [(.int 0)])])]), some p0.1, some (.bl p0.2), some p1.1, some (.bl p1.2)] [o2] = .rt (.bl true) [o2] := made_right_d6 _ _ _ [o2] (p1) h1
  refine ⟨o2, [], ho2.mono (by omega), ?_⟩
  exact (bcons_nx e0').trans ((bcons_nx e1').trans ((bcons_nx e2').trans ((bcons_nx e3').trans ((bcons_nx e4').trans ((bcons_nx e5').trans (e6'))))))
theorem diceF : DiceF FL 54 := fun ns spot hs => show ∃ a b, sem Ds 10000 38 true 54 [.sc (ns.map AV.int), .int (spot : Int)] [] = .ok (.ref 0) [Dc 0 a b 0] from dice_ok (Ds := Ds) (wf := 10000) (tp := true) (k := 54) (n := 33) (d := f54) (k1 := 149) (k2 := 53) (k3 := 67) (k4 := 743) (k5 := 37) (k6 := 29) rfl rfl rfl rfl rfl rfl (by decide) (by decide) (by decide) (by decide) ns spot hs
theorem turnOk : TurnOk FL (turn2 60 59) 27 := turn2_ok right_ok made_right_ok (by decide)
def rest : A := (.cons (.sA 4 (.fz (.call 15 (.cons (.fz (.bin .mul (.tup (.cons (.tup (.cons (.tup Z) (.cons (.tup (.cons (.int 1) Z)) Z))) Z)) (.int 6))) Z)))) (.cons (.sA 5 (.lst Z)) (.cons (.sFor (.gn 6) (.itE (.tup (.cons (.fnm 45) (.cons (.fnm 51) Z)))) (.cons (.sE (.app (.var 5) (.fz (.met hs (.calv 6 (.cons (.var 4) Z)))))) Z)) (.cons (.sFor (.gn 6) (.itE (.tup (.cons (.fnm 48) (.cons (.fnm 49) Z)))) (.cons (.sE (.app (.var 5) (.fz (.met hs (.calv 6 (.cons (.var 4) (.cons (.var 4) Z))))))) Z)) (.cons (.sE (.app (.var 5) (.fz (.met hs (.call 50 (.cons (.var 4) (.cons (.var 4) (.cons .non Z)))))))) (.cons (.sR (.cmp .eq (.var 5) (.bin .mul (.lst (.cons (.str "many 5") Z)) (.int 5)))) Z))))))
def oh : RS → AH | .rt _ m => m | _ => []
theorem rest1 (sc z1 z2 z3 : Option AV) (a0 : AO) : ∃ m', (den rest).b FL (sc :: z1 :: z2 :: z3 :: List.replicate 3 none) [a0] = .rt (.bl true) m' := ⟨oh ((den rest).b FL (sc :: z1 :: z2 :: z3 :: List.replicate 3 none) [a0]), by kernel_rfl⟩
theorem rest2 (sc z1 z2 z3 : Option AV) (a0 a1 : AO) : ∃ m', (den rest).b FL (sc :: z1 :: z2 :: z3 :: List.replicate 3 none) [a0, a1] = .rt (.bl true) m' := ⟨oh ((den rest).b FL (sc :: z1 :: z2 :: z3 :: List.replicate 3 none) [a0, a1]), by kernel_rfl⟩
theorem rest3 (sc z1 z2 z3 : Option AV) (a0 a1 a2 : AO) : ∃ m', (den rest).b FL (sc :: z1 :: z2 :: z3 :: List.replicate 3 none) [a0, a1, a2] = .rt (.bl true) m' := ⟨oh ((den rest).b FL (sc :: z1 :: z2 :: z3 :: List.replicate 3 none) [a0, a1, a2]), by kernel_rfl⟩
theorem rest4 (sc z1 z2 z3 : Option AV) (a0 a1 a2 a3 : AO) : ∃ m', (den rest).b FL (sc :: z1 :: z2 :: z3 :: List.replicate 3 none) [a0, a1, a2, a3] = .rt (.bl true) m' := ⟨oh ((den rest).b FL (sc :: z1 :: z2 :: z3 :: List.replicate 3 none) [a0, a1, a2, a3]), by kernel_rfl⟩
theorem rest5 (sc z1 z2 z3 : Option AV) (a0 a1 a2 a3 a4 : AO) : ∃ m', (den rest).b FL (sc :: z1 :: z2 :: z3 :: List.replicate 3 none) [a0, a1, a2, a3, a4] = .rt (.bl true) m' := ⟨oh ((den rest).b FL (sc :: z1 :: z2 :: z3 :: List.replicate 3 none) [a0, a1, a2, a3, a4]), by kernel_rfl⟩
theorem rest6 (sc z1 z2 z3 : Option AV) (a0 a1 a2 a3 a4 a5 : AO) : ∃ m', (den rest).b FL (sc :: z1 :: z2 :: z3 :: List.replicate 3 none) [a0, a1, a2, a3, a4, a5] = .rt (.bl true) m' := ⟨oh ((den rest).b FL (sc :: z1 :: z2 :: z3 :: List.replicate 3 none) [a0, a1, a2, a3, a4, a5]), by kernel_rfl⟩
theorem rest7 (sc z1 z2 z3 : Option AV) (a0 a1 a2 a3 a4 a5 a6 : AO) : ∃ m', (den rest).b FL (sc :: z1 :: z2 :: z3 :: List.replicate 3 none) [a0, a1, a2, a3, a4, a5, a6] = .rt (.bl true) m' := ⟨oh ((den rest).b FL (sc :: z1 :: z2 :: z3 :: List.replicate 3 none) [a0, a1, a2, a3, a4, a5, a6]), by kernel_rfl⟩
theorem rest8 (sc z1 z2 z3 : Option AV) (a0 a1 a2 a3 a4 a5 a6 a7 : AO) : ∃ m', (den rest).b FL (sc :: z1 :: z2 :: z3 :: List.replicate 3 none) [a0, a1, a2, a3, a4, a5, a6, a7] = .rt (.bl true) m' := ⟨oh ((den rest).b FL (sc :: z1 :: z2 :: z3 :: List.replicate 3 none) [a0, a1, a2, a3, a4, a5, a6, a7]), by kernel_rfl⟩
theorem says : Says Ds 10000 40 61 := law_says (n := 35) (d := f61) (L := 8) (t := 3) (K := 27) (q := 3) (st := (turn2 60 59)) (rest := rest) rfl rfl rfl rfl rfl rfl (by decide) (by decide) (by decide) (by decide) diceF turnOk fun sc z1 z2 z3 => len8 (rest1 sc z1 z2 z3) (rest2 sc z1 z2 z3) (rest3 sc z1 z2 z3) (rest4 sc z1 z2 z3) (rest5 sc z1 z2 z3) (rest6 sc z1 z2 z3) (rest7 sc z1 z2 z3) (rest8 sc z1 z2 z3)
end
end Hc72
open PySem PySem.W PyProof.Rows
set_option maxHeartbeats 0 in
theorem PySem.Challenge.cw_heedcells_k72_errors_of_nets_holds : PySem.Challenge.rw_heedcells_k72_errors_of_nets.Holds := by
  w_on; o_law; k_head; (case hw => w_witness2)
  k_fill
  refine Mi.walk_me (l := PySem.Challenge.rw_heedcells_k72_errors_of_nets) (n := 63) rfl (by decide) rfl (fun w h Y => PySem.W.km_in_of Y) ?F
  case F =>
    intro w loose mean mg mb fa h Tp KX G hmg
    refine' Hc72.all_mk rfl Tp KX G hmg ?q_n0 ?q_n1 ?q_n2 ?q_n3 ?q_n4 ?q_n5 ?q_n6 ?q_n7 ?q_n8 ?q_n9 ?q_n10 ?q_n11 ?q_n12 ?q_n13 ?q_n14 ?q_n15 ?q_n16 ?q_n17 ?q_n18 ?q_n19 ?q_n20 ?q_n21 ?q_n22 ?q_n23 ?q_n24 ?q_n25 ?q_n26 ?q_n27 ?q_n28 ?q_n29 ?q_n30 ?q_n31 ?q_n32 ?q_n33 ?q_n34 ?q_n35 ?q_n36 ?q_n37 ?q_n38 ?q_n39 ?q_n40 ?q_n41 ?q_n42 ?q_n43 ?q_n44 ?q_n45 ?q_n46 ?q_n47 ?q_n48 ?q_n49 ?q_n50 ?q_n51 ?q_n52 ?q_n53 ?q_n54 ?q_n55 ?q_n56 ?q_gx1 ?q_gx2 ?q_gx3 ?q_gx4 ?q_gx5 ?q_gx6 ?q_gx7 ?q_gm ?q_m0 ?q_m1 ?q_m2 ?q_m3 ?q_m4 ?q_s0 ?q_s1 ?q_z0 ?q_z1 ?q_z2 ?q_z3 ?q_z4 ?q_z5 ?q_z6 ?q_z7 ?q_z8 ?q_z9 ?q_z10 ?q_z11 ?q_z12 ?q_z13 ?q_z14 ?q_z15 ?q_z16 ?q_zs ?q_fm16 ?q_fm17 ?q_fm18 ?q_fm19 ?q_fm20 ?q_fi8 ?q_fs8 ?q_fi6 ?q_fi7 ?q_l0 ?q_c0 ?q_k0 ?q_l1 ?q_c1 ?q_k1 ?q_l2 ?q_c2 ?q_k2 ?q_l3 ?q_c3 ?q_k3 ?q_l4 ?q_c4 ?q_k4 ?q_l5 ?q_c5 ?q_k5 ?q_l6 ?q_c6 ?q_k6 ?q_l7 ?q_c7 ?q_k7 ?q_l8 ?q_c8 ?q_k8 ?q_l9 ?q_c9 ?q_k9 ?q_l10 ?q_c10 ?q_k10 ?q_l11 ?q_c11 ?q_k11 ?q_l12 ?q_c12 ?q_k12 ?q_l13 ?q_c13 ?q_k13 ?q_l14 ?q_c14 ?q_k14 ?q_l15 ?q_c15 ?q_k15 ?q_l16 ?q_c16 ?q_k16 ?q_l17 ?q_c17 ?q_k17 ?q_l18 ?q_c18 ?q_k18 ?q_l19 ?q_c19 ?q_k19 ?q_l20 ?q_c20 ?q_k20 ?q_l21 ?q_c21 ?q_k21 ?q_l22 ?q_c22 ?q_k22 ?q_l23 ?q_c23 ?q_k23 ?q_l24 ?q_c24 ?q_k24 ?q_l25 ?q_c25 ?q_k25 ?q_l26 ?q_c26 ?q_k26 ?q_l27 ?q_c27 ?q_k27 ?q_l28 ?q_c28 ?q_k28 ?q_l29 ?q_c29 ?q_k29 ?q_l30 ?q_c30 ?q_k30 ?q_l31 ?q_c31 ?q_k31 ?q_l32 ?q_c32 ?q_k32 ?q_l33 ?q_c33 ?q_k33 ?q_l34 ?q_c34 ?q_k34 ?q_l35 ?q_c35 ?q_k35 ?q_l36 ?q_c36 ?q_k36 ?q_l37 ?q_c37 ?q_k37 ?q_l38 ?q_c38 ?q_k38 ?q_l39 ?q_c39 ?q_k39 ?q_l40 ?q_c40 ?q_k40 ?q_l41 ?q_c41 ?q_k41 ?q_l42 ?q_c42 ?q_k42 ?q_l43 ?q_c43 ?q_k43 ?q_l44 ?q_c44 ?q_k44 ?q_l45 ?q_c45 ?q_k45 ?q_l46 ?q_c46 ?q_k46 ?q_l47 ?q_c47 ?q_k47 ?q_l48 ?q_c48 ?q_k48 ?q_l49 ?q_c49 ?q_k49 ?q_l50 ?q_c50 ?q_k50 ?q_l51 ?q_c51 ?q_k51 ?q_l52 ?q_c52 ?q_k52 ?q_l53 ?q_c53 ?q_k53 ?q_l54 ?q_c54 ?q_k54 ?q_l55 ?q_c55 ?q_k55 ?q_l56 ?q_c56 ?q_k56 ?q_l57 ?q_c57 ?q_k57 ?q_l58 ?q_c58 ?q_k58 ?q_l59 ?q_c59 ?q_k59 ?q_u59 ?q_v59 ?q_w59 ?q_r59 ?q_l60 ?q_c60 ?q_k60 ?q_u60 ?q_v60 ?q_w60 ?q_r60 ?q_l61 ?q_c61 ?q_k61 ?q_u61 ?q_v61 ?q_w61 ?q_r61 ?q_kC8 ?q_mk8 ?q_sc8 ?q_st8 ?q_si8 ?q_ki8 ?q_me16 ?q_me17 ?q_me18 ?q_me19 ?q_me20 ?q_lm ?q_cmm ?q_km ?q_exm ?q_xo1 ?q_xo2 ?q_xo3 ?q_xo4 ?q_xo5 ?q_le6 ?q_xc6 ?q_xd6 ?q_xv6 ?q_xw6 ?q_xb6 ?q_xf6 ?q_xn6 ?q_le7 ?q_xc7 ?q_xd7 ?q_xv7 ?q_xw7 ?q_xb7 ?q_xf7 ?q_xn7 ?q_ne59_60 ?q_ne59_61 ?q_ne60_61 Hc72.says ⟨rfl, by decide, by decide⟩
    (case q_n0 => k_is)
    (case q_n1 => k_is)
    (case q_n2 => k_is)
    (case q_n3 => k_is)
    (case q_n4 => k_is)
    (case q_n5 => k_is)
    (case q_n6 => k_is)
    (case q_n7 => k_is)
    (case q_n8 => k_is)
    (case q_n9 => k_is)
    (case q_n10 => k_is)
    (case q_n11 => k_is)
    (case q_n12 => k_is)
    (case q_n13 => k_is)
    (case q_n14 => k_is)
    (case q_n15 => k_is)
    (case q_n16 => k_is)
    (case q_n17 => k_is)
    (case q_n18 => k_is)
    (case q_n19 => k_is)
    (case q_n20 => k_is)
    (case q_n21 => k_is)
    (case q_n22 => k_is)
    (case q_n23 => k_is)
    (case q_n24 => k_is)
    (case q_n25 => k_is)
    (case q_n26 => k_is)
    (case q_n27 => k_is)
    (case q_n28 => k_is)
    (case q_n29 => k_is)
    (case q_n30 => k_is)
    (case q_n31 => k_is)
    (case q_n32 => k_is)
    (case q_n33 => k_is)
    (case q_n34 => k_is)
    (case q_n35 => k_is)
    (case q_n36 => k_is)
    (case q_n37 => k_is)
    (case q_n38 => k_is)
    (case q_n39 => k_is)
    (case q_n40 => k_is)
    (case q_n41 => k_is)
    (case q_n42 => k_is)
    (case q_n43 => k_is)
    (case q_n44 => k_is)
    (case q_n45 => k_is)
    (case q_n46 => k_is)
    (case q_n47 => k_is)
    (case q_n48 => k_is)
    (case q_n49 => k_is)
    (case q_n50 => k_is)
    (case q_n51 => k_is)
    (case q_n52 => k_is)
    (case q_n53 => k_is)
    (case q_n54 => k_is)
    (case q_n55 => k_is)
    (case q_n56 => k_is)
    (case q_gx1 => k_is)
    (case q_gx2 => k_is)
    (case q_gx3 => k_is)
    (case q_gx4 => k_is)
    (case q_gx5 => k_is)
    (case q_gx6 => k_is)
    (case q_gx7 => k_is)
    (case q_gm => k_is)
    (case q_fm16 => k_is)
    (case q_fm17 => k_is)
    (case q_fm18 => k_is)
    (case q_fm19 => k_is)
    (case q_fm20 => k_is)
    (case q_fi8 => k_is)
    (case q_fs8 => k_is)
    (case q_fi6 => k_is)
    (case q_fi7 => k_is)
    (case q_m0 => k_is)
    (case q_m1 => k_is)
    (case q_m2 => k_is)
    (case q_m3 => k_is)
    (case q_m4 => k_is)
    (case q_s0 => k_is)
    (case q_s1 => k_is)
    (case q_z0 => k_is)
    (case q_z1 => k_is)
    (case q_z2 => k_is)
    (case q_z3 => k_is)
    (case q_z4 => k_is)
    (case q_z5 => k_is)
    (case q_z6 => k_is)
    (case q_z7 => k_is)
    (case q_z8 => k_is)
    (case q_z9 => k_is)
    (case q_z10 => k_is)
    (case q_z11 => k_is)
    (case q_z12 => k_is)
    (case q_z13 => k_is)
    (case q_z14 => k_is)
    (case q_z15 => k_is)
    (case q_z16 => k_is)
    (case q_zs => k_is)
    (case q_l0 => k_is)
    (case q_c0 => k_is)
    (case q_k0 => k_is)
    (case q_l1 => k_is)
    (case q_c1 => k_is)
    (case q_k1 => k_is)
    (case q_l2 => k_is)
    (case q_c2 => k_is)
    (case q_k2 => k_is)
    (case q_l3 => k_is)
    (case q_c3 => k_is)
    (case q_k3 => k_is)
    (case q_l4 => k_is)
    (case q_c4 => k_is)
    (case q_k4 => k_is)
    (case q_l5 => k_is)
    (case q_c5 => k_is)
    (case q_k5 => k_is)
    (case q_l6 => k_is)
    (case q_c6 => k_is)
    (case q_k6 => k_is)
    (case q_l7 => k_is)
    (case q_c7 => k_is)
    (case q_k7 => k_is)
    (case q_l8 => k_is)
    (case q_c8 => k_is)
    (case q_k8 => k_is)
    (case q_l9 => k_is)
    (case q_c9 => k_is)
    (case q_k9 => k_is)
    (case q_l10 => k_is)
    (case q_c10 => k_is)
    (case q_k10 => k_is)
    (case q_l11 => k_is)
    (case q_c11 => k_is)
    (case q_k11 => k_is)
    (case q_l12 => k_is)
    (case q_c12 => k_is)
    (case q_k12 => k_is)
    (case q_l13 => k_is)
    (case q_c13 => k_is)
    (case q_k13 => k_is)
    (case q_l14 => k_is)
    (case q_c14 => k_is)
    (case q_k14 => k_is)
    (case q_l15 => k_is)
    (case q_c15 => k_is)
    (case q_k15 => k_is)
    (case q_l16 => k_is)
    (case q_c16 => k_is)
    (case q_k16 => k_is)
    (case q_l17 => k_is)
    (case q_c17 => k_is)
    (case q_k17 => k_is)
    (case q_l18 => k_is)
    (case q_c18 => k_is)
    (case q_k18 => k_is)
    (case q_l19 => k_is)
    (case q_c19 => k_is)
    (case q_k19 => k_is)
    (case q_l20 => k_is)
    (case q_c20 => k_is)
    (case q_k20 => k_is)
    (case q_l21 => k_is)
    (case q_c21 => k_is)
    (case q_k21 => k_is)
    (case q_l22 => k_is)
    (case q_c22 => k_is)
    (case q_k22 => k_is)
    (case q_l23 => k_is)
    (case q_c23 => k_is)
    (case q_k23 => k_is)
    (case q_l24 => k_is)
    (case q_c24 => k_is)
    (case q_k24 => k_is)
    (case q_l25 => k_is)
    (case q_c25 => k_is)
    (case q_k25 => k_is)
    (case q_l26 => k_is)
    (case q_c26 => k_is)
    (case q_k26 => k_is)
    (case q_l27 => k_is)
    (case q_c27 => k_is)
    (case q_k27 => k_is)
    (case q_l28 => k_is)
    (case q_c28 => k_is)
    (case q_k28 => k_is)
    (case q_l29 => k_is)
    (case q_c29 => k_is)
    (case q_k29 => k_is)
    (case q_l30 => k_is)
    (case q_c30 => k_is)
    (case q_k30 => k_is)
    (case q_l31 => k_is)
    (case q_c31 => k_is)
    (case q_k31 => k_is)
    (case q_l32 => k_is)
    (case q_c32 => k_is)
    (case q_k32 => k_is)
    (case q_l33 => k_is)
    (case q_c33 => k_is)
    (case q_k33 => k_is)
    (case q_l34 => k_is)
    (case q_c34 => k_is)
    (case q_k34 => k_is)
    (case q_l35 => k_is)
    (case q_c35 => k_is)
    (case q_k35 => k_is)
    (case q_l36 => k_is)
    (case q_c36 => k_is)
    (case q_k36 => k_is)
    (case q_l37 => k_is)
    (case q_c37 => k_is)
    (case q_k37 => k_is)
    (case q_l38 => k_is)
    (case q_c38 => k_is)
    (case q_k38 => k_is)
    (case q_l39 => k_is)
    (case q_c39 => k_is)
    (case q_k39 => k_is)
    (case q_l40 => k_is)
    (case q_c40 => k_is)
    (case q_k40 => k_is)
    (case q_l41 => k_is)
    (case q_c41 => k_is)
    (case q_k41 => k_is)
    (case q_l42 => k_is)
    (case q_c42 => k_is)
    (case q_k42 => k_is)
    (case q_l43 => k_is)
    (case q_c43 => k_is)
    (case q_k43 => k_is)
    (case q_l44 => k_is)
    (case q_c44 => k_is)
    (case q_k44 => k_is)
    (case q_l45 => k_is)
    (case q_c45 => k_is)
    (case q_k45 => k_is)
    (case q_l46 => k_is)
    (case q_c46 => k_is)
    (case q_k46 => k_is)
    (case q_l47 => k_is)
    (case q_c47 => k_is)
    (case q_k47 => k_is)
    (case q_l48 => k_is)
    (case q_c48 => k_is)
    (case q_k48 => k_is)
    (case q_l49 => k_is)
    (case q_c49 => k_is)
    (case q_k49 => k_is)
    (case q_l50 => k_is)
    (case q_c50 => k_is)
    (case q_k50 => k_is)
    (case q_l51 => k_is)
    (case q_c51 => k_is)
    (case q_k51 => k_is)
    (case q_l52 => k_is)
    (case q_c52 => k_is)
    (case q_k52 => k_is)
    (case q_l53 => k_is)
    (case q_c53 => k_is)
    (case q_k53 => k_is)
    (case q_l54 => k_is)
    (case q_c54 => k_is)
    (case q_k54 => k_is)
    (case q_l55 => k_is)
    (case q_c55 => k_is)
    (case q_k55 => k_is)
    (case q_l56 => k_is)
    (case q_c56 => k_is)
    (case q_k56 => k_is)
    (case q_l57 => k_is)
    (case q_c57 => k_is)
    (case q_k57 => k_is)
    (case q_l58 => k_is)
    (case q_c58 => k_is)
    (case q_k58 => k_is)
    (case q_l59 => k_is)
    (case q_c59 => k_is)
    (case q_k59 => k_is)
    (case q_u59 => k_is)
    (case q_v59 => rfl)
    (case q_w59 => kernel_rfl)
    (case q_r59 => kernel_rfl)
    (case q_l60 => k_is)
    (case q_c60 => k_is)
    (case q_k60 => k_is)
    (case q_u60 => k_is)
    (case q_v60 => rfl)
    (case q_w60 => kernel_rfl)
    (case q_r60 => kernel_rfl)
    (case q_l61 => k_is)
    (case q_c61 => k_is)
    (case q_k61 => k_is)
    (case q_u61 => k_is)
    (case q_v61 => rfl)
    (case q_w61 => kernel_rfl)
    (case q_r61 => kernel_rfl)
    (case q_kC8 => k_is)
    (case q_mk8 => kernel_rfl)
    (case q_sc8 => kernel_rfl)
    (case q_st8 => kernel_rfl)
    (case q_si8 => kernel_rfl)
    (case q_ki8 => kernel_rfl)
    (case q_me16 => kernel_rfl)
    (case q_me17 => kernel_rfl)
    (case q_me18 => kernel_rfl)
    (case q_me19 => kernel_rfl)
    (case q_me20 => kernel_rfl)
    (case q_lm => k_is)
    (case q_cmm => k_is)
    (case q_km => k_is)
    (case q_exm => kernel_rfl)
    (case q_xo1 => kernel_rfl)
    (case q_xo2 => kernel_rfl)
    (case q_xo3 => kernel_rfl)
    (case q_xo4 => kernel_rfl)
    (case q_xo5 => kernel_rfl)
    (case q_le6 => k_is)
    (case q_xc6 => k_is)
    (case q_xd6 => k_is)
    (case q_xv6 => rfl)
    (case q_xw6 => kernel_rfl)
    (case q_xb6 => kernel_rfl)
    (case q_xf6 => kernel_rfl)
    (case q_xn6 => k_is)
    (case q_le7 => k_is)
    (case q_xc7 => k_is)
    (case q_xd7 => k_is)
    (case q_xv7 => rfl)
    (case q_xw7 => kernel_rfl)
    (case q_xb7 => kernel_rfl)
    (case q_xf7 => kernel_rfl)
    (case q_xn7 => k_is)
    (case q_ne59_60 => decide)
    (case q_ne59_61 => decide)
    (case q_ne60_61 => decide)
